import PyProof.Rows.All
import Wide.All
import OpenK.AllK
import Wide.FinOn
import HandS.Base
import HandS.Call
import HandS.List
import HandS.Comp
import HandS.TupAny
import HandS.TupMul
import HandS.WideBits
import HandS.IsInst
import HandS.Conv
import HandS.ExcOwn
import HandS.Iter
import HandS.Zip
import HandS.Words
import HandS.TryOnly
import HandS.CallLocal
import HandS.Style
import HandS.TryMany
import HandS.ExcField
import HandS.WordsExc
import HandS.Defaults
import HandS.Head0
import HandS.Head1
import HandS.Head2
import HandS.HeadEnd
import HandS.HeadHook1
import HandS.HeadHook2
import HandS.HeadHook3
import HandS.HeadHook4
import HandS.EndBits
import PySem.Challenge.RW_dualroads_k34_whole_transform_tables
set_option Elab.async false
set_option linter.all false
set_option maxRecDepth 1000000
set_option maxHeartbeats 0
/-! Mn1: values, stores, a small language, its run. -/
namespace Mn
open PySem

/-- a value: scalars, tuples by their items, a list just made (tl), a locked list (kl), a list in the store (lr), a def of the module (fn) -/
inductive D where
  | non | bl (b : Bool) | int (i : Int) | str (s : List Nat) | tup (xs : List D) | tl (xs : List D) | kl (xs : List D) | lr (n : Nat) | fn (g : Nat)

/-- what the store holds: a list -/
inductive Ob where
  | lst (xs : List D)

/-- not a list just made -/
def notl : D → Bool
  | .tl _ => false
  | _ => true

abbrev Sto := List Ob
abbrev Rho := List (Option D)

/-- what a run gives -/
inductive Out (α : Type) where
  | ok (a : α) (st : Sto) | ex (c : Nat) (p : List D) (st : Sto) | no

def Out.bind {α β : Type} (x : Out α) (f : α → Sto → Out β) : Out β := match x with
  | .ok a st => f a st
  | .ex c p st => .ex c p st
  | .no => .no

/-- types that isinstance is asked for -/
inductive Ty where
  | int | bool | str | tuple | list
  deriving DecidableEq

/-- operations on values -/
inductive Pr where
  | add | sub | mul | fdiv | mod | neg
  | eq | ne | lt | le | gt | ge | isN | notN | isin | notin
  | len | abs | toInt | all | any | sum | tuple | list | max | min | max2 | min2
  | ix | sl (lo hi : Bool)
  | append | pop0 | pop1
  | inst (ts : List Ty)
  deriving DecidableEq

mutual
/-- expressions -/
inductive E where
  | var (i : Nat) | cst (d : D)
  | tupE (es : List E) | lstE (es : List E)
  | prim (p : Pr) (es : List E)
  | meth (p : Pr) (o : E) (es : List E)
  | and (a b : E) | or (a b : E) | not (a : E) | ite (c a b : E)
  | chain (p q : Pr) (a b c : E) | sl3 (a b c : E)
  | call (g : Nat) (es : List E) | callv (i : Nat) (es : List E)
  | comp (elt : E) (tg : Tg) (src : Src) (cs : List E) (own : List Nat)
  | comp2 (elt : E) (tg : Tg) (src : Src) (cs : List E) (tg1 : Tg) (src1 : Src) (cs1 : List E) (own own1 : List Nat)
/-- targets -/
inductive Tg where
  | nm (i : Nat) | tp (ts : List Tg) | sb (o i : E)
/-- what is walked -/
inductive Src where
  | ex (e : E) | rng (es : List E) | enu (e : E) | zip (a b : E)
end

/-- a suite of an except clause: a return of written values (some) and of what the error bears (none) -/
inductive Su where
  | one (o : Option D) | tup (os : List (Option D))

/-- statements -/
inductive S where
  | ex (e : E) | ret (e : E) | ret0 | pas | brk | cnt
  | asg (t : Tg) (e : E)
  | aug (i : Nat) (p : Pr) (e : E)
  | augS (o i : E) (p : Pr) (e : E)
  | ifS (c : E) (a b : List S)
  | whl (c : E) (b : List S)
  | for (t : Tg) (src : Src) (b : List S)
  | rse (c : Nat) (es : List E)
  | tryS (b : List S) (hs : List (Nat × Su))

/-! ### values -/
def lstOf (st : Sto) : D → Option (List D)
  | .tl xs => some xs
  | .kl xs => some xs
  | .lr n => (match st[n]? with
    | some (.lst xs) => some xs
    | none => none)
  | _ => none
/-- .. that is no locked one -/
def mlOf (st : Sto) : D → Option (List D)
  | .tl xs => some xs
  | .lr n => (match st[n]? with
    | some (.lst xs) => some xs
    | none => none)
  | _ => none
def seqOf (st : Sto) : D → Option (List D)
  | .tup xs => some xs
  | d => lstOf st d

/-- a list just made, when it is kept: laid into the store -/
def mat (d : D) (st : Sto) : D × Sto := match d with
  | .tl xs => (.lr st.length, st ++ [.lst xs])
  | d => (d, st)
def mats : List D → Sto → List D × Sto
  | [], st => ([], st)
  | d :: ds, st => ((mat d st).1 :: (mats ds (mat d st).2).1, (mats ds (mat d st).2).2)

def mapO {α β : Type} (f : α → Option β) : List α → Option (List β)
  | [] => some []
  | x :: xs => match f x, mapO f xs with
    | some y, some ys => some (y :: ys)
    | _, _ => none

/-- the data of a value, for == -/
def toP (st : Sto) : Nat → D → Option PyData
  | 0, _ => none
  | n + 1, d => match d with
    | .non => some .none
    | .bl b => some (.bool b)
    | .int i => some (.int i)
    | .str s => if PySem.PyData.strOk ⟨s.toArray⟩ then some (.str ⟨s.toArray⟩) else none
    | .tup xs => (match mapO (toP st n) xs with
      | some ps => some (.tuple ps)
      | none => none)
    | .fn _ => none
    | d => (match lstOf st d with
      | some xs => (match mapO (toP st n) xs with
        | some ps => some (.list ps)
        | none => none)
      | none => none)

def eqD (st : Sto) (a b : D) : Option Bool := match a, b with
  | .int i, .int j => some (decide (i = j))
  | .bl i, .bl j => some (decide (i = j))
  | .non, .non => some true
  | a, b => (match toP st 16 a, toP st 16 b with
    | some p, some q => some (PyData.eqv p q)
    | _, _ => none)

def isTup : D → Bool
  | .tup _ => true
  | _ => false
def isNon : D → Bool
  | .non => true
  | _ => false
def flat : D → Bool
  | .non => true
  | .bl _ => true
  | .int _ => true
  | .str _ => true
  | _ => false
def eqF : D → D → Bool
  | .non, .non => true
  | .bl a, .bl b => a == b
  | .bl a, .int b => (if a then 1 else 0) == b
  | .int a, .bl b => a == (if b then 1 else 0)
  | .int a, .int b => a == b
  | .str a, .str b => a == b
  | _, _ => false

def allB : List D → Option (List Bool) := mapO fun d => match d with
  | .bl b => some b
  | _ => none
def allI : List D → Option (List Int) := mapO fun d => match d with
  | .int i => some i
  | _ => none

def maxI : Int → List Int → Int
  | m, [] => m
  | m, x :: xs => maxI (if x > m then x else m) xs
def minI : Int → List Int → Int
  | m, [] => m
  | m, x :: xs => minI (if x < m then x else m) xs

/-- the type of a value -/
def tyOf (st : Sto) : D → Option (Option Ty)
  | .non => some none
  | .bl _ => some (some .bool)
  | .int _ => some (some .int)
  | .str _ => some (some .str)
  | .tup _ => some (some .tuple)
  | .tl _ => some (some .list)
  | .kl _ => some (some .list)
  | .lr n => (match st[n]? with
    | some _ => some (some .list)
    | none => none)
  | .fn _ => none
def subTy : Ty → Ty → Bool
  | .bool, .int => true
  | a, b => decide (a = b)

def optI : D → Option Int
  | .int i => some i
  | _ => none

/-- the items between two places -/
def cut {α : Type} (xs : List α) (lo hi : Option Int) : List α := (xs.drop (HT.sIx xs.length 0 lo)).take (HT.sIx xs.length xs.length hi - HT.sIx xs.length 0 lo)

def semSl (d : D) (lo hi : Option Int) (st : Sto) : Option (D × Sto) := match d with
  | .tup xs => some (.tup (cut xs lo hi), st)
  | d => (match lstOf st d with
    | some xs => some (.tl (cut xs lo hi), st)
    | none => none)

/-- one operation -/
def sem1 (p : Pr) (a : D) (st : Sto) : Option (D × Sto) := match p with
  | .neg => (match a with
    | .int i => some (.int (-i), st)
    | _ => none)
  | .len => (match seqOf st a with
    | some xs => some (.int xs.length, st)
    | none => none)
  | .abs => (match a with
    | .int i => some (.int (if i < 0 then -i else i), st)
    | _ => none)
  | .toInt => (match a with
    | .int i => some (.int i, st)
    | .bl b => some (.int (if b then 1 else 0), st)
    | _ => none)
  | .all => (match lstOf st a with
    | some xs => (match allB xs with
      | some bs => some (.bl (bs.all id), st)
      | none => none)
    | none => none)
  | .any => (match lstOf st a with
    | some xs => (match allB xs with
      | some bs => some (.bl (bs.any id), st)
      | none => none)
    | none => none)
  | .sum => (match lstOf st a with
    | some xs => (match allI xs with
      | some ns => some (.int ns.sum, st)
      | none => none)
    | none => none)
  | .max => (match lstOf st a with
    | some xs => (match allI xs with
      | some (n :: ns) => some (.int (maxI n ns), st)
      | _ => none)
    | none => none)
  | .min => (match lstOf st a with
    | some xs => (match allI xs with
      | some (n :: ns) => some (.int (minI n ns), st)
      | _ => none)
    | none => none)
  | .tuple => (match seqOf st a with
    | some xs => some (.tup xs, st)
    | none => none)
  | .list => (match seqOf st a with
    | some xs => some (.tl xs, st)
    | none => none)
  | .pop0 => (match a with
    | .lr n => (match st[n]? with
      | some (.lst xs) => (match xs[xs.length - 1]? with
        | some x => some (x, st.set n (.lst xs.dropLast))
        | none => none)
      | _ => none)
    | _ => none)
  | .inst ts => (match tyOf st a with
    | some (some t) => some (.bl (ts.any (subTy t)), st)
    | some none => some (.bl false, st)
    | none => none)
  | _ => none

def isArith : Pr → Bool
  | .add => true | .sub => true | .mul => true | .fdiv => true | .mod => true | _ => false
/-- int op int -/
def semI (p : Pr) (i j : Int) : Option D := match p with
  | .add => some (.int (i + j))
  | .sub => some (.int (i - j))
  | .mul => if Builtin.Int.intBits i + Builtin.Int.intBits j ≤ 134217728 then some (.int (i * j)) else none
  | .fdiv => if j ≠ 0 ∧ j.natAbs.log2 < 9000 then some (.int (i.fdiv j)) else none
  | .mod => if j ≠ 0 then some (.int (i.fmod j)) else none
  | .lt => some (.bl (decide (i < j)))
  | .le => some (.bl (decide (i ≤ j)))
  | .gt => some (.bl (decide (j < i)))
  | .ge => some (.bl (decide (j ≤ i)))
  | .max2 => some (.int (if j > i then j else i))
  | .min2 => some (.int (if j < i then j else i))
  | _ => none
def sem2 (p : Pr) (a b : D) (st : Sto) : Option (D × Sto) := match p with
  | .eq => (match eqD st a b with
    | some r => some (.bl r, st)
    | none => none)
  | .ne => (match eqD st a b with
    | some r => some (.bl (!r), st)
    | none => none)
  | .isN => (match b with
    | .non => some (.bl (isNon a), st)
    | _ => none)
  | .notN => (match b with
    | .non => some (.bl (!isNon a), st)
    | _ => none)
  | .isin => (match seqOf st b with
    | some xs => if flat a && xs.all flat then some (.bl (xs.any fun y => eqF y a), st) else none
    | none => none)
  | .notin => (match seqOf st b with
    | some xs => if flat a && xs.all flat then some (.bl (!xs.any fun y => eqF y a), st) else none
    | none => none)
  | .ix => (match b with
    | .int i => (match seqOf st a with
      | some xs => (match L2.atI xs i with
        | some d => some (d, st)
        | none => none)
      | none => none)
    | _ => none)
  | .append => (match a with
    | .lr n => (match st[n]? with
      | some (.lst xs) => if xs.length < sizeLine then some (.non, (mat b st).2.set n (.lst (xs ++ [(mat b st).1]))) else none
      | _ => none)
    | _ => none)
  | .pop1 => (match a, b with
    | .lr n, .int i => (match st[n]? with
      | some (.lst xs) => (match L2.ixN xs.length i with
        | some j => (match xs[j]? with
          | some d => some (d, st.set n (.lst (xs.eraseIdx j)))
          | none => none)
        | none => none)
      | _ => none)
    | _, _ => none)
  | p => (match a, b with
    | .int i, .int j => (match semI p i j with
      | some d => some (d, st)
      | none => none)
    | .tup xs, .tup ys => (match p with
      | .add => if xs.length + ys.length ≤ sizeLine then some (.tup (xs ++ ys), st) else none
      | _ => none)
    | .tup xs, .int k => (match p with
      | .mul => if xs.isEmpty = false ∧ 2 ≤ k ∧ k ≤ 1000 ∧ xs.length ≤ 1000 then some (.tup (List.replicate k.toNat xs).flatten, st) else none
      | _ => none)
    | a, .int k => (match p with
      | .mul => (match mlOf st a with
        | some xs => if -(2 ^ 63) ≤ k ∧ k < 2 ^ 63 ∧ xs.length * k.toNat ≤ sizeLine then some (.tl (List.replicate k.toNat xs).flatten, st) else none
        | none => none)
      | _ => none)
    | a, b => (match p with
      | .add => (match mlOf st a, mlOf st b with
        | some xs, some ys => if xs.length + ys.length ≤ sizeLine then some (.tl (xs ++ ys), st) else none
        | _, _ => none)
      | _ => none))
def semP (p : Pr) (ds : List D) (st : Sto) : Option (D × Sto) := match ds with
  | [a] => (match p with
    | .sl false false => semSl a none none st
    | p => sem1 p a st)
  | [a, b] => (match p with
    | .sl true false => (match b with
      | .int i => semSl a (some i) none st
      | _ => none)
    | .sl false true => (match b with
      | .int i => semSl a none (some i) st
      | _ => none)
    | p => sem2 p a b st)
  | _ => none

/-! ### what is walked -/
/-- items by turns: fixed ones, a list of the store as it stands, a range, pairs -/
inductive Sv where
  | fix (xs : List D) | cell (n : Nat) | rng (lo c : Int) | enu (s : Sv) | zip (s t : Sv)
def Sv.item : Sv → Sto → Nat → Option D
  | .fix xs, _, i => xs[i]?
  | .cell n, st, i => (match lstOf st (.lr n) with
    | some xs => xs[i]?
    | none => none)
  | .rng lo c, _, i => some (.int (lo + i * c))
  | .enu s, st, i => (match s.item st i with
    | some d => some (.tup [.int i, d])
    | none => none)
  | .zip s t, st, i => (match s.item st i, t.item st i with
    | some d, some e => some (.tup [d, e])
    | _, _ => none)
/-- behind the last turn there is none more -/
def Sv.ends : Sv → Sto → Nat → Bool
  | .fix xs, _, n => xs.length == n
  | .cell m, st, n => (match lstOf st (.lr m) with
    | some xs => xs.length == n
    | none => false)
  | .rng _ _, _, _ => true
  | .enu s, st, n => s.ends st n
  | .zip s t, st, n => s.ends st n || t.ends st n

def svOf (st : Sto) : D → Option (Sv × Nat)
  | .tup xs => some (.fix xs, xs.length)
  | .tl xs => some (.fix xs, xs.length)
  | .kl xs => some (.fix xs, xs.length)
  | .lr n => (match lstOf st (.lr n) with
    | some xs => some (.cell n, xs.length)
    | none => none)
  | _ => none

def inR (i : Int) : Bool := decide (-(2 ^ 62) ≤ i) && decide (i < 2 ^ 62)
def rngOf : List D → Option (Sv × Nat)
  | [.int j] => if inR j then some (.rng 0 1, j.toNat) else none
  | [.int i, .int j] => if inR i && inR j then some (.rng i 1, (j - i).toNat) else none
  | [.int i, .int j, .int c] => if inR i && inR j && c == -1 then some (.rng i (-1), (i - j).toNat) else none
  | _ => none

def wipe (ρ : Rho) : List Nat → Rho
  | [] => ρ
  | v :: vs => (wipe ρ vs).set v none

/-! ### turns -/
/-- a comprehension's turns: acc what is made so far -/
def turns (sv : Sv) (body : D → List D → Sto → Out (List D)) : Nat → Nat → List D → Sto → Out (List D)
  | 0, i, acc, st => if sv.ends st i then .ok acc st else .no
  | k + 1, i, acc, st => match sv.item st i with
    | some d => (body d acc st).bind fun acc st => turns sv body k (i + 1) acc st
    | none => .no

/-- where a statement leads -/
inductive Fl where
  | nx | brk | cnt | ret (d : D)

def loopF (sv : Sv) (body : D → Rho → Sto → Out (Fl × Rho)) : Nat → Nat → Rho → Sto → Out (Fl × Rho)
  | 0, i, ρ, st => if sv.ends st i then .ok (.nx, ρ) st else .no
  | k + 1, i, ρ, st => match sv.item st i with
    | some d => (body d ρ st).bind fun fr st => match fr with
      | (.nx, ρ) => loopF sv body k (i + 1) ρ st
      | (.cnt, ρ) => loopF sv body k (i + 1) ρ st
      | (.brk, ρ) => .ok (.nx, ρ) st
      | (.ret d, ρ) => .ok (.ret d, ρ) st
    | none => .no
def loopW (c : Rho → Sto → Out Bool) (body : Rho → Sto → Out (Fl × Rho)) : Nat → Rho → Sto → Out (Fl × Rho)
  | 0, _, _ => .no
  | k + 1, ρ, st => (c ρ st).bind fun t st => if t then (body ρ st).bind fun fr st => (match fr with
      | (.nx, ρ) => loopW c body k ρ st
      | (.cnt, ρ) => loopW c body k ρ st
      | (.brk, ρ) => .ok (.nx, ρ) st
      | (.ret d, ρ) => .ok (.ret d, ρ) st)
    else .ok (.nx, ρ) st

/-- o[i] = v -/
def setD (o i v : D) (st : Sto) : Option Sto := match o, i with
  | .lr n, .int k => (match st[n]? with
    | some (.lst xs) => (match L2.ixN xs.length k with
      | some j => some ((mat v st).2.set n (.lst (xs.set j (mat v st).1)))
      | none => none)
    | _ => none)
  | _, _ => none

/-! ### the run of an expression -/
/-- calls of defs, while loops' bound -/
structure Cf where
  call : Nat → List D → Sto → Out D
  wf : Nat
  nf : Nat

def binds (x : Option (D × Sto)) : Out D := match x with
  | some (d, st) => .ok d st
  | none => .no

def noEx {α : Type} : Out α → Out α
  | .ex _ _ _ => .no
  | x => x

/-- a test -/
def asB (d : D) (st : Sto) : Out Bool := match d with
  | .bl b => .ok b st
  | _ => .no
/-- what a method may be asked of -/
def rcv (p : Pr) (x : D) : Bool := match p, x with
  | .append, .lr _ => true
  | .pop0, .lr _ => true
  | .pop1, .lr _ => true
  | _, _ => false
mutual
def evE (cf : Cf) : E → Rho → Sto → Out D
  | .var i, ρ, st => (match ρ[i]? with
    | some (some d) => .ok d st
    | _ => .no)
  | .cst d, _, st => .ok d st
  | .tupE es, ρ, st => (evEs cf es ρ st).bind fun ds st => .ok (.tup (mats ds st).1) (mats ds st).2
  | .lstE es, ρ, st => (evEs cf es ρ st).bind fun ds st => .ok (.tl (mats ds st).1) (mats ds st).2
  | .prim p es, ρ, st => (evEs cf es ρ st).bind fun ds st => binds (semP p ds st)
  | .meth p o es, ρ, st => (evE cf o ρ st).bind fun x st => if rcv p x then (evEs cf es ρ st).bind fun ds st => binds (semP p (x :: ds) st) else .no
  | .and a b, ρ, st => ((evE cf a ρ st).bind asB).bind fun c st => if c then evE cf b ρ st else .ok (.bl false) st
  | .or a b, ρ, st => ((evE cf a ρ st).bind asB).bind fun c st => if c then .ok (.bl true) st else evE cf b ρ st
  | .not a, ρ, st => ((evE cf a ρ st).bind asB).bind fun c st => .ok (.bl (!c)) st
  | .ite c a b, ρ, st => ((evE cf c ρ st).bind asB).bind fun t st => if t then evE cf a ρ st else evE cf b ρ st
  | .chain p q a b c, ρ, st => (evE cf a ρ st).bind fun x st => (evE cf b ρ st).bind fun y st => (match x, y with
    | .int i, .int j => (match semI p i j with
      | some (.bl true) => (evE cf c ρ st).bind fun z st => binds (semP q [.int j, z] st)
      | some (.bl false) => .ok (.bl false) st
      | _ => .no)
    | _, _ => .no)
  | .sl3 a b c, ρ, st => (evE cf a ρ st).bind fun x st => (evE cf b ρ st).bind fun y st => (match y with
    | .int i => (evE cf c ρ st).bind fun z st => (match z with
      | .int j => binds (semSl x (some i) (some j) st)
      | _ => .no)
    | _ => .no)
  | .call g es, ρ, st => (evEs cf es ρ st).bind fun ds st => cf.call g (mats ds st).1 (mats ds st).2
  | .callv i es, ρ, st => (match ρ[i]? with
    | some (some (.fn g)) => if Nat.blt g cf.nf then (evEs cf es ρ st).bind fun ds st => cf.call g (mats ds st).1 (mats ds st).2 else .no
    | _ => .no)
  | .comp elt tg src cs own, ρ, st => (evSrc cf src ρ st).bind fun sv st =>
      noEx ((turns sv.1 (fun d acc st => (evTg cf tg d (wipe ρ own) st).bind fun ρ st => (evCs cf cs ρ st).bind fun b st =>
        if b then (if acc.length < sizeLine then (evE cf elt ρ st).bind fun x st => .ok (acc ++ [(mat x st).1]) (mat x st).2 else .no) else .ok acc st) sv.2 0 [] st).bind fun acc st => .ok (.tl acc) st)
  | .comp2 elt tg src cs tg1 src1 cs1 own own1, ρ, st => (evSrc cf src ρ st).bind fun sv st =>
      noEx ((turns sv.1 (fun d acc st => (evTg cf tg d (wipe ρ own) st).bind fun ρ st => (evCs cf cs ρ st).bind fun b st =>
        if b then (evSrc cf src1 ρ st).bind fun sv1 st => turns sv1.1 (fun d acc st => (evTg cf tg1 d (wipe ρ own1) st).bind fun ρ st => (evCs cf cs1 ρ st).bind fun b st =>
          if b then (if acc.length < sizeLine then (evE cf elt ρ st).bind fun x st => .ok (acc ++ [(mat x st).1]) (mat x st).2 else .no) else .ok acc st) sv1.2 0 acc st
        else .ok acc st) sv.2 0 [] st).bind fun acc st => .ok (.tl acc) st)
def evEs (cf : Cf) : List E → Rho → Sto → Out (List D)
  | [], _, st => .ok [] st
  | e :: es, ρ, st => (evE cf e ρ st).bind fun d st => (evEs cf es ρ st).bind fun ds st => .ok (d :: ds) st
def evCs (cf : Cf) : List E → Rho → Sto → Out Bool
  | [], _, st => .ok true st
  | e :: _, ρ, st => (evE cf e ρ st).bind asB
def evTg (cf : Cf) : Tg → D → Rho → Sto → Out Rho
  | .nm i, d, ρ, st => .ok (ρ.set i (some (mat d st).1)) (mat d st).2
  | .tp ts, d, ρ, st => (match seqOf st d with
    | some xs => if xs.length = ts.length then evTgs cf ts xs ρ st else .no
    | none => .no)
  | .sb o i, d, ρ, st => (evE cf o ρ st).bind fun x st => (evE cf i ρ st).bind fun y st => (match setD x y d st with
    | some st => .ok ρ st
    | none => .no)
def evTgs (cf : Cf) : List Tg → List D → Rho → Sto → Out Rho
  | [], _, ρ, st => .ok ρ st
  | t :: ts, ds, ρ, st => (match ds with
    | d :: ds => (evTg cf t d ρ st).bind fun ρ st => evTgs cf ts ds ρ st
    | [] => .no)
def evSrc (cf : Cf) : Src → Rho → Sto → Out (Sv × Nat)
  | .ex e, ρ, st => (evE cf e ρ st).bind fun d st => (match svOf st d with
    | some r => .ok r st
    | none => .no)
  | .rng es, ρ, st => (evEs cf es ρ st).bind fun ds st => (match rngOf ds with
    | some r => .ok r st
    | none => .no)
  | .enu e, ρ, st => (evE cf e ρ st).bind fun d st => (match isTup d, svOf st d with
    | false, some (s, n) => .ok (.enu s, n) st
    | _, _ => .no)
  | .zip a b, ρ, st => (evE cf a ρ st).bind fun x st => (evE cf b ρ st).bind fun y st => (match isTup x == isTup y, svOf st x, svOf st y with
    | true, some (s, n), some (t, m) => .ok (.zip s t, min n m) st
    | _, _, _ => .no)
end

/-! ### the run of a statement -/
def suD (p : List D) : Option D → Option D
  | some d => some d
  | none => p.head?
def suRet (p : List D) : Su → Option D
  | .one o => suD p o
  | .tup os => (match mapO (suD p) os with
    | some ds => some (.tup ds)
    | none => none)
/-- the clauses, one after the other -/
def handle (c : Nat) (p : List D) (ρ : Rho) (st : Sto) : List (Nat × Su) → Out (Fl × Rho)
  | [] => .ex c p st
  | (k, su) :: hs => if k = c then (match suRet p su with
      | some d => .ok (.ret d, ρ) st
      | none => .no) else handle c p ρ st hs
def seqS (x : Out (Fl × Rho)) (f : Rho → Sto → Out (Fl × Rho)) : Out (Fl × Rho) := x.bind fun fr st => match fr with
  | (.nx, ρ) => f ρ st
  | r => .ok r st
mutual
def exS (cf : Cf) : S → Rho → Sto → Out (Fl × Rho)
  | .ex e, ρ, st => (evE cf e ρ st).bind fun _ st => .ok (.nx, ρ) st
  | .ret e, ρ, st => (evE cf e ρ st).bind fun d st => .ok (.ret d, ρ) st
  | .ret0, ρ, st => .ok (.ret .non, ρ) st
  | .pas, ρ, st => .ok (.nx, ρ) st
  | .brk, ρ, st => .ok (.brk, ρ) st
  | .cnt, ρ, st => .ok (.cnt, ρ) st
  | .asg t e, ρ, st => (evE cf e ρ st).bind fun d st => (evTg cf t d ρ st).bind fun ρ st => .ok (.nx, ρ) st
  | .aug i p e, ρ, st => (match ρ[i]? with
    | some (some x) => (evE cf e ρ st).bind fun y st => (match x, y with
      | .int a, .int b => (match semI p a b with
        | some d => .ok (.nx, ρ.set i (some d)) st
        | none => .no)
      | _, _ => .no)
    | _ => .no)
  | .augS o i p e, ρ, st => (evE cf o ρ st).bind fun x st => (evE cf i ρ st).bind fun k st => (match mlOf [] x, sem2 .ix x k st with
    | none, some (y, _) => (evE cf e ρ st).bind fun z st => (match y, z with
      | .int a, .int b => (match semI p a b with
        | some d => (match setD x k d st with
          | some st => .ok (.nx, ρ) st
          | none => .no)
        | none => .no)
      | _, _ => .no)
    | _, _ => .no)
  | .ifS c a b, ρ, st => ((evE cf c ρ st).bind asB).bind fun t st => if t then exSs cf a ρ st else exSs cf b ρ st
  | .whl c b, ρ, st => loopW (fun ρ st => (evE cf c ρ st).bind asB) (fun ρ st => exSs cf b ρ st) cf.wf ρ st
  | .for t src b, ρ, st => (evSrc cf src ρ st).bind fun sv st => loopF sv.1 (fun d ρ st => (evTg cf t d ρ st).bind fun ρ st => exSs cf b ρ st) sv.2 0 ρ st
  | .rse c es, ρ, st => (evEs cf es ρ st).bind fun ds st => if ds.all notl then .ex c ds st else .no
  | .tryS b hs, ρ, st => (match exSs cf b ρ st with
    | .ex c p st => handle c p ρ st hs
    | x => x)
def exSs (cf : Cf) : List S → Rho → Sto → Out (Fl × Rho)
  | [], ρ, st => .ok (.nx, ρ) st
  | s :: ss, ρ, st => seqS (exS cf s ρ st) fun ρ st => exSs cf ss ρ st
end

/-! ### defs -/
mutual
/-- it names lists of the store below n alone -/
def below (n : Nat) : D → Bool
  | .tup xs => belows n xs
  | .tl xs => belows n xs
  | .kl xs => belows n xs
  | .lr k => Nat.blt k n
  | _ => true
def belows (n : Nat) : List D → Bool
  | [] => true
  | d :: ds => below n d && belows n ds
end
def Ob.below (n : Nat) : Ob → Bool
  | .lst xs => belows n xs
/-- the store cut to its first n -/
def clean (n : Nat) (st : Sto) : Bool := (st.take n).all (Ob.below n)
/-- what a call gives back: lists that nobody names any more are let go -/
def retn (n : Nat) (d : D) (st : Sto) : Out D :=
  if clean n st then
    (match d with
    | .lr k => if Nat.blt k n then .ok d (st.take n) else (match st[k]? with
      | some (.lst xs) => if belows n xs then .ok (.tl xs) (st.take n) else .ok d st
      | _ => .ok d st)
    | d => if below n d then .ok d (st.take n) else .ok d st)
  else .ok d st
structure Fn where
  np : Nat
  nl : Nat
  body : List S
def fin (n : Nat) : Out (Fl × Rho) → Out D
  | .ok (.ret d, _) st => retn n d st
  | .ok (.nx, _) st => retn n .non st
  | .ex c p st => if clean n st && belows n p then .ex c p (st.take n) else .ex c p st
  | _ => .no
def callF (T : List Fn) (wf : Nat) : Nat → Nat → List D → Sto → Out D
  | 0, _, _, _ => .no
  | k + 1, g, ds, st => match T[g]? with
    | some f => if ds.length = f.np then fin st.length (exSs ⟨callF T wf k, wf, T.length⟩ f.body (ds.map some ++ List.replicate (f.nl - f.np) none) st) else .no
    | none => .no
end Mn
/-! Mn2: how values and stores stand for the layer's values and heaps. -/
namespace Mn
open PySem PySem.Spec PyProof.Rows L2

/-- the written part, where the defs stand, the exception classes: their address, their field -/
structure Ws where
  K : PySem.W.Frag
  fa : Nat → Addr
  ec : Nat → Option (Addr × Option Str)

section
variable (ws : Ws)
/-- a locked list, or a list of the written part -/
def FzL (H : Hp) (a : Addr) (vs : List V) : Prop := (∃ o, H a = some (.frz o (.lst vs))) ∨
  ∃ (o : Obj) (its : Array Value) (n : Nat), ws.K.lookup a = some o ∧ o.cls = .type "list" ∧ o.dict = none ∧ o.data = .seq its n ∧ its.size ≤ sizeLine ∧ Vals vs its.toList
mutual
inductive DV (m : List Addr) (H : Hp) : D → V → Prop where
  | non : DV m H .non .non
  | bl (b : Bool) : DV m H (.bl b) (.bl b)
  | int (i : Int) : DV m H (.int i) (.int i)
  | str (s : List Nat) : DV m H (.str s) (.str ⟨s.toArray⟩)
  | tup {a : Addr} {vs : List V} {xs : List D} : SqT ws.K H a vs → DVs m H xs vs → DV m H (.tup xs) (.ref a)
  | tl {a : Addr} {vs : List V} {xs : List D} : a ∉ m → H a = some (.lst vs) → DVs m H xs vs → DV m H (.tl xs) (.ref a)
  | kl {a : Addr} {vs : List V} {xs : List D} : FzL ws H a vs → DVs m H xs vs → DV m H (.kl xs) (.ref a)
  | lr {n : Nat} {a : Addr} : m[n]? = some a → DV m H (.lr n) (.ref a)
  | fn (g : Nat) : DV m H (.fn g) (.ref (ws.fa g))
inductive DVs (m : List Addr) (H : Hp) : List D → List V → Prop where
  | nil : DVs m H [] []
  | cons {d : D} {v : V} {ds : List D} {vs : List V} : DV m H d v → notl d = true → DVs m H ds vs → DVs m H (d :: ds) (v :: vs)
end
def OV (m : List Addr) (H : Hp) : Ob → Addr → Prop
  | .lst xs, a => ∃ vs, H a = some (.lst vs) ∧ DVs ws m H xs vs
structure Rl (m : List Addr) (st : Sto) (H : Hp) : Prop where
  len : m.length = st.length
  nd : m.Nodup
  obj : ∀ (n : Nat) (o : Ob) (a : Addr), st[n]? = some o → m[n]? = some a → OV ws m H o a
def RlE (m : List Addr) (H : Hp) (ρ : Rho) (σ : L2.St) : Prop := ρ.length = σ.length ∧ ∀ (i : Nat) (d : D), ρ[i]? = some (some d) → ∃ v, σ[i]? = some (some v) ∧ DV ws m H d v ∧ notl d = true
end
/-- from one state to a later one -/
structure Step (m : List Addr) (H : Hp) (m' : List Addr) (H' : Hp) : Prop where
  pre : ∃ l, m' = m ++ l
  new : ∀ a, a ∈ m' → a ∉ m → H a = none
  keep : ∀ a o, a ∉ m → H a = some o → H' a = some o
  tups : ∀ a xs, H a = some (.tup xs) → H' a = some (.tup xs)
  frz : ∀ a o u, H a = some (.frz o u) → H' a = some (.frz o u)
  there : ∀ a, H' a = none → H a = none
theorem Step.refl (m : List Addr) (H : Hp) : Step m H m H := ⟨⟨[], by simp⟩, fun _ h n => absurd h n, fun _ _ _ h => h, fun _ _ h => h, fun _ _ _ h => h, fun _ h => h⟩
theorem Step.sub {m m' : List Addr} {H H' : Hp} (s : Step m H m' H') {a : Addr} (h : a ∈ m) : a ∈ m' := by
  obtain ⟨l, e⟩ := s.pre
  rw [e]
  exact List.mem_append_left _ h
theorem Step.notin {m m' : List Addr} {H H' : Hp} (s : Step m H m' H') {a : Addr} {o : HO} (h : a ∉ m) (e : H a = some o) : a ∉ m' := fun h' => by
  have := s.new a h' h
  rw [e] at this
  cases this
theorem Step.trans {m m1 m2 : List Addr} {H H1 H2 : Hp} (a : Step m H m1 H1) (b : Step m1 H1 m2 H2) : Step m H m2 H2 := by
  refine ⟨?_, fun x h n => ?_, fun x o n e => ?_, fun x xs e => b.tups _ _ (a.tups _ _ e), fun x o u e => b.frz _ _ _ (a.frz _ _ _ e), fun x e => a.there x (b.there x e)⟩
  · obtain ⟨l, e⟩ := a.pre
    obtain ⟨l', e'⟩ := b.pre
    exact ⟨l ++ l', by rw [e', e, List.append_assoc]⟩
  · by_cases h1 : x ∈ m1
    · exact a.new x h1 n
    · exact a.there x (b.new x h h1)
  · exact b.keep x o (a.notin n e) (a.keep x o n e)
theorem Step.get {m m' : List Addr} {H H' : Hp} (s : Step m H m' H') {n : Nat} {a : Addr} (h : m[n]? = some a) : m'[n]? = some a := by
  obtain ⟨l, e⟩ := s.pre
  rw [e, List.getElem?_append_left (List.getElem?_eq_some_iff.mp h).1]
  exact h
theorem Step.sqT {K : PySem.W.Frag} {m m' : List Addr} {H H' : Hp} (s : Step m H m' H') {a : Addr} {vs : List V} (h : SqT K H a vs) : SqT K H' a vs := by
  rcases h with (h | ⟨o, h⟩) | h
  · exact .inl (.inl (s.tups _ _ h))
  · exact .inl (.inr ⟨o, s.frz _ _ _ h⟩)
  · exact .inr h
/-- a new object, not in the store -/
theorem Step.alloc {m : List Addr} {H : Hp} {p : Addr} {o : HO} (h : H p = none) : Step m H m (upd H p o) := by
  refine ⟨⟨[], by simp⟩, fun _ h n => absurd h n, fun a u _ e => ?_, fun a xs e => ?_, fun a o u e => ?_, fun a e => ?_⟩
  · rw [upd_ne (ne_of_none e h)]; exact e
  · rw [upd_ne (ne_of_none e h)]; exact e
  · rw [upd_ne (ne_of_none e h)]; exact e
  · by_cases z : a = p
    · rw [z]; exact h
    · rw [upd_ne z] at e; exact e
/-- a list of the store changed -/
theorem Step.write {m : List Addr} {H : Hp} {p : Addr} {vs ws : List V} (hm : p ∈ m) (h : H p = some (.lst vs)) : Step m H m (upd H p (.lst ws)) := by
  have ne : ∀ {a u}, H a = some u → u ≠ .lst vs → a ≠ p := fun {a u} e d z => by subst z; rw [h] at e; exact d (Option.some.inj e).symm
  refine ⟨⟨[], by simp⟩, fun _ h n => absurd h n, fun a u n e => ?_, fun a xs e => ?_, fun a o u e => ?_, fun a e => ?_⟩
  · rw [upd_ne (fun z => n (by rw [z]; exact hm))]; exact e
  · rw [upd_ne (ne e (by intro z; cases z))]; exact e
  · rw [upd_ne (ne e (by intro z; cases z))]; exact e
  · by_cases z : a = p
    · rw [z, upd_same] at e; cases e
    · rw [upd_ne z] at e; exact e
section
variable {ws : Ws} {m m' : List Addr} {H H' : Hp} {st st' : Sto}
theorem FzL.mono {a : Addr} {vs : List V} (s : Step m H m' H') (h : FzL ws H a vs) : FzL ws H' a vs := by
  rcases h with ⟨o, h⟩ | h
  · exact .inl ⟨o, s.frz _ _ _ h⟩
  · exact .inr h
mutual
theorem DV.mono (s : Step m H m' H') : ∀ {d : D} {v : V}, DV ws m H d v → DV ws m' H' d v
  | _, _, .non => .non
  | _, _, .bl b => .bl b
  | _, _, .int i => .int i
  | _, _, .str x => .str x
  | _, _, .tup h r => .tup (s.sqT h) (DVs.mono s r)
  | _, _, .tl n h r => .tl (s.notin n h) (s.keep _ _ n h) (DVs.mono s r)
  | _, _, .kl h r => .kl (FzL.mono s h) (DVs.mono s r)
  | _, _, .lr h => .lr (s.get h)
  | _, _, .fn g => .fn g
theorem DVs.mono (s : Step m H m' H') : ∀ {ds : List D} {vs : List V}, DVs ws m H ds vs → DVs ws m' H' ds vs
  | _, _, .nil => .nil
  | _, _, .cons h n r => .cons (DV.mono s h) n (DVs.mono s r)
end
theorem DVs.length : ∀ {ds : List D} {vs : List V}, DVs ws m H ds vs → ds.length = vs.length
  | _, _, .nil => rfl
  | _, _, .cons _ _ r => by rw [List.length_cons, List.length_cons, r.length]
theorem DVs.get : ∀ {ds : List D} {vs : List V} {i : Nat} {d : D}, DVs ws m H ds vs → ds[i]? = some d → ∃ v, vs[i]? = some v ∧ DV ws m H d v ∧ notl d = true
  | _, _, _, _, .nil, e => by simp at e
  | _, _, 0, d, .cons h n _, e => by simp at e; subst e; exact ⟨_, rfl, h, n⟩
  | _, _, i + 1, d, .cons _ _ r, e => by
    obtain ⟨v, h1, h2⟩ := DVs.get (i := i) r (by simpa using e)
    exact ⟨v, by simpa using h1, h2⟩
theorem DVs.append : ∀ {ds es : List D} {vs us : List V}, DVs ws m H ds vs → DVs ws m H es us → DVs ws m H (ds ++ es) (vs ++ us)
  | _, _, _, _, .nil, q => q
  | _, _, _, _, .cons h n r, q => .cons h n (r.append q)
theorem DVs.take : ∀ {ds : List D} {vs : List V} (n : Nat), DVs ws m H ds vs → DVs ws m H (ds.take n) (vs.take n)
  | _, _, 0, _ => .nil
  | _, _, _ + 1, .nil => .nil
  | _, _, n + 1, .cons h k r => .cons h k (r.take n)
theorem DVs.drop : ∀ {ds : List D} {vs : List V} (n : Nat), DVs ws m H ds vs → DVs ws m H (ds.drop n) (vs.drop n)
  | _, _, 0, r => r
  | _, _, _ + 1, .nil => .nil
  | _, _, n + 1, .cons _ _ r => r.drop n
theorem DVs.set {d : D} {v : V} (h : DV ws m H d v) (n : notl d = true) : ∀ {ds : List D} {vs : List V} (i : Nat), DVs ws m H ds vs → DVs ws m H (ds.set i d) (vs.set i v)
  | _, _, _, .nil => .nil
  | _, _, 0, .cons _ _ r => .cons h n r
  | _, _, i + 1, .cons k l r => .cons k l (DVs.set h n i r)
theorem DVs.eraseIdx : ∀ {ds : List D} {vs : List V} (i : Nat), DVs ws m H ds vs → DVs ws m H (ds.eraseIdx i) (vs.eraseIdx i)
  | _, _, _, .nil => .nil
  | _, _, 0, .cons _ _ r => r
  | _, _, i + 1, .cons k l r => .cons k l (DVs.eraseIdx i r)
theorem DVs.flat {ds : List D} {vs : List V} (r : DVs ws m H ds vs) : ∀ n : Nat, DVs ws m H (List.replicate n ds).flatten (List.replicate n vs).flatten
  | 0 => .nil
  | n + 1 => by
    rw [List.replicate_succ, List.replicate_succ, List.flatten_cons, List.flatten_cons]
    exact r.append (DVs.flat r n)
theorem DVs.cut {ds : List D} {vs : List V} (r : DVs ws m H ds vs) (lo hi : Option Int) : DVs ws m H (cut ds lo hi) (cutV vs lo hi) := by
  unfold Mn.cut cutV
  rw [r.length]
  exact (r.drop _).take _
theorem FzL.sq {a : Addr} {vs : List V} (h : FzL ws H a vs) : SqL ws.K H a vs := by
  rcases h with ⟨o, h⟩ | h
  · exact .inl (.inr ⟨o, h⟩)
  · exact .inr h
theorem RlE.mono {ρ : Rho} {σ : L2.St} (s : Step m H m' H') (h : RlE ws m H ρ σ) : RlE ws m' H' ρ σ := ⟨h.1, fun i d e => by
  obtain ⟨v, e1, r, n⟩ := h.2 i d e
  exact ⟨v, e1, r.mono s, n⟩⟩
theorem RlE.set {ρ : Rho} {σ : L2.St} {d : D} {v : V} (h : RlE ws m H ρ σ) (r : DV ws m H d v) (n : notl d = true) (i : Nat) : RlE ws m H (ρ.set i (some d)) (σ.set i (some v)) := by
  refine ⟨by simp [h.1], fun j e q => ?_⟩
  by_cases hj : i = j
  · subst hj
    have hi : i < ρ.length := by
      have := (List.getElem?_eq_some_iff.mp q).1
      simpa using this
    rw [List.getElem?_set_self hi] at q
    cases q
    exact ⟨v, List.getElem?_set_self (by rw [← h.1]; exact hi), r, n⟩
  · rw [List.getElem?_set_ne hj] at q
    rw [List.getElem?_set_ne hj]
    exact h.2 j e q
theorem RlE.none {ρ : Rho} {σ : L2.St} (h : RlE ws m H ρ σ) (i : Nat) : RlE ws m H (ρ.set i Option.none) (σ.set i Option.none) := by
  refine ⟨by simp [h.1], fun j e q => ?_⟩
  by_cases hj : i = j
  · subst hj
    have hi : i < ρ.length := by
      have := (List.getElem?_eq_some_iff.mp q).1
      simpa using this
    rw [List.getElem?_set_self hi] at q
    cases q
  · rw [List.getElem?_set_ne hj] at q
    rw [List.getElem?_set_ne hj]
    exact h.2 j e q
theorem RlE.wipe {ρ : Rho} {σ : L2.St} (h : RlE ws m H ρ σ) : ∀ own : List Nat, RlE ws m H (Mn.wipe ρ own) (L2.wipe σ own)
  | [] => h
  | v :: vs => RlE.none (RlE.wipe h vs) v
/-- all that the store's lists say stays -/
theorem Rl.mono (r : Rl ws m st H) (s : Step m H m H') (k : ∀ (n : Nat) (o : Ob) (a : Addr), st[n]? = some o → m[n]? = some a → ∀ vs, H a = some (.lst vs) → H' a = some (.lst vs)) : Rl ws m st H' := by
  refine ⟨r.len, r.nd, fun n o a e1 e2 => ?_⟩
  have q := r.obj n o a e1 e2
  cases o with
  | lst xs =>
    obtain ⟨vs, h, t⟩ := q
    exact ⟨vs, k n _ a e1 e2 vs h, t.mono s⟩
theorem Rl.alloc {p : Addr} {o : HO} (r : Rl ws m st H) (h : H p = none) : Rl ws m st (upd H p o) := r.mono (Step.alloc h) fun n u a _ _ vs e => by
  rw [upd_ne (ne_of_none e h)]
  exact e
theorem Rl.at (r : Rl ws m st H) {n : Nat} {o : Ob} (e : st[n]? = some o) : ∃ a, m[n]? = some a ∧ OV ws m H o a := by
  have hn : n < m.length := by
    rw [r.len]
    exact (List.getElem?_eq_some_iff.mp e).1
  exact ⟨m[n], List.getElem?_eq_getElem hn, r.obj n o _ e (List.getElem?_eq_getElem hn)⟩
theorem nodup_eq {l : List Addr} (h : l.Nodup) {i j : Nat} {a : Addr} (e1 : l[i]? = some a) (e2 : l[j]? = some a) : i = j := by
  obtain ⟨h1, q1⟩ := List.getElem?_eq_some_iff.mp e1
  obtain ⟨h2, q2⟩ := List.getElem?_eq_some_iff.mp e2
  exact (List.getElem_inj h).mp (q1.trans q2.symm)
theorem Rl.free {p : Addr} (r : Rl ws m st H) (h : H p = none) : p ∉ m := fun hm => by
  obtain ⟨n, hn⟩ := List.mem_iff_getElem?.mp hm
  have h1 : n < st.length := by
    rw [← r.len]
    exact (List.getElem?_eq_some_iff.mp hn).1
  have q := r.obj n _ p (List.getElem?_eq_getElem h1) hn
  cases e : st[n] with
  | lst xs =>
    rw [e] at q
    obtain ⟨vs, z, _⟩ := q
    rw [h] at z
    cases z
/-- a list of the store is changed -/
theorem Rl.write {n : Nat} {a : Addr} {xs ys : List D} {vs us : List V} (r : Rl ws m st H) (e : st[n]? = some (.lst xs)) (ha : m[n]? = some a) (hH : H a = some (.lst vs)) (t : DVs ws m H ys us) : Rl ws m (st.set n (.lst ys)) (upd H a (.lst us)) := by
  have hm : a ∈ m := List.mem_of_getElem? ha
  have s : Step m H m (upd H a (.lst us)) := Step.write hm hH
  have hn : n < st.length := (List.getElem?_eq_some_iff.mp e).1
  refine ⟨by simp [r.len], r.nd, fun k o b e1 e2 => ?_⟩
  by_cases hk : n = k
  · subst hk
    rw [ha] at e2
    cases e2
    rw [List.getElem?_set_self hn] at e1
    cases e1
    exact ⟨us, upd_same, t.mono s⟩
  · rw [List.getElem?_set_ne hk] at e1
    have hb : b ≠ a := fun z => hk (nodup_eq r.nd ha (z ▸ e2))
    have q := r.obj k o b e1 e2
    cases o with
    | lst zs =>
      obtain ⟨ws', h, t'⟩ := q
      exact ⟨ws', by rw [upd_ne hb]; exact h, t'.mono s⟩
/-- lists that are kept: the store's addresses may grow -/
theorem Step.more {l : List Addr} (s : Step m H m' H') (f : ∀ a ∈ l, H a = none) : Step m H (m' ++ l) H' := by
  refine ⟨?_, fun a h n => ?_, s.keep, s.tups, s.frz, s.there⟩
  · obtain ⟨k, e⟩ := s.pre
    exact ⟨k ++ l, by rw [e, List.append_assoc]⟩
  · rcases List.mem_append.mp h with h | h
    · exact s.new a h n
    · exact f a h
mutual
theorem DV.up (l : List Addr) : ∀ {d : D} {v : V}, notl d = true → DV ws m H d v → DV ws (m ++ l) H d v
  | _, _, _, .non => .non
  | _, _, _, .bl b => .bl b
  | _, _, _, .int i => .int i
  | _, _, _, .str x => .str x
  | _, _, _, .tup h r => .tup h (DVs.up l r)
  | _, _, n, .tl _ _ _ => by cases n
  | _, _, _, .kl h r => .kl h (DVs.up l r)
  | _, _, _, .lr h => .lr (by rw [List.getElem?_append_left (List.getElem?_eq_some_iff.mp h).1]; exact h)
  | _, _, _, .fn g => .fn g
theorem DVs.up (l : List Addr) : ∀ {ds : List D} {vs : List V}, DVs ws m H ds vs → DVs ws (m ++ l) H ds vs
  | _, _, .nil => .nil
  | _, _, .cons h n r => .cons (DV.up l n h) n (DVs.up l r)
end
theorem RlE.up {ρ : Rho} {σ : L2.St} (l : List Addr) (h : RlE ws m H ρ σ) : RlE ws (m ++ l) H ρ σ := ⟨h.1, fun i d e => by
  obtain ⟨v, e1, r, n⟩ := h.2 i d e
  exact ⟨v, e1, r.up l n, n⟩⟩
/-- a list just made goes into the store -/
theorem Rl.put {a : Addr} {xs : List D} {vs : List V} (r : Rl ws m st H) (n : a ∉ m) (e : H a = some (.lst vs)) (t : DVs ws m H xs vs) : Rl ws (m ++ [a]) (st ++ [.lst xs]) H := by
  refine ⟨by simp [r.len], ?_, fun k o b e1 e2 => ?_⟩
  · refine List.nodup_append.mpr ⟨r.nd, by simp, fun x hx y hy => ?_⟩
    have : y = a := by simpa using hy
    rw [this]
    rintro rfl
    exact n hx
  · by_cases hk : k < st.length
    · rw [List.getElem?_append_left hk] at e1
      rw [List.getElem?_append_left (by rw [r.len]; exact hk)] at e2
      have q := r.obj k o b e1 e2
      cases o with
      | lst zs =>
        obtain ⟨us, h, t'⟩ := q
        exact ⟨us, h, t'.up _⟩
    · have hk' : k = st.length := by
        have := (List.getElem?_eq_some_iff.mp e1).1
        simp at this
        omega
      subst hk'
      rw [← r.len] at e2
      simp at e1 e2
      subst e1 e2
      exact ⟨vs, e, t.up _⟩
end
/-! ### what a run leaves -/
/-- a list just made was not there -/
def Fr (H : Hp) (d : D) (v : V) : Prop := notl d = false → ∀ a, v = .ref a → H a = none
abbrev RD (ws : Ws) (H0 : Hp) (m : List Addr) (H : Hp) (d : D) (v : V) : Prop := DV ws m H d v ∧ Fr H0 d v
/-- the addresses of the lists just made, among arguments -/
def tls : List D → List V → List Addr
  | .tl _ :: ds, .ref a :: vs => a :: tls ds vs
  | _ :: ds, _ :: vs => tls ds vs
  | _, _ => []
inductive DAs (ws : Ws) (m : List Addr) (H : Hp) : List D → List V → Prop where
  | nil : DAs ws m H [] []
  | cons {d : D} {v : V} {ds : List D} {vs : List V} : DV ws m H d v → DAs ws m H ds vs → DAs ws m H (d :: ds) (v :: vs)
structure RA (ws : Ws) (H0 : Hp) (m : List Addr) (H : Hp) (ds : List D) (vs : List V) : Prop where
  as : DAs ws m H ds vs
  nd : (tls ds vs).Nodup
  fr : ∀ a ∈ tls ds vs, H0 a = none
section
variable {ws : Ws} {m m' m1 : List Addr} {H H' H0 H1 : Hp} {st st' : Sto}
theorem DAs.mono (s : Step m H m' H') : ∀ {ds : List D} {vs : List V}, DAs ws m H ds vs → DAs ws m' H' ds vs
  | _, _, .nil => .nil
  | _, _, .cons h r => .cons (h.mono s) (DAs.mono s r)
theorem DAs.length : ∀ {ds : List D} {vs : List V}, DAs ws m H ds vs → ds.length = vs.length
  | _, _, .nil => rfl
  | _, _, .cons _ r => by rw [List.length_cons, List.length_cons, r.length]
theorem tls_there : ∀ {ds : List D} {vs : List V}, DAs ws m H ds vs → ∀ a ∈ tls ds vs, a ∉ m ∧ ∃ us, H a = some (.lst us)
  | _, _, .nil, a, h => by simp [tls] at h
  | _, _, .cons (ds := ds) (vs := vs) h r, a, ha => by
    cases h with
    | tl n e t =>
      rcases List.mem_cons.mp ha with rfl | ha
      · exact ⟨n, _, e⟩
      · exact tls_there r a ha
    | non => exact tls_there r a ha
    | bl b => exact tls_there r a ha
    | int i => exact tls_there r a ha
    | str x => exact tls_there r a ha
    | tup _ _ => exact tls_there r a ha
    | kl _ _ => exact tls_there r a ha
    | lr _ => exact tls_there r a ha
    | fn _ => exact tls_there r a ha
theorem RA.cons {d : D} {v : V} {ds : List D} {vs : List V} (h : RD ws H0 m H d v) (s : Step m H m' H') (s0 : ∀ a, H a = none → H0 a = none) (r : RA ws H m' H' ds vs) : RA ws H0 m' H' (d :: ds) (v :: vs) := by
  have hd := h.1.mono s
  refine ⟨.cons hd r.as, ?_, ?_⟩
  · cases hq : h.1 with
    | tl n e t =>
      refine List.nodup_cons.mpr ⟨fun z => ?_, r.nd⟩
      have := r.fr _ z
      rw [e] at this
      cases this
    | _ => exact r.nd
  · cases hq : h.1 with
    | tl n e t =>
      intro a ha
      rcases List.mem_cons.mp ha with rfl | ha
      · exact h.2 rfl _ rfl
      · exact s0 a (r.fr a ha)
    | _ => exact fun a ha => s0 a (r.fr a ha)
/-- one value kept -/
theorem mat_ok {d : D} {v : V} (r : Rl ws m st H) (h : DV ws m H d v) : Rl ws (m ++ tls [d] [v]) (mat d st).2 H ∧ DV ws (m ++ tls [d] [v]) H (mat d st).1 v ∧ notl (mat d st).1 = true := by
  cases h with
  | tl n e t =>
    refine ⟨r.put n e t, .lr ?_, rfl⟩
    rw [← r.len]
    simp [tls]
  | non => exact ⟨by simpa [tls, mat] using r, .non, rfl⟩
  | bl b => exact ⟨by simpa [tls, mat] using r, .bl b, rfl⟩
  | int i => exact ⟨by simpa [tls, mat] using r, .int i, rfl⟩
  | str x => exact ⟨by simpa [tls, mat] using r, .str x, rfl⟩
  | tup a b => exact ⟨by simpa [tls, mat] using r, by simpa [tls, mat] using DV.tup a b, rfl⟩
  | kl a b => exact ⟨by simpa [tls, mat] using r, by simpa [tls, mat] using DV.kl a b, rfl⟩
  | lr a => exact ⟨by simpa [tls, mat] using r, by simpa [tls, mat] using DV.lr a, rfl⟩
  | fn g => exact ⟨by simpa [tls, mat] using r, .fn g, rfl⟩
theorem tls_cons (d : D) (v : V) (ds : List D) (vs : List V) : tls (d :: ds) (v :: vs) = tls [d] [v] ++ tls ds vs := by
  cases d <;> cases v <;> simp [tls]
theorem DAs.up {l : List Addr} : ∀ {ds : List D} {vs : List V}, DAs ws m H ds vs → (∀ a ∈ tls ds vs, a ∉ l) → DAs ws (m ++ l) H ds vs
  | _, _, .nil, _ => .nil
  | d :: ds, v :: vs, .cons h r, f => by
    rw [tls_cons] at f
    refine .cons ?_ (DAs.up r fun a ha => f a (List.mem_append_right _ ha))
    cases h with
    | tl n e t =>
      refine .tl (fun z => ?_) e (t.up _)
      rcases List.mem_append.mp z with z | z
      · exact n z
      · exact f _ (by simp [tls]) z
    | non => exact .non
    | bl b => exact .bl b
    | int i => exact .int i
    | str x => exact .str x
    | tup a b => exact .tup a (b.up _)
    | kl a b => exact .kl a (b.up _)
    | lr a => exact .lr (by rw [List.getElem?_append_left (List.getElem?_eq_some_iff.mp a).1]; exact a)
    | fn g => exact .fn g
/-- .. several -/
theorem mats_ok : ∀ {ds : List D} {vs : List V} {m : List Addr} {st : Sto}, Rl ws m st H → DAs ws m H ds vs → (tls ds vs).Nodup → Rl ws (m ++ tls ds vs) (mats ds st).2 H ∧ DVs ws (m ++ tls ds vs) H (mats ds st).1 vs
  | _, _, m, st, r, .nil, _ => by simpa [tls, mats] using ⟨r, DVs.nil⟩
  | d :: ds, v :: vs, m, st, r, .cons h t, n => by
    rw [tls_cons] at n ⊢
    obtain ⟨n1, n2, n3⟩ := List.nodup_append.mp n
    obtain ⟨r1, h1, k1⟩ := mat_ok r h
    obtain ⟨r2, h2⟩ := mats_ok r1 (t.up fun a ha z => n3 a z a ha rfl) n2
    rw [← List.append_assoc]
    exact ⟨r2, .cons (h1.up _ k1) k1 h2⟩
theorem tls_one {d : D} {v : V} (h : Fr H0 d v) : ∀ a ∈ tls [d] [v], H0 a = none := fun a ha => by
  cases d with
  | tl xs =>
    cases v with
    | ref b =>
      have : a = b := by simpa [tls] using ha
      rw [this]
      exact h rfl b rfl
    | _ => simp [tls] at ha
  | _ => cases v <;> simp [tls] at ha
end
end Mn
/-! Mn3: the operations are the model's. -/
namespace Mn
open PySem PySem.Spec PyProof.Rows L2

/-- what a context must have for the operations -/
structure Gp (ws : Ws) (X : Cx) : Prop where
  K : X.K = ws.K
  calm : X.calm = true
  units : X.A.units + 66 < cLine

/-- an operation at values, asked by the small run -/
def rP (ws : Ws) (p : Pr) : List V → Hp → VK → Prop := fun vs H Q => ∃ (H0 : Hp) (m0 m : List Addr) (st : Sto) (ds : List D) (d : D) (st' : Sto), Step m0 H0 m H ∧ Rl ws m st H ∧ RA ws H0 m H ds vs ∧
  semP p ds st = some (d, st') ∧ ∀ m' H' v, Step m0 H0 m' H' → Rl ws m' st' H' → RD ws H0 m' H' d v → Q v H'
abbrev rP2 (ws : Ws) (p : Pr) : R2 := fun x y H Q => rP ws p [x, y] H Q

section
variable {ws : Ws} {X : Cx} {H0 H : Hp} {m0 m : List Addr} {st : Sto} {d a b : D} {x y v : V} {Q : VK}
theorem fr_of (h : notl d = true) : Fr H0 d v := fun h' => by rw [h] at h'; cases h'
theorem DAs.one {ds : List D} (h : DAs ws m H ds [x]) : ∃ a, ds = [a] ∧ DV ws m H a x := by
  cases h with
  | cons h t => cases t; exact ⟨_, rfl, h⟩
theorem DAs.two {ds : List D} (h : DAs ws m H ds [x, y]) : ∃ a b, ds = [a, b] ∧ DV ws m H a x ∧ DV ws m H b y := by
  cases h with
  | cons h t =>
    obtain ⟨b, rfl, h2⟩ := t.one
    exact ⟨_, b, rfl, h, h2⟩

/-! ### lists and tuples as they are read -/
theorem lst_ok (r : Rl ws m st H) (h : DV ws m H a x) {xs : List D} (e : lstOf st a = some xs) : ∃ p vs, x = .ref p ∧ SqL ws.K H p vs ∧ DVs ws m H xs vs := by
  cases h with
  | tl n q t => cases e; exact ⟨_, _, rfl, SqL.of q, t⟩
  | kl q t => cases e; exact ⟨_, _, rfl, q.sq, t⟩
  | lr q =>
    rename_i n p
    simp only [lstOf] at e
    cases h1 : st[n]? with
    | none => rw [h1] at e; cases e
    | some o =>
      cases o with
      | lst ys =>
        rw [h1] at e
        cases e
        obtain ⟨p', q', vs, z, t⟩ := r.at h1
        rw [q] at q'
        cases q'
        exact ⟨p, vs, rfl, SqL.of z, t⟩
  | non => cases e
  | bl _ => cases e
  | int _ => cases e
  | str _ => cases e
  | tup _ _ => cases e
  | fn _ => cases e
theorem mlst_ok (r : Rl ws m st H) (h : DV ws m H a x) {xs : List D} (e : mlOf st a = some xs) : ∃ p vs, x = .ref p ∧ H p = some (.lst vs) ∧ DVs ws m H xs vs := by
  cases h with
  | tl n q t => cases e; exact ⟨_, _, rfl, q, t⟩
  | lr q =>
    rename_i n p
    simp only [mlOf] at e
    cases h1 : st[n]? with
    | none => rw [h1] at e; cases e
    | some o =>
      cases o with
      | lst ys =>
        rw [h1] at e
        cases e
        obtain ⟨p', q', vs, z, t⟩ := r.at h1
        rw [q] at q'
        cases q'
        exact ⟨p, vs, rfl, z, t⟩
  | kl _ _ => cases e
  | non => cases e
  | bl _ => cases e
  | int _ => cases e
  | str _ => cases e
  | tup _ _ => cases e
  | fn _ => cases e
theorem seq_ok (r : Rl ws m st H) (h : DV ws m H a x) {xs : List D} (e : seqOf st a = some xs) : ∃ p vs, x = .ref p ∧ ((SqL ws.K H p vs ∧ ∀ ys, a ≠ .tup ys) ∨ (SqT ws.K H p vs ∧ a = .tup xs)) ∧ DVs ws m H xs vs := by
  cases h with
  | tup q t => cases e; exact ⟨_, _, rfl, .inr ⟨q, rfl⟩, t⟩
  | non => cases e
  | bl _ => cases e
  | int _ => cases e
  | str _ => cases e
  | fn _ => cases e
  | tl n q t => cases e; exact ⟨_, _, rfl, .inl ⟨SqL.of q, fun _ h => by cases h⟩, t⟩
  | kl q t => cases e; exact ⟨_, _, rfl, .inl ⟨q.sq, fun _ h => by cases h⟩, t⟩
  | lr q =>
    obtain ⟨p, vs, h1, h2, h3⟩ := lst_ok r (.lr q) e
    exact ⟨p, vs, h1, .inl ⟨h2, fun _ h => by cases h⟩, h3⟩

/-! ### the three ends -/
theorem end_sc (s0 : Step m0 H0 m H) (r : Rl ws m st H) (h : DV ws m H d v) (n : notl d = true) (k : ∀ m' H' v, Step m0 H0 m' H' → Rl ws m' st H' → RD ws H0 m' H' d v → Q v H') : Q v H := k m H v s0 r ⟨h, fr_of n⟩
theorem end_tup {xs : List D} {vs : List V} (s0 : Step m0 H0 m H) (r : Rl ws m st H) (t : DVs ws m H xs vs) (k : ∀ m' H' v, Step m0 H0 m' H' → Rl ws m' st H' → RD ws H0 m' H' (.tup xs) v → Q v H') : ∀ p, H p = none → Q (.ref p) (upd H p (.tup vs)) :=
  fun p hp => k m _ _ (s0.trans (Step.alloc hp)) (r.alloc hp) ⟨.tup (SqT.of upd_same) (t.mono (Step.alloc hp)), fr_of rfl⟩
theorem end_tl {xs : List D} {vs : List V} (s0 : Step m0 H0 m H) (r : Rl ws m st H) (t : DVs ws m H xs vs) (k : ∀ m' H' v, Step m0 H0 m' H' → Rl ws m' st H' → RD ws H0 m' H' (.tl xs) v → Q v H') : ∀ p, H p = none → Q (.ref p) (upd H p (.lst vs)) :=
  fun p hp => k m _ _ (s0.trans (Step.alloc hp)) (r.alloc hp) ⟨.tl (r.free hp) upd_same (t.mono (Step.alloc hp)), fun _ a e => by cases e; exact s0.there p hp⟩

/-! ### data, for == -/
theorem mapO_ok {α β : Type} {f : α → Option β} : ∀ {xs : List α} {ys : List β}, mapO f xs = some ys → Paired (fun x y => f x = some y) xs ys
  | [], ys, e => by cases e; exact .nil
  | x :: xs, ys, e => by
    unfold mapO at e
    cases h1 : f x with
    | none => rw [h1] at e; cases e
    | some y =>
      cases h2 : mapO f xs with
      | none => rw [h1, h2] at e; cases e
      | some zs => rw [h1, h2] at e; cases e; exact .cons h1 (mapO_ok h2)
theorem strOk_shape (s : Str) (h : PySem.PyData.strOk s = true) : PyData.canLay0 (.str s) = true := by
  unfold PyData.canLay0
  exact h
theorem toP_ok (r : Rl ws m st H) : ∀ (n : Nat) {a : D} {x : V} {p : PyData}, DV ws m H a x → toP st n a = some p → Dp ws.K H x p ∧ p.canLay0 = true ∧ p.depth ≤ n := by
  intro n
  induction n with
  | zero => intro a x p _ e; cases e
  | succ n ih =>
    have many : ∀ {xs : List D} {vs : List V} {ps : List PyData}, DVs ws m H xs vs → Paired (fun x y => toP st n x = some y) xs ps → DpAll ws.K H vs ps ∧ PyData.canLayAll0 ps = true ∧ PyData.depthAll ps ≤ n := by
      intro xs vs ps t q
      induction q generalizing vs with
      | nil => cases t; exact ⟨.nil, by simp [PyData.canLayAll0], by simp [PyData.depthAll]⟩
      | cons h _ ih2 =>
        cases t with
        | cons hd _ tl =>
          obtain ⟨a1, a2, a3⟩ := ih hd h
          obtain ⟨b1, b2, b3⟩ := ih2 tl
          exact ⟨.cons a1 b1, by simp [PyData.canLayAll0, a2, b2], by simp only [PyData.depthAll]; omega⟩
    intro a x p h e
    have lists : ∀ {xs : List D} {ps : List PyData}, lstOf st a = some xs → mapO (toP st n) xs = some ps → p = .list ps → Dp ws.K H x p ∧ p.canLay0 = true ∧ p.depth ≤ n + 1 := by
      intro xs ps e1 h2 e3
      obtain ⟨q, vs, rfl, sq, t⟩ := lst_ok r h e1
      subst e3
      obtain ⟨c1, c2, c3⟩ := many t (mapO_ok h2)
      exact ⟨.lst sq c1, by simpa [PyData.canLay0] using c2, by simp only [PyData.depth]; omega⟩
    cases h with
    | non => cases e; exact ⟨.non, by simp [PyData.canLay0], by simp [PyData.depth]⟩
    | bl b => cases e; exact ⟨.bl b, by simp [PyData.canLay0], by simp [PyData.depth]⟩
    | int i => cases e; exact ⟨.int i, by simp [PyData.canLay0], by simp [PyData.depth]⟩
    | str s =>
      simp only [toP] at e
      split at e
      · rename_i hs
        cases e
        exact ⟨.str _, strOk_shape _ hs, by simp [PyData.depth]⟩
      · cases e
    | tup sq t =>
      rename_i q vs xs
      simp only [toP] at e
      cases h2 : mapO (toP st n) xs with
      | none => rw [h2] at e; cases e
      | some ps =>
        rw [h2] at e
        cases e
        obtain ⟨c1, c2, c3⟩ := many t (mapO_ok h2)
        exact ⟨.tup sq c1, by simpa [PyData.canLay0] using c2, by simp only [PyData.depth]; omega⟩
    | fn g => simp [toP] at e
    | tl a b c =>
      rename_i _ _ xs
      simp only [toP, lstOf] at e
      cases h2 : mapO (toP st n) xs with
      | none => rw [h2] at e; cases e
      | some ps => rw [h2] at e; cases e; exact lists rfl h2 rfl
    | kl a b =>
      rename_i _ _ xs
      simp only [toP, lstOf] at e
      cases h2 : mapO (toP st n) xs with
      | none => rw [h2] at e; cases e
      | some ps => rw [h2] at e; cases e; exact lists rfl h2 rfl
    | lr a =>
      rename_i k _
      simp only [toP] at e
      cases h1 : lstOf st (D.lr k) with
      | none => rw [h1] at e; cases e
      | some xs =>
        rw [h1] at e
        cases h2 : mapO (toP st n) xs with
        | none => simp only [h2] at e; cases e
        | some ps => simp only [h2] at e; cases e; exact lists h1 h2 rfl
theorem shaped_of {p : PyData} (h : p.canLay0 = true) (k : p.depth ≤ 16) : SeqAt.shaped p = true := by
  unfold SeqAt.shaped
  rw [h, Bool.true_and]
  exact decide_eq_true (by omega)
theorem eqD_ok (r : Rl ws m st H) (ha : DV ws m H a x) (hb : DV ws m H b y) {k : Bool} (e : eqD st a b = some k) : ∃ p q, Dp ws.K H x p ∧ Dp ws.K H y q ∧ SeqAt.shaped p = true ∧ SeqAt.shaped q = true ∧ PyData.eqv p q = k := by
  have gen : (match toP st 16 a, toP st 16 b with | some p, some q => some (PyData.eqv p q) | _, _ => none) = some k → ∃ p q, Dp ws.K H x p ∧ Dp ws.K H y q ∧ SeqAt.shaped p = true ∧ SeqAt.shaped q = true ∧ PyData.eqv p q = k := by
    intro e
    cases h1 : toP st 16 a with
    | none => rw [h1] at e; cases e
    | some p =>
      cases h2 : toP st 16 b with
      | none => rw [h1, h2] at e; cases e
      | some q =>
        rw [h1, h2] at e
        cases e
        obtain ⟨a1, a2, a3⟩ := toP_ok r 16 ha h1
        obtain ⟨b1, b2, b3⟩ := toP_ok r 16 hb h2
        exact ⟨p, q, a1, b1, shaped_of a2 a3, shaped_of b2 b3, rfl⟩
  unfold eqD at e
  split at e
  · cases ha; cases hb; cases e
    exact ⟨_, _, .int _, .int _, rfl, rfl, by simp only [PyData.eqv]; rfl⟩
  · cases ha; cases hb; cases e
    exact ⟨_, _, .bl _, .bl _, rfl, rfl, by simp only [PyData.eqv]; rename_i i j; cases i <;> cases j <;> rfl⟩
  · cases ha; cases hb; cases e
    exact ⟨_, _, .non, .non, rfl, rfl, by simp only [PyData.eqv]⟩
  · exact gen e
end
end Mn
/-! Mn4: the operations are the model's (operators, built-ins, methods). -/
namespace Mn
open PySem PySem.Spec PyProof.Rows L2
section
variable {ws : Ws} {X : Cx}

/-! ### arithmetic -/
theorem fdiv_any : OpR X (binaryOp .FloorDiv) (rI (fun _ j => j ≠ 0 ∧ j.natAbs.log2 < 9000) fun i j => .int (i.fdiv j)) := opI fun i j _ _ _ _ _ hc q =>
  floordiv_int hc.1 q (.inl (PyProof.noPylong_of_log2 hc.2))
theorem ifdiv_any : OpR X (inplaceOp .FloorDiv) (rI (fun _ j => j ≠ 0 ∧ j.natAbs.log2 < 9000) fun i j => .int (i.fdiv j)) := opI fun i j _ _ _ _ _ hc q =>
  ifloordiv_int hc.1 q (.inl (PyProof.noPylong_of_log2 hc.2))
theorem imod_any : OpR X (inplaceOp .Mod) (rI (fun _ j => j ≠ 0) fun i j => .int (i.fmod j)) := opI fun _ _ _ _ _ _ _ hc q => imod_int hc q
theorem imul_any : OpR X (inplaceOp .Mult) (rI CMulX fun i j => .int (i * j)) := opI fun _ _ _ _ _ _ _ hc q => imul_int q hc.ok
theorem cmulx {i j : Int} (h : Builtin.Int.intBits i + Builtin.Int.intBits j ≤ 134217728) : CMulX i j := by
  unfold CMulX
  omega

/-- an operator on ints alone -/
theorem or_ints {f : Value → Value → Sem Value} {p : Pr} {C : Int → Int → Prop} {g : Int → Int → V} (hf : OpR X f (rI C g))
    (h2 : ∀ a b st r, sem2 p a b st = some r → ∃ i j d, a = .int i ∧ b = .int j ∧ semI p i j = some d ∧ r = (d, st))
    (hI : ∀ i j d, semI p i j = some d → C i j ∧ notl d = true ∧ ∀ m H, DV ws m H d (g i j)) (hp : ∀ a b st, semP p [a, b] st = sem2 p a b st) : OpR X f (rP2 ws p) := by
  intro pins s σ H x y v u Q I rx ry h
  obtain ⟨H0, m0, m, st, ds, d, st', s0, r, ra, e, k⟩ := h
  obtain ⟨a, b, rfl, ha, hb⟩ := ra.as.two
  rw [hp] at e
  obtain ⟨i, j, d', rfl, rfl, e1, e2⟩ := h2 _ _ _ _ e
  cases e2
  cases ha
  cases hb
  obtain ⟨c, n, hd⟩ := hI _ _ _ e1
  exact hf pins s σ H _ _ v u Q I rx ry ⟨i, j, rfl, rfl, c, end_sc s0 r (hd m H) n k⟩
theorem inv_ints {p : Pr} (h1 : p = .sub ∨ p = .fdiv ∨ p = .mod ∨ p = .lt ∨ p = .le ∨ p = .gt ∨ p = .ge ∨ p = .max2 ∨ p = .min2) : ∀ a b st r, sem2 p a b st = some r → ∃ i j d, a = .int i ∧ b = .int j ∧ semI p i j = some d ∧ r = (d, st) := by
  intro a b st r e
  rcases h1 with rfl | rfl | rfl | rfl | rfl | rfl | rfl | rfl | rfl <;>
  · simp only [sem2] at e
    split at e
    · rename_i i j
      split at e
      · rename_i d hd
        cases e
        exact ⟨i, j, d, rfl, rfl, hd, rfl⟩
      · cases e
    all_goals cases e
theorem or_sub : OpR X (binaryOp .Sub) (rP2 ws .sub) := or_ints (C := fun _ _ => True) (g := fun i j => .int (i - j)) (fun pins s σ H x y v u Q I rx ry ⟨i, j, a, b, _, q⟩ => op_sub pins s σ H x y v u Q I rx ry ⟨i, j, a, b, q⟩) (inv_ints (by simp))
  (fun i j d e => by cases e; exact ⟨trivial, rfl, fun _ _ => .int _⟩) fun _ _ _ => rfl
theorem or_lt : OpR X (compareOp .Lt) (rP2 ws .lt) := or_ints (C := fun _ _ => True) (g := fun i j => .bl (decide (i < j))) (fun pins s σ H x y v u Q I rx ry ⟨i, j, a, b, _, q⟩ => op_lt pins s σ H x y v u Q I rx ry ⟨i, j, a, b, q⟩) (inv_ints (by simp))
  (fun i j d e => by cases e; exact ⟨trivial, rfl, fun _ _ => .bl _⟩) fun _ _ _ => rfl
theorem or_le : OpR X (compareOp .LtE) (rP2 ws .le) := or_ints (C := fun _ _ => True) (g := fun i j => .bl (decide (i ≤ j))) (fun pins s σ H x y v u Q I rx ry ⟨i, j, a, b, _, q⟩ => op_le pins s σ H x y v u Q I rx ry ⟨i, j, a, b, q⟩) (inv_ints (by simp))
  (fun i j d e => by cases e; exact ⟨trivial, rfl, fun _ _ => .bl _⟩) fun _ _ _ => rfl
theorem or_gt : OpR X (compareOp .Gt) (rP2 ws .gt) := or_ints (C := fun _ _ => True) (g := fun i j => .bl (decide (j < i))) (fun pins s σ H x y v u Q I rx ry ⟨i, j, a, b, _, q⟩ => op_gt pins s σ H x y v u Q I rx ry ⟨i, j, a, b, q⟩) (inv_ints (by simp))
  (fun i j d e => by cases e; exact ⟨trivial, rfl, fun _ _ => .bl _⟩) fun _ _ _ => rfl
theorem or_ge : OpR X (compareOp .GtE) (rP2 ws .ge) := or_ints (C := fun _ _ => True) (g := fun i j => .bl (decide (j ≤ i))) (fun pins s σ H x y v u Q I rx ry ⟨i, j, a, b, _, q⟩ => op_ge pins s σ H x y v u Q I rx ry ⟨i, j, a, b, q⟩) (inv_ints (by simp))
  (fun i j d e => by cases e; exact ⟨trivial, rfl, fun _ _ => .bl _⟩) fun _ _ _ => rfl
theorem or_fdiv : OpR X (binaryOp .FloorDiv) (rP2 ws .fdiv) := or_ints fdiv_any (inv_ints (by simp))
  (fun i j d e => by
    simp only [semI] at e
    split at e
    · cases e; exact ⟨by assumption, rfl, fun _ _ => .int _⟩
    · cases e) fun _ _ _ => rfl
theorem or_mod : OpR X (binaryOp .Mod) (rP2 ws .mod) := or_ints op_modN (inv_ints (by simp))
  (fun i j d e => by
    simp only [semI] at e
    split at e
    · cases e; exact ⟨by assumption, rfl, fun _ _ => .int _⟩
    · cases e) fun _ _ _ => rfl
theorem toL {K : PySem.W.Frag} (e : X.K = K) {H : Hp} {a : Addr} {vs : List V} (h : SqL K H a vs) : SqL X.K H a vs := by rw [e]; exact h
theorem toT {K : PySem.W.Frag} (e : X.K = K) {H : Hp} {a : Addr} {vs : List V} (h : SqT K H a vs) : SqT X.K H a vs := by rw [e]; exact h
theorem or_add (G : Gp ws X) : OpR X (binaryOp .Add) (rP2 ws .add) := by
  intro pins s σ H x y v u Q I rx ry h
  obtain ⟨H0, m0, m, st, ds, d, st', s0, r, ra, e, k⟩ := h
  obtain ⟨a, b, rfl, ha, hb⟩ := ra.as.two
  simp only [semP, sem2] at e
  split at e
  · simp only [semI] at e
    cases e
    cases ha
    cases hb
    exact op_add pins s σ H _ _ v u Q I rx ry ⟨_, _, rfl, rfl, end_sc s0 r (.int _) rfl k⟩
  · rename_i xs ys
    split at e
    · rename_i hl
      cases e
      cases ha with
      | tup q1 t1 =>
        cases hb with
        | tup q2 t2 =>
          rename_i p1 us p2 zs
          refine op_catA pins s σ H _ _ v u Q I rx ry ⟨_, _, us, zs, rfl, rfl, toT G.K q1, toT G.K q2, by rw [← t1.length, ← t2.length]; exact hl, fun z => ?_, fun _ z => ?_, fun _ _ => end_tup s0 r (t1.append t2) k⟩
          · subst z
            cases t1
            exact end_sc s0 r (.tup q2 t2) rfl k
          · subst z
            cases t2
            rw [List.append_nil] at k
            exact end_sc s0 r (.tup q1 t1) rfl k
    · cases e
  · cases e
  · cases e
  · rename_i z1 z2 z3 z4
    split at e
    · rename_i xs ys e1 e2
      split at e
      · rename_i hl
        cases e
        obtain ⟨p1, us, rfl, q1, t1⟩ := mlst_ok r ha e1
        obtain ⟨p2, zs, rfl, q2, t2⟩ := mlst_ok r hb e2
        exact op_cat pins s σ H _ _ v u Q I rx ry ⟨_, _, us, zs, rfl, rfl, q1, q2, by rw [← t1.length, ← t2.length]; exact hl, end_tl s0 r (t1.append t2) k⟩
      · cases e
    · cases e
theorem or_mul (G : Gp ws X) : OpR X (binaryOp .Mult) (rP2 ws .mul) := by
  intro pins s σ H x y v u Q I rx ry h
  obtain ⟨H0, m0, m, st, ds, d, st', s0, r, ra, e, k⟩ := h
  obtain ⟨a, b, rfl, ha, hb⟩ := ra.as.two
  simp only [semP, sem2] at e
  split at e
  · simp only [semI] at e
    split at e
    · rename_i h1
      split at h1
      · rename_i h2
        cases h1
        cases e
        cases ha
        cases hb
        exact op_mulX pins s σ H _ _ v u Q I rx ry ⟨_, _, rfl, rfl, cmulx h2, end_sc s0 r (.int _) rfl k⟩
      · cases h1
    · cases e
  · cases e
  · split at e
    · rename_i hl
      cases e
      cases ha with
      | tup q1 t1 =>
        cases hb
        rename_i p1 us
        refine op_repT pins s σ H _ _ v u Q I rx ry ⟨_, _, us, rfl, rfl, toT G.K q1, ?_, hl.2.1, hl.2.2.1, by rw [← t1.length]; exact hl.2.2.2, end_tup s0 r (t1.flat _) k⟩
        rintro rfl
        cases t1
        simp at hl
    · cases e
  · rename_i z1 z2 z3
    split at e
    · rename_i xs e1
      split at e
      · rename_i hl
        cases e
        obtain ⟨p1, us, rfl, q1, t1⟩ := mlst_ok r ha e1
        cases hb
        exact op_rep pins s σ H _ _ v u Q I rx ry ⟨_, _, us, rfl, rfl, q1, hl.1, hl.2.1, by rw [← t1.length]; exact hl.2.2, end_tl s0 r (t1.flat _) k⟩
      · cases e
    · cases e
  · cases e
/-! ### comparisons -/
theorem or_eq (G : Gp ws X) : OpR X (compareOp .Eq) (rP2 ws .eq) := by
  intro pins s σ H x y v u Q I rx ry h
  obtain ⟨H0, m0, m, st, ds, d, st', s0, r, ra, e, k⟩ := h
  obtain ⟨a, b, rfl, ha, hb⟩ := ra.as.two
  simp only [semP, sem2] at e
  split at e
  · rename_i c hc
    cases e
    obtain ⟨p, q, h1, h2, h3, h4, h5⟩ := eqD_ok r ha hb hc
    refine op_eqD (by have := G.units; omega) pins s σ H _ _ v u Q I rx ry ⟨p, q, by rw [G.K]; exact h1, by rw [G.K]; exact h2, h3, h4, ?_⟩
    rw [h5]
    exact end_sc s0 r (.bl c) rfl k
  · cases e
theorem or_ne (G : Gp ws X) : OpR X (compareOp .NotEq) (rP2 ws .ne) := by
  intro pins s σ H x y v u Q I rx ry h
  obtain ⟨H0, m0, m, st, ds, d, st', s0, r, ra, e, k⟩ := h
  obtain ⟨a, b, rfl, ha, hb⟩ := ra.as.two
  simp only [semP, sem2] at e
  split at e
  · rename_i c hc
    cases e
    obtain ⟨p, q, h1, h2, h3, h4, h5⟩ := eqD_ok r ha hb hc
    refine op_neD (by have := G.units; omega) pins s σ H _ _ v u Q I rx ry ⟨p, q, by rw [G.K]; exact h1, by rw [G.K]; exact h2, h3, h4, ?_⟩
    rw [h5]
    exact end_sc s0 r (.bl _) rfl k
  · cases e
theorem non_iff {m : List Addr} {H : Hp} {a : D} {x : V} (h : DV ws m H a x) : decide (x = .non) = isNon a := by
  cases h <;> first | rfl | exact decide_eq_false (by intro z; cases z)
theorem or_isN (G : Gp ws X) : OpR X (compareOp .Is) (rP2 ws .isN) := by
  intro pins s σ H x y v u Q I rx ry h
  obtain ⟨H0, m0, m, st, ds, d, st', s0, r, ra, e, k⟩ := h
  obtain ⟨a, b, rfl, ha, hb⟩ := ra.as.two
  simp only [semP, sem2] at e
  split at e
  · cases hb
    refine op_isN pins s σ H _ _ v u Q I rx ry ⟨rfl, ?_⟩
    rw [non_iff ha]
    cases e
    exact end_sc s0 r (.bl _) rfl k
  · cases e
theorem or_notN (G : Gp ws X) : OpR X (compareOp .IsNot) (rP2 ws .notN) := by
  intro pins s σ H x y v u Q I rx ry h
  obtain ⟨H0, m0, m, st, ds, d, st', s0, r, ra, e, k⟩ := h
  obtain ⟨a, b, rfl, ha, hb⟩ := ra.as.two
  simp only [semP, sem2] at e
  split at e
  · cases hb
    refine op_notN pins s σ H _ _ v u Q I rx ry ⟨rfl, ?_⟩
    rw [non_iff ha]
    cases e
    exact end_sc s0 r (.bl _) rfl k
  · cases e
theorem flat_ok {m : List Addr} {H : Hp} {a : D} {x : V} (h : DV ws m H a x) (f : flat a = true) : flatV x = true := by
  cases h <;> first | rfl | cases f
theorem flats_ok {m : List Addr} {H : Hp} : ∀ {ds : List D} {vs : List V}, DVs ws m H ds vs → ds.all flat = true → vs.all flatV = true
  | _, _, .nil, _ => rfl
  | _, _, .cons h _ t, f => by
    rw [List.all_cons, Bool.and_eq_true] at f ⊢
    exact ⟨flat_ok h f.1, flats_ok t f.2⟩
theorem str_beq (a b : List Nat) : ((⟨a.toArray⟩ : Str) == ⟨b.toArray⟩) = (a == b) := by
  rw [← PyProof.Rows.toList_beq]
theorem eqF_ok {m : List Addr} {H : Hp} {a b : D} {x y : V} (h : DV ws m H a x) (k : DV ws m H b y) (f : flat a = true) (g : flat b = true) : eqV x y = eqF a b := by
  cases h <;> (try (cases f)) <;> cases k <;> first | rfl | exact str_beq _ _ | cases g
theorem any_ok {m : List Addr} {H : Hp} {a : D} {x : V} (h : DV ws m H a x) (f : flat a = true) : ∀ {ds : List D} {vs : List V}, DVs ws m H ds vs → ds.all flat = true → inV x vs = ds.any fun y => eqF y a
  | _, _, .nil, _ => rfl
  | _, _, .cons k _ t, g => by
    rw [List.all_cons, Bool.and_eq_true] at g
    show (eqV _ x || _) = _
    rw [List.any_cons, eqF_ok k h g.1 f]
    exact congrArg _ (any_ok h f t g.2)
theorem or_in (G : Gp ws X) : OpR X (compareOp .In) (rP2 ws .isin) := by
  intro pins s σ H x y v u Q I rx ry h
  obtain ⟨H0, m0, m, st, ds, d, st', s0, r, ra, e, k⟩ := h
  obtain ⟨a, b, rfl, ha, hb⟩ := ra.as.two
  simp only [semP, sem2] at e
  split at e
  · rename_i xs hx
    split at e
    · rename_i hf
      cases e
      rw [Bool.and_eq_true] at hf
      obtain ⟨p, vs, rfl, q, t⟩ := seq_ok r hb hx
      refine op_in_seq pins s σ H _ _ v u Q I rx ry ⟨p, vs, rfl, ?_, flat_ok ha hf.1, flats_ok t hf.2, ?_⟩
      · rcases q with q | q
        · exact .inl (toL G.K q.1)
        · exact .inr (toT G.K q.1)
      · rw [any_ok ha hf.1 t hf.2]
        exact end_sc s0 r (.bl _) rfl k
    · cases e
  · cases e
theorem or_notin (G : Gp ws X) : OpR X (compareOp .NotIn) (rP2 ws .notin) := by
  intro pins s σ H x y v u Q I rx ry h
  obtain ⟨H0, m0, m, st, ds, d, st', s0, r, ra, e, k⟩ := h
  obtain ⟨a, b, rfl, ha, hb⟩ := ra.as.two
  simp only [semP, sem2] at e
  split at e
  · rename_i xs hx
    split at e
    · rename_i hf
      cases e
      rw [Bool.and_eq_true] at hf
      obtain ⟨p, vs, rfl, q, t⟩ := seq_ok r hb hx
      refine op_notIn_seq pins s σ H _ _ v u Q I rx ry ⟨p, vs, rfl, ?_, flat_ok ha hf.1, flats_ok t hf.2, ?_⟩
      · rcases q with q | q
        · exact .inl (toL G.K q.1)
        · exact .inr (toT G.K q.1)
      · rw [any_ok ha hf.1 t hf.2]
        exact end_sc s0 r (.bl _) rfl k
    · cases e
  · cases e
/-! ### subscripts, slices -/
theorem atI_ok {m : List Addr} {H : Hp} {ds : List D} {vs : List V} (t : DVs ws m H ds vs) {i : Int} {d : D} (e : atI ds i = some d) : ∃ v, atI vs i = some v ∧ DV ws m H d v ∧ notl d = true := by
  unfold atI at e ⊢
  rw [← t.length]
  cases h : ixN ds.length i with
  | none => rw [h] at e; cases e
  | some j =>
    rw [h] at e
    exact t.get e
theorem ix_any (G : Gp ws X) : IxR X (rP2 ws .ix) := by
  intro value slice pins s σ H x y v u Q I rx ry h hs
  obtain ⟨H0, m0, m, st, ds, d, st', s0, r, ra, e, k⟩ := h
  obtain ⟨a, b, rfl, ha, hb⟩ := ra.as.two
  simp only [semP, sem2] at e
  split at e
  · cases hb
    split at e
    · rename_i xs hx
      split at e
      · rename_i c hc
        cases e
        obtain ⟨p, vs, rfl, q, t⟩ := seq_ok r ha hx
        obtain ⟨z, h1, h2, h3⟩ := atI_ok t hc
        rcases q with q | q
        · exact ix_list value slice pins s σ H _ _ v u Q I rx ry ⟨p, vs, _, z, rfl, rfl, toL G.K q.1, h1, end_sc s0 r h2 h3 k⟩ hs
        · exact ix_tup value slice pins s σ H _ _ v u Q I rx ry ⟨p, vs, _, z, rfl, rfl, toT G.K q.1, h1, end_sc s0 r h2 h3 k⟩ hs
      · cases e
    · cases e
  · cases e
/-- a slice by values -/
def rSl (ws : Ws) : V → Option Int → Option Int → Hp → VK → Prop := fun x lo hi H Q => ∃ (H0 : Hp) (m0 m : List Addr) (st : Sto) (a : D) (d : D) (st' : Sto), Step m0 H0 m H ∧ Rl ws m st H ∧ DV ws m H a x ∧
  semSl a lo hi st = some (d, st') ∧ ∀ m' H' v, Step m0 H0 m' H' → Rl ws m' st' H' → RD ws H0 m' H' d v → Q v H'
theorem cut_whole {α : Type} (xs : List α) {lo hi : Option Int} (h : HT.sIx xs.length 0 lo = 0 ∧ HT.sIx xs.length xs.length hi = xs.length) : cut xs lo hi = xs := by
  unfold cut
  rw [h.1, h.2, List.drop_zero, Nat.sub_zero, List.take_length]
theorem sl_any (G : Gp ws X) : SlR X (rSl ws) := by
  intro pins s σ H x v vl vu lo hi sl Q I rx hs pl pu h
  obtain ⟨H0, m0, m, st, a, d, st', s0, r, ha, e, k⟩ := h
  unfold semSl at e
  split at e
  · cases e
    cases ha with
    | tup q t =>
      refine sl_tupA pins s σ H _ v vl vu lo hi sl Q I rx hs pl pu ⟨_, _, rfl, toT G.K q, fun z => ?_, fun _ => end_tup s0 r (t.cut _ _) k⟩
      rw [← t.length] at z
      rw [cut_whole _ z] at k
      exact end_sc s0 r (.tup q t) rfl k
  · split at e
    · rename_i xs hx
      cases e
      obtain ⟨p, vs, rfl, q, t⟩ := lst_ok r ha hx
      exact sl_list pins s σ H _ v vl vu lo hi sl Q I rx hs pl pu ⟨p, vs, rfl, toL G.K q, end_tl s0 r (t.cut _ _) k⟩
    · cases e
end
end Mn
/-! Mn5: built-in functions and methods are the model's. -/
namespace Mn
open PySem PySem.Spec PyProof.Rows L2
section
variable {ws : Ws} {X : Cx}

theorem allB_ok {m : List Addr} {H : Hp} : ∀ {ds : List D} {vs : List V} {bs : List Bool}, DVs ws m H ds vs → allB ds = some bs → vs = bs.map V.bl
  | [], _, bs, .nil, e => by cases e; rfl
  | d :: ds, _, bs, .cons h _ t, e => by
    unfold allB mapO at e
    cases h with
    | bl b =>
      simp only at e
      cases h2 : mapO _ ds with
      | none => rw [h2] at e; cases e
      | some cs =>
        rw [h2] at e
        cases e
        rw [List.map_cons, allB_ok t h2]
    | _ => simp at e
theorem allI_ok {m : List Addr} {H : Hp} : ∀ {ds : List D} {vs : List V} {ns : List Int}, DVs ws m H ds vs → allI ds = some ns → vs = ns.map V.int
  | [], _, bs, .nil, e => by cases e; rfl
  | d :: ds, _, bs, .cons h _ t, e => by
    unfold allI mapO at e
    cases h with
    | int b =>
      simp only at e
      cases h2 : mapO _ ds with
      | none => rw [h2] at e; cases e
      | some cs =>
        rw [h2] at e
        cases e
        rw [List.map_cons, allI_ok t h2]
    | _ => simp at e
theorem maxI_ok : ∀ (ns : List Int) (n m : Int), m ∈ n :: ns → (∀ y ∈ n :: ns, y ≤ m) → m = maxI n ns
  | [], n, m, h, _ => by simpa [maxI] using h
  | x :: ns, n, m, h, k => by
    show m = maxI (if x > n then x else n) ns
    have hx := k x (by simp)
    have hn := k n (by simp)
    refine maxI_ok ns _ m ?_ fun y hy => ?_
    · rcases List.mem_cons.mp h with rfl | h
      · split
        · exfalso; omega
        · simp
      · rcases List.mem_cons.mp h with rfl | h
        · split
          · simp
          · have : m = n := by omega
            simp [this]
        · exact List.mem_cons_of_mem _ h
    · rcases List.mem_cons.mp hy with rfl | hy
      · split <;> omega
      · exact k y (by simp [hy])
theorem minI_ok : ∀ (ns : List Int) (n m : Int), m ∈ n :: ns → (∀ y ∈ n :: ns, m ≤ y) → m = minI n ns
  | [], n, m, h, _ => by simpa [minI] using h
  | x :: ns, n, m, h, k => by
    show m = minI (if x < n then x else n) ns
    have hx := k x (by simp)
    have hn := k n (by simp)
    refine minI_ok ns _ m ?_ fun y hy => ?_
    · rcases List.mem_cons.mp h with rfl | h
      · split
        · exfalso; omega
        · simp
      · rcases List.mem_cons.mp h with rfl | h
        · split
          · simp
          · have : m = n := by omega
            simp [this]
        · exact List.mem_cons_of_mem _ h
    · rcases List.mem_cons.mp hy with rfl | hy
      · split <;> omega
      · exact k y (by simp [hy])

/-- one argument: what the run says of it -/
theorem one_arg {p : Pr} {vs : List V} {H : Hp} {Q : VK} (hp : ∀ a st, semP p [a] st = sem1 p a st) (h2 : ∀ a b st, semP p [a, b] st = sem2 p a b st) (h3 : ∀ a b st, sem2 p a b st = none) (h : rP ws p vs H Q) :
    ∃ (H0 : Hp) (m0 m : List Addr) (st : Sto) (a : D) (x : V) (d : D) (st' : Sto), vs = [x] ∧ Step m0 H0 m H ∧ Rl ws m st H ∧ RA ws H0 m H [a] [x] ∧ DV ws m H a x ∧ sem1 p a st = some (d, st') ∧ ∀ m' H' v, Step m0 H0 m' H' → Rl ws m' st' H' → RD ws H0 m' H' d v → Q v H' := by
  obtain ⟨H0, m0, m, st, ds, d, st', s0, r, ra, e, k⟩ := h
  obtain ⟨as, nd, fr⟩ := ra
  cases as with
  | nil => cases e
  | cons h t =>
    cases t with
    | nil =>
      rw [hp] at e
      exact ⟨H0, m0, m, st, _, _, d, st', rfl, s0, r, ⟨.cons h .nil, nd, fr⟩, h, e, k⟩
    | cons h' t' =>
      cases t' with
      | nil => rw [h2, h3] at e; cases e
      | cons h'' t'' => cases e
theorem sem2_none {p : Pr} (h : p = .len ∨ p = .abs ∨ p = .toInt ∨ p = .all ∨ p = .any ∨ p = .sum ∨ p = .tuple ∨ p = .list ∨ p = .max ∨ p = .min ∨ p = .pop0 ∨ p = .neg) : ∀ a b st, sem2 p a b st = none := by
  intro a b st
  rcases h with rfl | rfl | rfl | rfl | rfl | rfl | rfl | rfl | rfl | rfl | rfl | rfl <;>
  · simp only [sem2]
    split <;> rfl
theorem cr_len (G : Gp ws X) : CallR X (.builtin "len") (rP ws .len) := by
  intro pins s σ H xs us Q I rv h
  obtain ⟨H0, m0, m, st, a, x, d, st', rfl, s0, r, ra, ha, e, k⟩ := one_arg (fun _ _ => rfl) (fun _ _ _ => rfl) (sem2_none (by simp)) h
  simp only [sem1] at e
  split at e
  · rename_i ys hy
    cases e
    obtain ⟨p, vs, rfl, q, t⟩ := seq_ok r ha hy
    refine call_len_seq pins s σ H _ us Q I rv ⟨p, vs, rfl, ?_, ?_⟩
    · rcases q with q | q
      · exact .inl (toL G.K q.1)
      · exact .inr (toT G.K q.1)
    · rw [← t.length]
      exact end_sc s0 r (.int _) rfl k
  · cases e
theorem cr_abs : CallR X (.builtin "abs") (rP ws .abs) := by
  intro pins s σ H xs us Q I rv h
  obtain ⟨H0, m0, m, st, a, x, d, st', rfl, s0, r, ra, ha, e, k⟩ := one_arg (fun _ _ => rfl) (fun _ _ _ => rfl) (sem2_none (by simp)) h
  simp only [sem1] at e
  split at e
  · cases e
    cases ha
    exact call_abs pins s σ H _ us Q I rv ⟨_, rfl, end_sc s0 r (.int _) rfl k⟩
  · cases e
theorem cr_int : CallR X (.type "int") (rP ws .toInt) := by
  intro pins s σ H xs us Q I rv h
  obtain ⟨H0, m0, m, st, a, x, d, st', rfl, s0, r, ra, ha, e, k⟩ := one_arg (fun _ _ => rfl) (fun _ _ _ => rfl) (sem2_none (by simp)) h
  simp only [sem1] at e
  split at e
  · cases e
    cases ha
    exact call_int1 pins s σ H _ us Q I rv (.inl ⟨_, rfl, end_sc s0 r (.int _) rfl k⟩)
  · cases e
    cases ha
    exact call_int1 pins s σ H _ us Q I rv (.inr ⟨_, rfl, end_sc s0 r (.int _) rfl k⟩)
  · cases e
theorem cr_allM (G : Gp ws X) : CallR X (.builtin "all") (rP ws .all) := by
  intro pins s σ H xs us Q I rv h
  obtain ⟨H0, m0, m, st, a, x, d, st', rfl, s0, r, ra, ha, e, k⟩ := one_arg (fun _ _ => rfl) (fun _ _ _ => rfl) (sem2_none (by simp)) h
  simp only [sem1] at e
  split at e
  · rename_i ys hy
    split at e
    · rename_i bs hb
      cases e
      obtain ⟨p, vs, rfl, q, t⟩ := lst_ok r ha hy
      rw [allB_ok t hb] at q
      exact cr_all G.calm pins s σ H _ us Q I rv ⟨p, bs, rfl, toL G.K q, end_sc s0 r (.bl _) rfl k⟩
    · cases e
  · cases e
theorem cr_anyM (G : Gp ws X) : CallR X (.builtin "any") (rP ws .any) := by
  intro pins s σ H xs us Q I rv h
  obtain ⟨H0, m0, m, st, a, x, d, st', rfl, s0, r, ra, ha, e, k⟩ := one_arg (fun _ _ => rfl) (fun _ _ _ => rfl) (sem2_none (by simp)) h
  simp only [sem1] at e
  split at e
  · rename_i ys hy
    split at e
    · rename_i bs hb
      cases e
      obtain ⟨p, vs, rfl, q, t⟩ := lst_ok r ha hy
      rw [allB_ok t hb] at q
      exact cr_any G.calm pins s σ H _ us Q I rv ⟨p, bs, rfl, toL G.K q, end_sc s0 r (.bl _) rfl k⟩
    · cases e
  · cases e
theorem cr_sumM (G : Gp ws X) : CallR X (.builtin "sum") (rP ws .sum) := by
  intro pins s σ H xs us Q I rv h
  obtain ⟨H0, m0, m, st, a, x, d, st', rfl, s0, r, ra, ha, e, k⟩ := one_arg (fun _ _ => rfl) (fun _ _ _ => rfl) (sem2_none (by simp)) h
  simp only [sem1] at e
  split at e
  · rename_i ys hy
    split at e
    · rename_i bs hb
      cases e
      obtain ⟨p, vs, rfl, q, t⟩ := lst_ok r ha hy
      rw [allI_ok t hb] at q
      exact cr_sum G.calm pins s σ H _ us Q I rv ⟨p, bs, rfl, toL G.K q, end_sc s0 r (.int _) rfl k⟩
    · cases e
  · cases e
theorem cr_max2 (G : Gp ws X) : CallR X (.builtin "max") (rP ws .max2) := by
  intro pins s σ H xs us Q I rv h
  obtain ⟨H0, m0, m, st, ds, d, st', s0, r, ra, e, k⟩ := h
  obtain ⟨as, nd, fr⟩ := ra
  cases as with
  | nil => cases e
  | cons ha t =>
    cases t with
    | nil => cases e
    | cons hb t' =>
      cases t' with
      | nil =>
        obtain ⟨i, j, c, rfl, rfl, e1, e2⟩ := inv_ints (p := .max2) (by simp) _ _ _ _ e
        cases e2
        cases e1
        cases ha
        cases hb
        exact call_max2 G.calm pins s σ H _ us Q I rv ⟨_, _, rfl, end_sc s0 r (.int _) rfl k⟩
      | cons _ t'' => cases e
theorem cr_min2 (G : Gp ws X) : CallR X (.builtin "min") (rP ws .min2) := by
  intro pins s σ H xs us Q I rv h
  obtain ⟨H0, m0, m, st, ds, d, st', s0, r, ra, e, k⟩ := h
  obtain ⟨as, nd, fr⟩ := ra
  cases as with
  | nil => cases e
  | cons ha t =>
    cases t with
    | nil => cases e
    | cons hb t' =>
      cases t' with
      | nil =>
        obtain ⟨i, j, c, rfl, rfl, e1, e2⟩ := inv_ints (p := .min2) (by simp) _ _ _ _ e
        cases e2
        cases e1
        cases ha
        cases hb
        exact call_min2 G.calm pins s σ H _ us Q I rv ⟨_, _, rfl, end_sc s0 r (.int _) rfl k⟩
      | cons _ t'' => cases e
theorem cr_maxM (G : Gp ws X) : CallR X (.builtin "max") (rP ws .max) := by
  intro pins s σ H xs us Q I rv h
  obtain ⟨H0, m0, m, st, a, x, d, st', rfl, s0, r, ra, ha, e, k⟩ := one_arg (fun _ _ => rfl) (fun _ _ _ => rfl) (sem2_none (by simp)) h
  simp only [sem1] at e
  split at e
  · rename_i ys hy
    split at e
    · rename_i n ns hb
      cases e
      obtain ⟨p, vs, rfl, q, t⟩ := lst_ok r ha hy
      rw [allI_ok t hb] at q
      refine cr_max G.calm pins s σ H _ us Q I rv ⟨p, n :: ns, rfl, toL G.K q, by simp, fun z h1 h2 => ?_⟩
      rw [maxI_ok ns n z h1 h2]
      exact end_sc s0 r (.int _) rfl k
    · cases e
  · cases e
theorem cr_minM (G : Gp ws X) : CallR X (.builtin "min") (rP ws .min) := by
  intro pins s σ H xs us Q I rv h
  obtain ⟨H0, m0, m, st, a, x, d, st', rfl, s0, r, ra, ha, e, k⟩ := one_arg (fun _ _ => rfl) (fun _ _ _ => rfl) (sem2_none (by simp)) h
  simp only [sem1] at e
  split at e
  · rename_i ys hy
    split at e
    · rename_i n ns hb
      cases e
      obtain ⟨p, vs, rfl, q, t⟩ := lst_ok r ha hy
      rw [allI_ok t hb] at q
      refine cr_min G.calm pins s σ H _ us Q I rv ⟨p, n :: ns, rfl, toL G.K q, by simp, fun z h1 h2 => ?_⟩
      rw [minI_ok ns n z h1 h2]
      exact end_sc s0 r (.int _) rfl k
    · cases e
  · cases e
theorem cr_tuple (G : Gp ws X) : CallR X (.type "tuple") (rP ws .tuple) := by
  intro pins s σ H xs us Q I rv h
  obtain ⟨H0, m0, m, st, a, x, d, st', rfl, s0, r, ra, ha, e, k⟩ := one_arg (fun _ _ => rfl) (fun _ _ _ => rfl) (sem2_none (by simp)) h
  simp only [sem1] at e
  split at e
  · rename_i ys hy
    cases e
    obtain ⟨p, vs, rfl, q, t⟩ := seq_ok r ha hy
    refine call_tuple_of pins s σ H _ us Q I rv ⟨p, vs, rfl, ?_⟩
    rcases q with q | q
    · exact .inl ⟨toL G.K q.1, end_tup s0 r t k⟩
    · exact .inr ⟨toT G.K q.1, end_sc s0 r (.tup q.1 t) rfl k⟩
  · cases e
theorem cr_list (G : Gp ws X) : CallR X (.type "list") (rP ws .list) := by
  intro pins s σ H xs us Q I rv h
  obtain ⟨H0, m0, m, st, a, x, d, st', rfl, s0, r, ra, ha, e, k⟩ := one_arg (fun _ _ => rfl) (fun _ _ _ => rfl) (sem2_none (by simp)) h
  simp only [sem1] at e
  split at e
  · rename_i ys hy
    cases e
    obtain ⟨p, vs, rfl, q, t⟩ := seq_ok r ha hy
    refine call_list_of pins s σ H _ us Q I rv ⟨p, vs, rfl, ?_, end_tl s0 r t k⟩
    rcases q with q | q
    · exact .inl (toL G.K q.1)
    · exact .inr (toT G.K q.1)
  · cases e
theorem un_negM : UnR X (unaryOp .USub) (fun x H Q => rP ws .neg [x] H Q) := by
  intro pins s σ H x v Q I rv h
  obtain ⟨H0, m0, m, st, a, x', d, st', e0, s0, r, ra, ha, e, k⟩ := one_arg (fun _ _ => rfl) (fun _ _ _ => rfl) (sem2_none (by simp)) h
  cases e0
  simp only [sem1] at e
  split at e
  · cases e
    cases ha
    exact un_neg pins s σ H _ v Q I rv ⟨_, rfl, end_sc s0 r (.int _) rfl k⟩
  · cases e

/-! ### isinstance -/
def tyN : Option Ty → String
  | none => "NoneType"
  | some .int => "int"
  | some .bool => "bool"
  | some .str => "str"
  | some .tuple => "tuple"
  | some .list => "list"
def subO : Option Ty → Ty → Bool
  | none, _ => false
  | some t, u => subTy t u
theorem kit_all (t : Option Ty) (u : Ty) : kitB (tyN t) (tyN (some u)) = some (subO t u) := by
  cases t with
  | none => cases u <;> decide +kernel
  | some t => cases t <;> cases u <;> decide +kernel
theorem ty_ok {m : List Addr} {H : Hp} {st : Sto} {a : D} {x : V} (K : X.K = ws.K) (r : Rl ws m st H) (h : DV ws m H a x) {t : Option Ty} (e : tyOf st a = some t) : TyX X.K H x (.type (tyN t)) := by
  cases h with
  | non => cases e; exact .base .non
  | bl b => cases e; exact .base (.bl b)
  | int i => cases e; exact .base (.int i)
  | str s => cases e; exact .base (.str _)
  | tup q t =>
    cases e
    rcases q with (q | ⟨o, q⟩) | ⟨o, its, n, q, c, _⟩
    · exact .base (.tup q)
    · exact .fTuple q
    · exact .kTuple (by rw [K]; exact q) c
  | tl n q t => cases e; exact .base (.lst q)
  | kl q t =>
    cases e
    rcases q with ⟨o, q⟩ | ⟨o, its, n, q, c, _⟩
    · exact .base (.frz q)
    · exact .kList (by rw [K]; exact q) c
  | lr q =>
    rename_i n p
    simp only [tyOf] at e
    cases h1 : st[n]? with
    | none => rw [h1] at e; cases e
    | some o =>
      cases o with
      | lst ys =>
        rw [h1] at e
        cases e
        obtain ⟨p', q', vs, z, t⟩ := r.at h1
        rw [q] at q'
        cases q'
        exact .base (.lst z)
  | fn g => cases e
/-- isinstance(x, T): the class a built-in type -/
theorem cr_inst1 (G : Gp ws X) (t : Ty) : CallR X (.builtin "isinstance") (fun vs H Q => ∃ x, vs = [x, .ty (tyN (some t))] ∧ rP ws (.inst [t]) [x] H Q) := by
  intro pins s σ H xs us Q I rv h
  obtain ⟨x, rfl, H0, m0, m, st, ds, d, st', s0, r, ra, e, k⟩ := h
  obtain ⟨a, rfl, ha⟩ := ra.as.one
  simp only [semP, sem1] at e
  have fin : ∀ o, tyOf st a = some o → (.bl (subO o t), st) = (d, st') → wpAny (model X.prog X.w) X.A (call (.builtin "isinstance") us) (EP X pins σ Q) X.xe s := by
    intro o h1 h2
    cases h2
    exact call_isi pins s σ H _ us Q I rv ⟨_, _, _, _, subO o t, rfl, .ty _, ty_ok G.K r ha h1, kit_ty (kit_all o t), end_sc s0 r (.bl _) rfl k⟩
  split at e
  · rename_i u hu
    refine fin _ hu ?_
    rw [← Option.some.inj e]
    simp [subO]
  · rename_i hu
    refine fin _ hu ?_
    rw [← Option.some.inj e]
    rfl
  · cases e
/-- isinstance(x, (T, ..)) -/
theorem kit_any (o : Option Ty) {K : PySem.W.Frag} : ∀ ts : List Ty, PySem.W.kitAny K (.type (tyN o)) (ts.map fun t => Value.type (tyN (some t))) = some (ts.any (subO o))
  | [] => kitAny_nil
  | t :: ts => by
    rw [List.map_cons]
    refine kitAny_cons (kit_ty (kit_all o t)) (fun h => ?_) (fun h => ?_)
    · rw [kit_any o ts, List.any_cons, h, Bool.false_or]
    · rw [List.any_cons, h, Bool.true_or]
theorem clss : ∀ ts : List Ty, Paired ClsV (ts.map fun t => V.ty (tyN (some t))) (ts.map fun t => Value.type (tyN (some t)))
  | [] => .nil
  | t :: ts => .cons (.ty _) (clss ts)
theorem cr_instT (G : Gp ws X) (ts : List Ty) : CallR X (.builtin "isinstance") (fun vs H Q => ∃ x tp, vs = [x, .ref tp] ∧ H tp = some (.tup (ts.map fun t => V.ty (tyN (some t)))) ∧ rP ws (.inst ts) [x] H Q) := by
  intro pins s σ H xs us Q I rv h
  obtain ⟨x, tp, rfl, ht, H0, m0, m, st, ds, d, st', s0, r, ra, e, k⟩ := h
  obtain ⟨a, rfl, ha⟩ := ra.as.one
  simp only [semP, sem1] at e
  have fin : ∀ o, tyOf st a = some o → (.bl (ts.any (subO o)), st) = (d, st') → wpAny (model X.prog X.w) X.A (call (.builtin "isinstance") us) (EP X pins σ Q) X.xe s := by
    intro o h1 h2
    cases h2
    exact call_isiT pins s σ H _ us Q I rv ⟨_, tp, _, _, _, _, rfl, ht, clss ts, ty_ok G.K r ha h1, kit_any o ts, end_sc s0 r (.bl _) rfl k⟩
  split at e
  · rename_i u hu
    refine fin _ hu ?_
    rw [← Option.some.inj e]
    rfl
  · rename_i hu
    refine fin _ hu ?_
    rw [← Option.some.inj e]
    have : ts.any (subO none) = false := by
      rw [List.any_eq_false]
      intro t _
      simp [subO]
    rw [this]
  · cases e

/-! ### methods of lists, stores -/
/-- a method: the receiver ahead -/
abbrev rM (ws : Ws) (p : Pr) : V → List V → Hp → VK → Prop := fun x xs H Q => rP ws p (x :: xs) H Q
theorem lr_of {m : List Addr} {st : Sto} {H : Hp} {n : Nat} {x : V} {xs : List D} (r : Rl ws m st H) (h : DV ws m H (.lr n) x) (e : st[n]? = some (.lst xs)) : ∃ p vs, x = .ref p ∧ m[n]? = some p ∧ H p = some (.lst vs) ∧ DVs ws m H xs vs := by
  cases h with
  | lr q =>
    obtain ⟨p', q', vs, z, t⟩ := r.at e
    rw [q] at q'
    cases q'
    exact ⟨_, vs, rfl, q, z, t⟩
/-- the store's list n is written -/
theorem end_wr {H0 H : Hp} {m0 m : List Addr} {st : Sto} {n : Nat} {p : Addr} {xs ys : List D} {vs us : List V} (s0 : Step m0 H0 m H) (r : Rl ws m st H) (e : st[n]? = some (.lst xs)) (q : m[n]? = some p) (z : H p = some (.lst vs)) (t : DVs ws m H ys us) :
    Step m0 H0 m (upd H p (.lst us)) ∧ Rl ws m (st.set n (.lst ys)) (upd H p (.lst us)) ∧ Step m H m (upd H p (.lst us)) :=
  ⟨s0.trans (Step.write (List.mem_of_getElem? q) z), r.write e q z t, Step.write (List.mem_of_getElem? q) z⟩
theorem mt_appendM : MtR X "list.append" (rM ws .append) := by
  intro pins s σ H x xs v us Q I rx rv h
  obtain ⟨H0, m0, m, st, ds, d, st', s0, r, ra, e, k⟩ := h
  obtain ⟨as, nd, fr⟩ := ra
  cases as with
  | cons ha t =>
    rename_i a as
    cases t with
    | nil => simp only [semP, sem1] at e; cases e
    | cons hb t' =>
      rename_i b y bs ys
      cases t' with
      | nil =>
        simp only [semP, sem2] at e
        split at e
        · rename_i n
          split at e
          · rename_i zs hz
            split at e
            · rename_i hl
              cases e
              obtain ⟨p, vs, rfl, q, z, t⟩ := lr_of r ha hz
              obtain ⟨r1, h1, k1⟩ := mat_ok r hb
              have s1 : Step m0 H0 (m ++ tls [b] [y]) H := s0.more fun c hc => fr c (by rw [tls_cons]; exact List.mem_append_right _ hc)
              have e1 : (mat b st).2[n]? = some (.lst zs) := by
                have hn : n < st.length := (List.getElem?_eq_some_iff.mp hz).1
                cases b <;> first | exact hz | (show (st ++ _)[n]? = _; rw [List.getElem?_append_left hn]; exact hz)
              have q1 : (m ++ tls [b] [y])[n]? = some p := by
                rw [List.getElem?_append_left (List.getElem?_eq_some_iff.mp q).1]
                exact q
              obtain ⟨w1, w2, w3⟩ := end_wr s1 r1 e1 q1 z ((t.up _).append (.cons h1 k1 .nil))
              exact mt_append pins s σ H _ _ v us Q I rx rv ⟨p, vs, y, rfl, rfl, z, by rw [← t.length]; exact hl, k _ _ _ w1 w2 ⟨.non, fr_of rfl⟩⟩
            · cases e
          · cases e
        · cases e
      | cons _ t'' => cases e
theorem mt_pop0 : MtR X "list.pop" (fun x xs H Q => xs = [] ∧ rM ws .pop0 x [] H Q) := by
  intro pins s σ H x xs v us Q I rx rv h
  obtain ⟨rfl, H0, m0, m, st, ds, d, st', s0, r, ra, e, k⟩ := h
  obtain ⟨a, rfl, ha⟩ := ra.as.one
  simp only [semP, sem1] at e
  split at e
  · rename_i n
    split at e
    · rename_i zs hz
      split at e
      · rename_i c hc
        cases e
        obtain ⟨p, vs, rfl, q, z, t⟩ := lr_of r ha hz
        obtain ⟨y, h1, h2, h3⟩ := t.get hc
        have e2 : vs.dropLast = vs.take (vs.length - 1) := List.dropLast_eq_take
        have e3 : zs.dropLast = zs.take (vs.length - 1) := by rw [← t.length]; exact List.dropLast_eq_take
        obtain ⟨w1, w2, w3⟩ := end_wr (ys := zs.dropLast) (us := vs.dropLast) s0 r hz q z (by rw [e2, e3]; exact t.take _)
        exact mt_pop pins s σ H _ _ v us Q I rx rv ⟨p, vs, y, rfl, rfl, z, by rw [← t.length]; exact h1, k _ _ _ w1 w2 ⟨h2.mono w3, fr_of h3⟩⟩
      · cases e
    · cases e
  · cases e
theorem mt_pop1 : MtR X "list.pop" (fun x xs H Q => ∃ y, xs = [y] ∧ rM ws .pop1 x [y] H Q) := by
  intro pins s σ H x xs v us Q I rx rv h
  obtain ⟨y, rfl, H0, m0, m, st, ds, d, st', s0, r, ra, e, k⟩ := h
  obtain ⟨a, b, rfl, ha, hb⟩ := ra.as.two
  simp only [semP, sem2] at e
  split at e
  · rename_i n i
    split at e
    · rename_i zs hz
      split at e
      · rename_i j hj
        split at e
        · rename_i c hc
          cases e
          obtain ⟨p, vs, rfl, q, z, t⟩ := lr_of r ha hz
          obtain ⟨y', h1, h2, h3⟩ := t.get hc
          obtain ⟨w1, w2, w3⟩ := end_wr (ys := zs.eraseIdx j) (us := vs.eraseIdx j) s0 r hz q z (t.eraseIdx j)
          cases hb
          obtain ⟨its, n2, _, _, hsz⟩ := I.lst z
          rw [t.length] at hj
          obtain ⟨g1, g2, g3, g4⟩ := ixN_seq hj
          have hL : (sizeLine : Nat) < 2 ^ 63 := by decide
          exact mt_popAt pins s σ H _ _ v us Q I rx rv ⟨p, vs, i, j, y', rfl, rfl, z, by omega, by omega, g1, h1, k _ _ _ w1 w2 ⟨h2.mono w3, fr_of h3⟩⟩
        · cases e
      · cases e
    · cases e
  · cases e
/-- o[i] = v -/
theorem set_any : PSet X (fun o i v H Q => ∃ (H0 : Hp) (m0 m : List Addr) (st st' : Sto) (a b c : D), Step m0 H0 m H ∧ Rl ws m st H ∧ DV ws m H a o ∧ DV ws m H b i ∧ DV ws m H c v ∧ Fr H0 c v ∧ setD a b c st = some st' ∧
    ∀ m' H', Step m0 H0 m' H' → Rl ws m' st' H' → Q H') := by
  intro pins s σ H o i v ov iv u Q I ro ri rv h
  obtain ⟨H0, m0, m, st, st', a, b, c, s0, r, ha, hb, hc, fr, e, k⟩ := h
  unfold setD at e
  split at e
  · rename_i n j
    split at e
    · rename_i zs hz
      split at e
      · rename_i l hl
        cases e
        obtain ⟨p, vs, rfl, q, z, t⟩ := lr_of r ha hz
        cases hb
        obtain ⟨r1, h1, k1⟩ := mat_ok r hc
        have s1 : Step m0 H0 (m ++ tls [c] [v]) H := s0.more (tls_one fr)
        have e1 : (mat c st).2[n]? = some (.lst zs) := by
          have hn : n < st.length := (List.getElem?_eq_some_iff.mp hz).1
          cases c <;> first | exact hz | (show (st ++ _)[n]? = _; rw [List.getElem?_append_left hn]; exact hz)
        have q1 : (m ++ tls [c] [v])[n]? = some p := by
          rw [List.getElem?_append_left (List.getElem?_eq_some_iff.mp q).1]
          exact q
        obtain ⟨w1, w2, w3⟩ := end_wr s1 r1 e1 q1 z (DVs.set h1 k1 l (t.up _))
        exact set_list pins s σ H _ _ v ov iv u Q I ro ri rv ⟨p, vs, j, l, rfl, rfl, z, by rw [← t.length]; exact hl, k _ _ w1 w2⟩
      · cases e
    · cases e
  · cases e
end
end Mn
/-! Mn6: contexts, readings of the small language, how they join. -/
namespace Mn
open PySem PySem.Spec PyProof.Rows L2

/-! ### what a run leaves, in a context -/
/-- an exception of the small run -/
def ExV (ws : Ws) (m : List Addr) (H : Hp) (c : Nat) (p : List D) (cls : Value) (dx : Option Addr) : Prop :=
  ∃ C an, ws.ec c = some (C, an) ∧ cls = .ref C ∧ (match an with
    | none => dx = none ∧ p = []
    | some f => ∃ d v pd, dx = some d ∧ p = [pd] ∧ H d = some (.xd [(f, v)]) ∧ DV ws m H pd v ∧ notl pd = true)
section
variable {α β γ δ : Type}
/-- R: how a result stands for one of the layer's, from the heap at the start -/
def Aft (ws : Ws) (W : WX) (n : Nat) (m : List Addr) (H : Hp) (R : Hp → List Addr → Hp → α → β → Prop) (Q : β → Hp → Prop) : Out α → Prop
  | .ok a st' => ∀ m' H' b, Step m H m' H' → Rl ws m' st' H' → R H m' H' a b → Q b H'
  | .ex c p st' => ∀ m' H' cls dx (σ' : L2.St), Step m H m' H' → Rl ws m' st' H' → ExV ws m' H' c p cls dx → σ'.length = n → W cls dx σ' H'
  | .no => False
variable {ws : Ws} {W : WX} {n : Nat} {m m1 : List Addr} {H H1 : Hp}
theorem Aft.bind {R : Hp → List Addr → Hp → α → β → Prop} {S : Hp → List Addr → Hp → γ → δ → Prop} {Q : δ → Hp → Prop} {Q1 : β → Hp → Prop} {x : Out α} {f : α → Sto → Out γ} (h : Aft ws W n m H S Q (x.bind f))
    (k : ∀ a st1 m1 H1 b, x = .ok a st1 → Step m H m1 H1 → Rl ws m1 st1 H1 → R H m1 H1 a b → Aft ws W n m H S Q (f a st1) → Q1 b H1) : Aft ws W n m H R Q1 x := by
  cases x with
  | ok a st => exact fun m' H' b s r q => k a st m' H' b rfl s r q h
  | ex c p st => exact h
  | no => exact h
/-- from a later state -/
theorem Aft.shift {S : Hp → List Addr → Hp → γ → δ → Prop} {Q : δ → Hp → Prop} {x : Out γ} (h : Aft ws W n m H S Q x) (s : Step m H m1 H1) (hS : ∀ m' H' a b, S H1 m' H' a b → S H m' H' a b) : Aft ws W n m1 H1 S Q x := by
  cases x with
  | ok a st => exact fun m' H' b s' r q => h m' H' b (s.trans s') r (hS _ _ _ _ q)
  | ex c p st => exact fun m' H' cls dx σ' s' r q l => h m' H' cls dx σ' (s.trans s') r q l
  | no => exact h
theorem Aft.imp {S : Hp → List Addr → Hp → γ → δ → Prop} {Q Q' : δ → Hp → Prop} {x : Out γ} (h : Aft ws W n m H S Q x) (k : ∀ b H', Q b H' → Q' b H') : Aft ws W n m H S Q' x := by
  cases x with
  | ok a st => exact fun m' H' b s' r q => k _ _ (h m' H' b s' r q)
  | ex c p st => exact h
  | no => exact h
end
theorem RD.back {ws : Ws} {m1 m' : List Addr} {H H1 H' : Hp} {m : List Addr} {d : D} {v : V} (s : Step m H m1 H1) (h : RD ws H1 m' H' d v) : RD ws H m' H' d v := ⟨h.1, fun n a e => s.there a (h.2 n a e)⟩
theorem RA.back {ws : Ws} {m1 m' : List Addr} {H H1 H' : Hp} {m : List Addr} {ds : List D} {vs : List V} (s : Step m H m1 H1) (h : RA ws H1 m' H' ds vs) : RA ws H m' H' ds vs := ⟨h.as, h.nd, fun a e => s.there a (h.fr a e)⟩

theorem evEs_length {cf : Cf} : ∀ {es : List E} {ρ : Rho} {st st' : Sto} {ds : List D}, evEs cf es ρ st = .ok ds st' → ds.length = es.length
  | [], ρ, st, st', ds, h => by
    unfold evEs at h
    cases h
    rfl
  | e :: es, ρ, st, st', ds, h => by
    unfold evEs at h
    cases h1 : evE cf e ρ st with
    | ok d st1 =>
      rw [h1] at h
      cases h2 : evEs cf es ρ st1 with
      | ok ds' st2 =>
        have h' : Out.ok (d :: ds') st2 = .ok ds st' := by
          have := h
          simp only [Out.bind, h2] at this
          exact this
        cases h'
        rw [List.length_cons, List.length_cons, evEs_length h2]
      | ex c p st2 => simp only [Out.bind, h2] at h; cases h
      | no => simp only [Out.bind, h2] at h; cases h
    | ex c p st1 => rw [h1] at h; cases h
    | no => rw [h1] at h; cases h

/-! ### the readings -/
section
variable (ws : Ws) (cf : Cf) (W : WX) (n : Nat)
def tE (e : E) : TE := fun σ H Q => ∃ ρ st m, RlE ws m H ρ σ ∧ Rl ws m st H ∧ σ.length = n ∧ Aft ws W n m H (RD ws) Q (evE cf e ρ st)
def tEs (es : List E) : TA := fun σ H Q => ∃ ρ st m, RlE ws m H ρ σ ∧ Rl ws m st H ∧ σ.length = n ∧ Aft ws W n m H (RA ws) Q (evEs cf es ρ st)
def RB : Hp → List Addr → Hp → Bool → Bool → Prop := fun _ _ _ a b => a = b
def tT (e : E) : TT := fun σ H Q => ∃ ρ st m, RlE ws m H ρ σ ∧ Rl ws m st H ∧ σ.length = n ∧ Aft ws W n m H RB Q ((evE cf e ρ st).bind asB)
end
/-! weaker readings -/
theorem PE.imp {X : Cx} {e : Expr} {t u : TE} (h : PE X e t) (k : ∀ σ H Q, u σ H Q → t σ H Q) : PE X e u := ⟨fun pins s σ H Q I q => h.run pins s σ H Q I (k _ _ _ q)⟩
theorem PT.imp {X : Cx} {e : Expr} {t u : TT} (h : PT X e t) (k : ∀ σ H Q, u σ H Q → t σ H Q) : PT X e u := ⟨fun pins s σ H Q I q => h.run pins s σ H Q I (k _ _ _ q)⟩
theorem PW.imp {X : Cx} {e : Expr} {t u : TT} (h : PW X e t) (k : ∀ σ H Q, u σ H Q → t σ H Q) : PW X e u := ⟨fun wh pins s σ H Q I q => h.run wh pins s σ H Q I (k _ _ _ q)⟩
theorem PA.imp {X : Cx} {es : List Expr} {t u : TA} (h : PA X es t) (k : ∀ σ H Q, u σ H Q → t σ H Q) : PA X es u := ⟨fun pos pins s σ H Q I q => h.run pos pins s σ H Q I (k _ _ _ q)⟩
theorem PS.imp {X : Cx} {e : Stmt} {t u : TS} (h : PS X e t) (k : ∀ D σ H, u D σ H → t D σ H) : PS X e u := ⟨fun pins s σ H D I q => h.run pins s σ H D I (k _ _ _ q)⟩
theorem PSs.imp {X : Cx} {e : List Stmt} {t u : TS} (h : PSs X e t) (k : ∀ D σ H, u D σ H → t D σ H) : PSs X e u := ⟨fun pins s σ H D I q => h.run pins s σ H D I (k _ _ _ q)⟩
theorem PG.imp {X : Cx} {e : Expr} {t u : TG} (h : PG X e t) (k : ∀ v σ H Q, u v σ H Q → t v σ H Q) : PG X e u := ⟨fun pins s σ H v w Q I r q => h.run pins s σ H v w Q I r (k _ _ _ _ q)⟩
theorem PI.imp {X : Cx} {tg e : Expr} {t u : TI} (h : PI X tg e t) (k : ∀ σ H R, u σ H R → t σ H R) : PI X tg e u := ⟨fun pins s σ H R I q => h.run pins s σ H R I (k _ _ _ q)⟩

section
variable {ws : Ws} {cf : Cf} {W : WX} {n : Nat} {σ : L2.St} {H : Hp}
/-- one expression, then more -/
theorem tE_bind {e : E} {ρ : Rho} {st : Sto} {m : List Addr} {γ δ : Type} {S : Hp → List Addr → Hp → γ → δ → Prop} {Q : δ → Hp → Prop} {Q1 : VK} {f : D → Sto → Out γ} (hρ : RlE ws m H ρ σ) (r : Rl ws m st H) (hl : σ.length = n)
    (h : Aft ws W n m H S Q ((evE cf e ρ st).bind f))
    (k : ∀ d st1 m1 H1 v, evE cf e ρ st = .ok d st1 → Step m H m1 H1 → Rl ws m1 st1 H1 → RlE ws m1 H1 ρ σ → RD ws H m1 H1 d v → Aft ws W n m H S Q (f d st1) → Q1 v H1) : tE ws cf W n e σ H Q1 :=
  ⟨ρ, st, m, hρ, r, hl, Aft.bind h fun d st1 m1 H1 v e1 s r1 q a => k d st1 m1 H1 v e1 s r1 (hρ.mono s) q a⟩
theorem tEs_bind {es : List E} {ρ : Rho} {st : Sto} {m : List Addr} {γ δ : Type} {S : Hp → List Addr → Hp → γ → δ → Prop} {Q : δ → Hp → Prop} {Q1 : List V → Hp → Prop} {f : List D → Sto → Out γ} (hρ : RlE ws m H ρ σ) (r : Rl ws m st H) (hl : σ.length = n)
    (h : Aft ws W n m H S Q ((evEs cf es ρ st).bind f))
    (k : ∀ ds st1 m1 H1 vs, evEs cf es ρ st = .ok ds st1 → Step m H m1 H1 → Rl ws m1 st1 H1 → RlE ws m1 H1 ρ σ → RA ws H m1 H1 ds vs → Aft ws W n m H S Q (f ds st1) → Q1 vs H1) : tEs ws cf W n es σ H Q1 :=
  ⟨ρ, st, m, hρ, r, hl, Aft.bind h fun d st1 m1 H1 v e1 s r1 q a => k d st1 m1 H1 v e1 s r1 (hρ.mono s) q a⟩
theorem tE_one {e : E} {Q : VK} {ρ : Rho} {st : Sto} {m : List Addr} (hρ : RlE ws m H ρ σ) (r : Rl ws m st H) (hl : σ.length = n) (h : Aft ws W n m H (RD ws) Q (evE cf e ρ st)) : tE ws cf W n e σ H Q := ⟨ρ, st, m, hρ, r, hl, h⟩
theorem bind_ok {α : Type} (x : Out α) : (x.bind fun a st => .ok a st) = x := by cases x <;> rfl
theorem bind_assoc {α β γ : Type} (x : Out α) (f : α → Sto → Out β) (g : β → Sto → Out γ) : (x.bind f).bind g = x.bind fun a st => (f a st).bind g := by cases x <;> rfl
/-- an operation behind its arguments -/
theorem aft_prim {m0 m : List Addr} {H0 H : Hp} {st : Sto} {p : Pr} {ds : List D} {vs : List V} {Q : VK} (s : Step m0 H0 m H) (r : Rl ws m st H) (a : RA ws H0 m H ds vs) (h : Aft ws W n m0 H0 (RD ws) Q (binds (semP p ds st))) : rP ws p vs H Q := by
  cases e : semP p ds st with
  | none => rw [e] at h; exact h.elim
  | some ds' =>
    obtain ⟨d, st'⟩ := ds'
    rw [e] at h
    exact ⟨H0, m0, m, st, ds, d, st', s, r, a, e, fun m' H' v s' r' q => h m' H' v s' r' q⟩
/-- arguments one by one -/
theorem tEs_cons {e : E} {es : List E} {Q : List V → Hp → Prop} (h : tEs ws cf W n (e :: es) σ H Q) : tCons (tE ws cf W n e) (tEs ws cf W n es) σ H Q := by
  obtain ⟨ρ, st, m, hρ, r, hl, h⟩ := h
  unfold evEs at h
  refine tE_bind hρ r hl h fun d st1 m1 H1 v _ s1 r1 hρ1 q1 h1 => ?_
  refine ⟨ρ, st1, m1, hρ1, r1, hl, ?_⟩
  cases x : evEs cf es ρ st1 with
  | ok ds st2 =>
    rw [x] at h1
    intro m2 H2 vs s2 r2 q2
    exact h1 m2 H2 (v :: vs) (s1.trans s2) r2 (q2.cons q1 s2 s1.there)
  | ex c p st2 =>
    rw [x] at h1
    exact fun m' H' cls dx σ' s' r q l => h1 m' H' cls dx σ' (s1.trans s') r q l
  | no => rw [x] at h1; exact h1
theorem tEs_nil {Q : List V → Hp → Prop} (h : tEs ws cf W n [] σ H Q) : tNil σ H Q := by
  obtain ⟨ρ, st, m, hρ, r, hl, h⟩ := h
  exact h m H [] (Step.refl m H) r ⟨.nil, by simp [tls], by simp [tls]⟩
theorem tE_mono {e : E} {Q Q' : VK} (h : tE ws cf W n e σ H Q) (k : ∀ v H', Q v H' → Q' v H') : tE ws cf W n e σ H Q' := by
  obtain ⟨ρ, st, m, hρ, r, hl, h⟩ := h
  exact ⟨ρ, st, m, hρ, r, hl, h.imp k⟩
theorem tE_prim {p : Pr} {es : List E} {Q : VK} (h : tE ws cf W n (.prim p es) σ H Q) : tEs ws cf W n es σ H (fun vs H1 => rP ws p vs H1 Q) := by
  obtain ⟨ρ, st, m, hρ, r, hl, h⟩ := h
  unfold evE at h
  exact tEs_bind hρ r hl h fun ds st1 m1 H1 vs _ s1 r1 hρ1 q1 h1 => aft_prim s1 r1 q1 h1
theorem tEs_one {a : E} {Q : List V → Hp → Prop} (h : tEs ws cf W n [a] σ H Q) : tE ws cf W n a σ H fun x H1 => Q [x] H1 := tE_mono (tEs_cons h) fun _ _ k => tEs_nil k
theorem tEs_two {a b : E} {Q : List V → Hp → Prop} (h : tEs ws cf W n [a, b] σ H Q) : tE ws cf W n a σ H fun x H1 => tE ws cf W n b σ H1 fun y H2 => Q [x, y] H2 := tE_mono (tEs_cons h) fun _ _ k => tEs_one k
theorem tEs_three {a b c : E} {Q : List V → Hp → Prop} (h : tEs ws cf W n [a, b, c] σ H Q) : tE ws cf W n a σ H fun x H1 => tE ws cf W n b σ H1 fun y H2 => tE ws cf W n c σ H2 fun z H3 => Q [x, y, z] H3 := tE_mono (tEs_cons h) fun _ _ k => tEs_two k
/-- a two-place operation -/
theorem tE_op {p : Pr} {a b : E} {Q : VK} (h : tE ws cf W n (.prim p [a, b]) σ H Q) : tOp (rP2 ws p) (tE ws cf W n a) (tE ws cf W n b) σ H Q := tEs_two (tE_prim h)
theorem asB_inv {d : D} {st : Sto} {α : Type} {f : Bool → Sto → Out α} (x : Out α) (h : x ≠ .no) (e : (asB d st).bind f = x) : ∃ b, d = .bl b ∧ f b st = x := by
  cases d with
  | bl b => exact ⟨b, rfl, e⟩
  | _ => exact absurd e.symm h
theorem aft_no {α β : Type} {m : List Addr} {R : Hp → List Addr → Hp → α → β → Prop} {Q : β → Hp → Prop} {x : Out α} (h : Aft ws W n m H R Q x) : x ≠ .no := fun e => by rw [e] at h; exact h
/-- a test, then more -/
theorem tT_bind {e : E} {ρ : Rho} {st : Sto} {m : List Addr} {γ δ : Type} {S : Hp → List Addr → Hp → γ → δ → Prop} {Q : δ → Hp → Prop} {Q1 : Bool → Hp → Prop} {f : Bool → Sto → Out γ} (hρ : RlE ws m H ρ σ) (r : Rl ws m st H) (hl : σ.length = n)
    (h : Aft ws W n m H S Q (((evE cf e ρ st).bind asB).bind f))
    (k : ∀ b st1 m1 H1, Step m H m1 H1 → Rl ws m1 st1 H1 → RlE ws m1 H1 ρ σ → Aft ws W n m H S Q (f b st1) → Q1 b H1) : tT ws cf W n e σ H Q1 :=
  ⟨ρ, st, m, hρ, r, hl, Aft.bind h fun b st1 m1 H1 b' e1 s r1 q a => by
    cases q
    exact k b st1 m1 H1 s r1 (hρ.mono s) a⟩
/-- a test by a value -/
theorem tT_val {e : E} {Q : Bool → Hp → Prop} (h : tT ws cf W n e σ H Q) : tB (tE ws cf W n e) σ H Q := by
  obtain ⟨ρ, st, m, hρ, r, hl, h⟩ := h
  refine tE_bind hρ r hl h fun d st1 m1 H1 v _ s1 r1 hρ1 q1 h1 => ?_
  obtain ⟨b, rfl, _⟩ := asB_inv (f := fun b st => .ok b st) (asB d st1) (aft_no h1) (bind_ok _)
  cases q1.1
  exact ⟨b, rfl, h1 m1 H1 b s1 r1 rfl⟩
theorem tT_not {e : E} {Q : Bool → Hp → Prop} (h : tT ws cf W n (.not e) σ H Q) : tNot (tT ws cf W n e) σ H Q := by
  obtain ⟨ρ, st, m, hρ, r, hl, h⟩ := h
  unfold evE at h
  rw [bind_assoc] at h
  exact tT_bind hρ r hl h fun b st1 m1 H1 s1 r1 hρ1 h1 => h1 m1 H1 _ s1 r1 rfl
theorem tE_not {e : E} {Q : VK} (h : tE ws cf W n (.not e) σ H Q) : tNotV (tE ws cf W n e) σ H Q := by
  obtain ⟨ρ, st, m, hρ, r, hl, h⟩ := h
  unfold evE at h
  rw [bind_assoc] at h
  refine tE_bind hρ r hl h fun d st1 m1 H1 v _ s1 r1 hρ1 q1 h1 => ?_
  obtain ⟨b, rfl, _⟩ := asB_inv _ (aft_no h1) rfl
  cases q1.1
  exact ⟨b, rfl, h1 m1 H1 _ s1 r1 ⟨.bl _, fr_of rfl⟩⟩
theorem tT_and {a b : E} {Q : Bool → Hp → Prop} (h : tT ws cf W n (.and a b) σ H Q) : tAnd (tT ws cf W n a) (tT ws cf W n b) σ H Q := by
  obtain ⟨ρ, st, m, hρ, r, hl, h⟩ := h
  unfold evE at h
  rw [bind_assoc] at h
  refine tT_bind hρ r hl h fun c st1 m1 H1 s1 r1 hρ1 h1 => ?_
  cases c with
  | true => exact ⟨ρ, st1, m1, hρ1, r1, hl, h1.shift s1 fun _ _ _ _ h => h⟩
  | false => exact h1 m1 H1 _ s1 r1 rfl
theorem tE_and {a b : E} {Q : VK} (h : tE ws cf W n (.and a b) σ H Q) : tAndV (tE ws cf W n a) (tE ws cf W n b) σ H Q := by
  obtain ⟨ρ, st, m, hρ, r, hl, h⟩ := h
  unfold evE at h
  rw [bind_assoc] at h
  refine tE_bind hρ r hl h fun d st1 m1 H1 v _ s1 r1 hρ1 q1 h1 => ?_
  obtain ⟨c, rfl, _⟩ := asB_inv _ (aft_no h1) rfl
  cases q1.1
  refine ⟨c, rfl, ?_⟩
  cases c with
  | true => exact ⟨ρ, st1, m1, hρ1, r1, hl, Aft.shift (x := evE cf b ρ st1) h1 s1 fun _ _ _ _ h => RD.back s1 h⟩
  | false => exact h1 m1 H1 _ s1 r1 ⟨.bl _, fr_of rfl⟩
theorem tT_or {a b : E} {Q : Bool → Hp → Prop} (h : tT ws cf W n (.or a b) σ H Q) : tOr (tT ws cf W n a) (tT ws cf W n b) σ H Q := by
  obtain ⟨ρ, st, m, hρ, r, hl, h⟩ := h
  unfold evE at h
  rw [bind_assoc] at h
  refine tT_bind hρ r hl h fun c st1 m1 H1 s1 r1 hρ1 h1 => ?_
  cases c with
  | false => exact ⟨ρ, st1, m1, hρ1, r1, hl, h1.shift s1 fun _ _ _ _ h => h⟩
  | true => exact h1 m1 H1 _ s1 r1 rfl
theorem tE_or {a b : E} {Q : VK} (h : tE ws cf W n (.or a b) σ H Q) : tOrV (tE ws cf W n a) (tE ws cf W n b) σ H Q := by
  obtain ⟨ρ, st, m, hρ, r, hl, h⟩ := h
  unfold evE at h
  rw [bind_assoc] at h
  refine tE_bind hρ r hl h fun d st1 m1 H1 v _ s1 r1 hρ1 q1 h1 => ?_
  obtain ⟨c, rfl, _⟩ := asB_inv _ (aft_no h1) rfl
  cases q1.1
  refine ⟨c, rfl, ?_⟩
  cases c with
  | false => exact ⟨ρ, st1, m1, hρ1, r1, hl, Aft.shift (x := evE cf b ρ st1) h1 s1 fun _ _ _ _ h => RD.back s1 h⟩
  | true => exact h1 m1 H1 _ s1 r1 ⟨.bl _, fr_of rfl⟩
theorem tE_ite {c a b : E} {Q : VK} (h : tE ws cf W n (.ite c a b) σ H Q) : tIf (tT ws cf W n c) (tE ws cf W n a) (tE ws cf W n b) σ H Q := by
  obtain ⟨ρ, st, m, hρ, r, hl, h⟩ := h
  unfold evE at h
  refine tT_bind hρ r hl h fun c st1 m1 H1 s1 r1 hρ1 h1 => ?_
  cases c with
  | true => exact ⟨ρ, st1, m1, hρ1, r1, hl, Aft.shift (x := evE cf a ρ st1) h1 s1 fun _ _ _ _ h => RD.back s1 h⟩
  | false => exact ⟨ρ, st1, m1, hρ1, r1, hl, Aft.shift (x := evE cf b ρ st1) h1 s1 fun _ _ _ _ h => RD.back s1 h⟩
def isCmp (p : Pr) : Bool := match p with
  | .lt => true
  | .le => true
  | .gt => true
  | .ge => true
  | _ => false
theorem cmp_sem {p : Pr} (h : isCmp p = true) {i j : Int} {b : Bool} (e : semI p i j = some (.bl b)) (st : Sto) : semP p [.int i, .int j] st = some (.bl b, st) := by
  cases p <;> first | exact absurd h (by decide) | (cases e <;> rfl)
theorem RA.one {H0 : Hp} {m : List Addr} {d : D} {v : V} (h : RD ws H0 m H d v) : RA ws H0 m H [d] [v] := ⟨.cons h.1 .nil, by
  cases d <;> cases v <;> simp [tls], tls_one h.2⟩
theorem tE_chain {p q : Pr} (hp : isCmp p = true) {a b c : E} {Q : VK} (h : tE ws cf W n (.chain p q a b c) σ H Q) : tChain (rP2 ws p) (rP2 ws q) (tE ws cf W n a) (tE ws cf W n b) (tE ws cf W n c) σ H Q := by
  obtain ⟨ρ, st, m, hρ, r, hl, h⟩ := h
  unfold evE at h
  refine tE_bind hρ r hl h fun x st1 m1 H1 v e1 s1 r1 hρ1 q1 h1 => ?_
  clear e1
  refine tE_bind hρ1 r1 hl (Aft.shift h1 s1 fun _ _ _ _ h => RD.back s1 h) fun y st2 m2 H2 u e2 s2 r2 hρ2 q2 h2 => ?_
  clear e2
  split at h2
  · rename_i i j
    cases q1.1
    cases q2.1
    have r0 : RA ws H2 m2 H2 [.int i, .int j] [.int i, .int j] := ⟨.cons (.int i) (.cons (.int j) .nil), by simp [tls], by simp [tls]⟩
    cases e : semI p i j with
    | none => rw [e] at h2; exact h2.elim
    | some d =>
      rw [e] at h2
      cases d with
      | bl t =>
        refine ⟨H2, m2, m2, st2, [.int i, .int j], .bl t, st2, Step.refl _ _, r2, r0, cmp_sem hp e st2, fun m3 H3 w s3 r3 q3 => ?_⟩
        cases q3.1
        refine ⟨t, rfl, ?_⟩
        cases t with
        | true =>
          have h3 : Aft ws W n m3 H3 (RD ws) Q ((evE cf c ρ st2).bind fun z st => binds (semP q [.int j, z] st)) := Aft.shift (x := (evE cf c ρ st2).bind fun z st => binds (semP q [.int j, z] st)) h2 (s2.trans s3) fun _ _ _ _ h => RD.back (s2.trans s3) h
          exact tE_bind (hρ2.mono s3) r3 hl h3 fun z st4 m4 H4 w _ s4 r4 hρ4 q4 h4 => aft_prim s4 r4 (RA.cons (H0 := H3) ⟨.int j, fr_of rfl⟩ s4 (fun _ h => h) (RA.one q4)) h4
        | false => exact h2 m3 H3 _ (s2.trans s3) r3 ⟨.bl _, fr_of rfl⟩
      | _ => exact h2.elim
  · exact h2.elim
/-! displays -/
theorem tE_tup {es : List E} (hes : es.length ≤ 1000) {Q : VK} (h : tE ws cf W n (.tupE es) σ H Q) : tTup (tEs ws cf W n es) σ H Q := by
  obtain ⟨ρ, st, m, hρ, r, hl, h⟩ := h
  unfold evE at h
  refine tEs_bind hρ r hl h fun ds st1 m1 H1 vs e1 s1 r1 hρ1 q1 h1 => ?_
  have hlen : ds.length = es.length := evEs_length e1
  refine ⟨by rw [← q1.as.length, hlen]; exact Nat.le_trans hes (by decide), fun p hp => ?_⟩
  obtain ⟨r2, t2⟩ := mats_ok r1 q1.as q1.nd
  have s2 : Step m H (m1 ++ tls ds vs) H1 := s1.more q1.fr
  exact h1 _ _ _ (s2.trans (Step.alloc hp)) (r2.alloc hp) ⟨.tup (SqT.of upd_same) (t2.mono (Step.alloc hp)), fr_of rfl⟩
theorem tE_lst {es : List E} (hes : es.length ≤ 1000) {Q : VK} (h : tE ws cf W n (.lstE es) σ H Q) : tLst (tEs ws cf W n es) σ H Q := by
  obtain ⟨ρ, st, m, hρ, r, hl, h⟩ := h
  unfold evE at h
  refine tEs_bind hρ r hl h fun ds st1 m1 H1 vs e1 s1 r1 hρ1 q1 h1 => ?_
  have hlen : ds.length = es.length := evEs_length e1
  refine ⟨by rw [← q1.as.length, hlen]; exact Nat.le_trans hes (by decide), fun p hp => ?_⟩
  obtain ⟨r2, t2⟩ := mats_ok r1 q1.as q1.nd
  have s2 : Step m H (m1 ++ tls ds vs) H1 := s1.more q1.fr
  exact h1 _ _ _ (s2.trans (Step.alloc hp)) (r2.alloc hp) ⟨.tl (r2.free hp) upd_same (t2.mono (Step.alloc hp)), fun _ a e => by cases e; exact s1.there p hp⟩
/-! names and constants -/
theorem tE_var {i : Nat} {Q : VK} (h : tE ws cf W n (.var i) σ H Q) : tVar i σ H Q := by
  obtain ⟨ρ, st, m, hρ, r, hl, h⟩ := h
  unfold evE at h
  split at h
  · rename_i d e
    obtain ⟨v, e1, q, k⟩ := hρ.2 i d e
    exact ⟨v, e1, h m H v (Step.refl m H) r ⟨q, fr_of k⟩⟩
  · exact h.elim
theorem tE_cst {d : D} {v : V} (hd : ∀ m H, DV ws m H d v) (hn : notl d = true) {Q : VK} (h : tE ws cf W n (.cst d) σ H Q) : tC v σ H Q := by
  obtain ⟨ρ, st, m, hρ, r, hl, h⟩ := h
  unfold evE at h
  exact h m H v (Step.refl m H) r ⟨hd m H, fr_of hn⟩
/-! slices -/
theorem tE_sl00 {a : E} {Q : VK} (h : tE ws cf W n (.prim (.sl false false) [a]) σ H Q) : tSl (rSl ws) (tE ws cf W n a) tNoPart tNoPart σ H Q := by
  obtain ⟨ρ, st, m, hρ, r, hl, h⟩ := h
  unfold evE evEs evEs at h
  rw [bind_assoc] at h
  refine tE_bind hρ r hl h fun x st1 m1 H1 v _ s1 r1 hρ1 q1 h1 => ?_
  have h1' : Aft ws W n m H (RD ws) Q (binds (semSl x none none st1)) := h1
  cases e : semSl x none none st1 with
  | none => rw [e] at h1'; exact h1'.elim
  | some z => rw [e] at h1'; exact ⟨H, m, m1, st1, x, z.1, z.2, s1, r1, q1.1, by rw [e], fun m' H' v s r q => h1' m' H' v s r q⟩
theorem tE_sl10 {a b : E} {Q : VK} (h : tE ws cf W n (.prim (.sl true false) [a, b]) σ H Q) : tSl (rSl ws) (tE ws cf W n a) (tPart (tE ws cf W n b)) tNoPart σ H Q := by
  obtain ⟨ρ, st, m, hρ, r, hl, h⟩ := h
  unfold evE evEs evEs evEs at h
  rw [bind_assoc] at h
  refine tE_bind hρ r hl h fun x st1 m1 H1 v _ s1 r1 hρ1 q1 h1 => ?_
  rw [bind_assoc, bind_assoc] at h1
  refine tE_bind hρ1 r1 hl (h1.shift s1 fun _ _ _ _ h => RD.back s1 h) fun y st2 m2 H2 u _ s2 r2 hρ2 q2 h2 => ?_
  have h2' : Aft ws W n m1 H1 (RD ws) Q (binds (semP (.sl true false) [x, y] st2)) := h2
  cases y with
  | int i =>
    cases q2.1
    refine ⟨i, rfl, ?_⟩
    have h3 : Aft ws W n m1 H1 (RD ws) Q (binds (semSl x (some i) none st2)) := h2'
    cases e : semSl x (some i) none st2 with
    | none => rw [e] at h3; exact h3.elim
    | some z => rw [e] at h3; exact ⟨H1, m1, m2, st2, x, z.1, z.2, s2, r2, q1.1.mono s2, by rw [e], fun m' H' v s r q => h3 m' H' v s r q⟩
  | _ => exact h2'.elim
theorem tE_sl01 {a b : E} {Q : VK} (h : tE ws cf W n (.prim (.sl false true) [a, b]) σ H Q) : tSl (rSl ws) (tE ws cf W n a) tNoPart (tPart (tE ws cf W n b)) σ H Q := by
  obtain ⟨ρ, st, m, hρ, r, hl, h⟩ := h
  unfold evE evEs evEs evEs at h
  rw [bind_assoc] at h
  refine tE_bind hρ r hl h fun x st1 m1 H1 v _ s1 r1 hρ1 q1 h1 => ?_
  rw [bind_assoc, bind_assoc] at h1
  refine tE_bind hρ1 r1 hl (h1.shift s1 fun _ _ _ _ h => RD.back s1 h) fun y st2 m2 H2 u _ s2 r2 hρ2 q2 h2 => ?_
  have h2' : Aft ws W n m1 H1 (RD ws) Q (binds (semP (.sl false true) [x, y] st2)) := h2
  cases y with
  | int i =>
    cases q2.1
    refine ⟨i, rfl, ?_⟩
    have h3 : Aft ws W n m1 H1 (RD ws) Q (binds (semSl x none (some i) st2)) := h2'
    cases e : semSl x none (some i) st2 with
    | none => rw [e] at h3; exact h3.elim
    | some z => rw [e] at h3; exact ⟨H1, m1, m2, st2, x, z.1, z.2, s2, r2, q1.1.mono s2, by rw [e], fun m' H' v s r q => h3 m' H' v s r q⟩
  | _ => exact h2'.elim
theorem tE_sl11 {a b c : E} {Q : VK} (h : tE ws cf W n (.sl3 a b c) σ H Q) : tSl (rSl ws) (tE ws cf W n a) (tPart (tE ws cf W n b)) (tPart (tE ws cf W n c)) σ H Q := by
  obtain ⟨ρ, st, m, hρ, r, hl, h⟩ := h
  unfold evE at h
  refine tE_bind hρ r hl h fun x st1 m1 H1 v _ s1 r1 hρ1 q1 h1 => ?_
  refine tE_bind hρ1 r1 hl (h1.shift s1 fun _ _ _ _ h => RD.back s1 h) fun y st2 m2 H2 u _ s2 r2 hρ2 q2 h2 => ?_
  cases y with
  | int i =>
    cases q2.1
    refine ⟨i, rfl, ?_⟩
    refine tE_bind hρ2 r2 hl (h2.shift s2 fun _ _ _ _ h => RD.back s2 h) fun z st3 m3 H3 w _ s3 r3 hρ3 q3 h3 => ?_
    cases z with
    | int j =>
      cases q3.1
      refine ⟨j, rfl, ?_⟩
      have h4 : Aft ws W n m2 H2 (RD ws) Q (binds (semSl x (some i) (some j) st3)) := h3
      cases e : semSl x (some i) (some j) st3 with
      | none => rw [e] at h4; exact h4.elim
      | some z => rw [e] at h4; exact ⟨H2, m2, m3, st3, x, z.1, z.2, s3, r3, q1.1.mono (s2.trans s3), by rw [e], fun m' H' v s r q => h4 m' H' v s r q⟩
    | _ => exact h3.elim
  | _ => exact h2.elim
end
end Mn
/-! Mn7: calls, targets, sources, comprehensions: readings. -/
namespace Mn
open PySem PySem.Spec PyProof.Rows L2
section
variable {ws : Ws} {cf : Cf} {W : WX} {n : Nat} {σ : L2.St} {H : Hp}
/-! ### calls -/
/-- a def's promise by the small run -/
def spF (ws : Ws) (cf : Cf) (g : Nat) : Sp := fun vs H Q E => ∃ m st ds, Rl ws m st H ∧ DVs ws m H ds vs ∧ Aft ws (fun cls d _ H' => E cls d H') 0 m H (RD ws) Q (cf.call g ds st)
theorem aft_sp {g : Nat} {m0 m : List Addr} {H0 H1 : Hp} {st : Sto} {ds : List D} {vs : List V} {Q : VK} (hl : σ.length = n) (s : Step m0 H0 m H1) (r : Rl ws m st H1) (a : RA ws H0 m H1 ds vs) (h : Aft ws W n m0 H0 (RD ws) Q (cf.call g (mats ds st).1 (mats ds st).2)) :
    spF ws cf g vs H1 Q (WE W σ) := by
  obtain ⟨r2, t2⟩ := mats_ok r a.as a.nd
  have s2 := s.more a.fr
  refine ⟨_, _, _, r2, t2, ?_⟩
  cases e : cf.call g (mats ds st).1 (mats ds st).2 with
  | ok d st' =>
    rw [e] at h
    exact fun m' H' v s' r' q => h m' H' v (s2.trans s') r' (RD.back s2 q)
  | ex c p st' =>
    rw [e] at h
    exact fun m' H' cls dx σ' s' r' q _ => h m' H' cls dx σ (s2.trans s') r' q hl
  | no => rw [e] at h; exact h.elim
theorem tE_call {g : Nat} {es : List E} {Q : VK} (h : tE ws cf W n (.call g es) σ H Q) : tCallS (spF ws cf g) (WE W) (tEs ws cf W n es) σ H Q := by
  obtain ⟨ρ, st, m, hρ, r, hl, h⟩ := h
  unfold evE at h
  exact tEs_bind hρ r hl h fun ds st1 m1 H1 vs e1 s1 r1 hρ1 q1 h1 => aft_sp hl s1 r1 q1 h1
theorem tE_callv {i : Nat} {es : List E} {Q : VK} (h : tE ws cf W n (.callv i es) σ H Q) : ∃ g, g < cf.nf ∧ σ[i]? = some (some (.ref (ws.fa g))) ∧ tEs ws cf W n es σ H fun vs H1 => spF ws cf g vs H1 Q (WE W σ) := by
  obtain ⟨ρ, st, m, hρ, r, hl, h⟩ := h
  unfold evE at h
  split at h
  · rename_i g e
    obtain ⟨v, e1, q, _⟩ := hρ.2 i _ e
    cases q
    split at h
    · rename_i hg
      exact ⟨g, Nat.blt_eq.mp hg, e1, tEs_bind hρ r hl h fun ds st1 m1 H1 vs e1 s1 r1 hρ1 q1 h1 => aft_sp hl s1 r1 q1 h1⟩
    · exact h.elim
  · exact h.elim

/-! ### targets -/
theorem tE_bind0 {e : E} {ρ : Rho} {st : Sto} {m0 m : List Addr} {H0 : Hp} {γ δ : Type} {S : Hp → List Addr → Hp → γ → δ → Prop} {Q : δ → Hp → Prop} {Q1 : VK} {f : D → Sto → Out γ} (s0 : Step m0 H0 m H) (hρ : RlE ws m H ρ σ) (r : Rl ws m st H) (hl : σ.length = n)
    (h : Aft ws W n m0 H0 S Q ((evE cf e ρ st).bind f))
    (k : ∀ d st1 m1 H1 v, evE cf e ρ st = .ok d st1 → Step m H m1 H1 → Rl ws m1 st1 H1 → RlE ws m1 H1 ρ σ → RD ws H m1 H1 d v → Aft ws W n m0 H0 S Q (f d st1) → Q1 v H1) : tE ws cf W n e σ H Q1 := by
  refine ⟨ρ, st, m, hρ, r, hl, ?_⟩
  cases x : evE cf e ρ st with
  | ok d st1 =>
    rw [x] at h
    exact fun m1 H1 v s1 r1 q1 => k d st1 m1 H1 v x s1 r1 (hρ.mono s1) q1 h
  | ex c p st1 =>
    rw [x] at h
    exact fun m' H' cls dx σ' s' r' q l => h m' H' cls dx σ' (s0.trans s') r' q l
  | no => rw [x] at h; exact h
mutual
/-- the slots that a target stores -/
def tgS : Tg → List Nat
  | .nm i => [i]
  | .tp ts => tgSs ts
  | .sb _ _ => []
def tgSs : List Tg → List Nat
  | [] => []
  | t :: ts => tgS t ++ tgSs ts
end
theorem wipe_set (σ : L2.St) (i : Nat) (x : Option V) : ∀ vs : List Nat, i ∈ vs → L2.wipe (σ.set i x) vs = L2.wipe σ vs
  | v :: vs, h => by
    show (L2.wipe (σ.set i x) vs).set v none = (L2.wipe σ vs).set v none
    by_cases hv : i ∈ vs
    · rw [wipe_set σ i x vs hv]
    · have e : i = v := (List.mem_cons.mp h).resolve_right hv
      subst e
      have : ∀ us : List Nat, i ∉ us → L2.wipe (σ.set i x) us = (L2.wipe σ us).set i x := fun us => by
        induction us with
        | nil => intro _; rfl
        | cons u us ih =>
          intro hn
          have h1 : i ≠ u := fun z => hn (by simp [z])
          have h2 : i ∉ us := fun z => hn (List.mem_cons_of_mem _ z)
          show (L2.wipe (σ.set i x) us).set u none = ((L2.wipe σ us).set u none).set i x
          rw [ih h2, List.set_comm _ _ (h1)]
      rw [this vs hv, List.set_set]
def RG (ws : Ws) (n : Nat) (σ0 : L2.St) (sl : List Nat) : Hp → List Addr → Hp → Rho → L2.St → Prop := fun _ m' H' ρ' σ' => RlE ws m' H' ρ' σ' ∧ σ'.length = n ∧ ∀ vs : List Nat, (∀ i ∈ sl, i ∈ vs) → L2.wipe σ' vs = L2.wipe σ0 vs
variable (ws cf W n) in
def gT (t : Tg) : TG := fun v σ H Q => ∃ H0 m0 m st ρ d, Step m0 H0 m H ∧ Rl ws m st H ∧ RlE ws m0 H0 ρ σ ∧ RD ws H0 m H d v ∧ σ.length = n ∧ Aft ws W n m0 H0 (RG ws n σ (tgS t)) Q (evTg cf t d ρ st)
variable (ws cf W n) in
def gTs (ts : List Tg) : TGs := fun vs σ H Q => ∃ m st ρ ds, Rl ws m st H ∧ RlE ws m H ρ σ ∧ DVs ws m H ds vs ∧ vs.length = ts.length ∧ σ.length = n ∧ Aft ws W n m H (RG ws n σ (tgSs ts)) Q (evTgs cf ts ds ρ st)
theorem gT_nm {i : Nat} {v : V} {Q : L2.St → Hp → Prop} (h : gT ws cf W n (.nm i) v σ H Q) : gName i v σ H Q := by
  obtain ⟨H0, m0, m, st, ρ, d, s, r, hρ, q, hl, h⟩ := h
  unfold evTg at h
  obtain ⟨r1, h1, k1⟩ := mat_ok r q.1
  refine h _ _ _ (s.more (tls_one q.2)) r1 ⟨((hρ.mono s).up _).set h1 k1 i, by simpa using hl, fun vs hv => ?_⟩
  exact wipe_set σ i _ vs (hv i (by simp [tgS]))
theorem gT_tp {ts : List Tg} {v : V} {Q : L2.St → Hp → Prop} (h : gT ws cf W n (.tp ts) v σ H Q) : gTup ws.K ts.length (gTs ws cf W n ts) v σ H Q ∨ gLst ws.K ts.length (gTs ws cf W n ts) v σ H Q := by
  obtain ⟨H0, m0, m, st, ρ, d, s, r, hρ, q, hl, h⟩ := h
  unfold evTg at h
  split at h
  · rename_i xs hx
    split at h
    · rename_i hlen
      obtain ⟨p, vs, rfl, z, t⟩ := seq_ok r q.1 hx
      have g : gTs ws cf W n ts vs σ H Q := ⟨m, st, ρ, xs, r, hρ.mono s, t, by rw [← t.length]; exact hlen, hl, h.shift s fun _ _ _ _ k => k⟩
      rcases z with z | z
      · exact .inr ⟨p, vs, rfl, z.1, by rw [← t.length]; exact hlen, g⟩
      · exact .inl ⟨p, vs, rfl, z.1, by rw [← t.length]; exact hlen, g⟩
    · exact h.elim
  · exact h.elim
theorem gTs_nil {vs : List V} {Q : L2.St → Hp → Prop} (h : gTs ws cf W n [] vs σ H Q) : gNil vs σ H Q := by
  obtain ⟨m, st, ρ, ds, r, hρ, t, hv, hl, h⟩ := h
  refine ⟨List.eq_nil_of_length_eq_zero hv, ?_⟩
  unfold evTgs at h
  exact h m H σ (Step.refl _ _) r ⟨hρ, hl, fun _ _ => rfl⟩
theorem gTs_cons {t : Tg} {ts : List Tg} {vs : List V} {Q : L2.St → Hp → Prop} (h : gTs ws cf W n (t :: ts) vs σ H Q) : gCons (gT ws cf W n t) (gTs ws cf W n ts) vs σ H Q := by
  obtain ⟨m, st, ρ, ds, r, hρ, q, hv, hl, h⟩ := h
  cases q with
  | nil => simp at hv
  | cons hd nd tl =>
    rename_i d v ds vs
    refine ⟨v, vs, rfl, H, m, m, st, ρ, d, Step.refl _ _, r, hρ, ⟨hd, fr_of nd⟩, hl, ?_⟩
    unfold evTgs at h
    refine Aft.bind h fun ρ1 st1 m1 H1 σ1 _ s1 r1 q1 h1 => ?_
    refine ⟨m1, st1, ρ1, ds, r1, q1.1, tl.mono s1, by simpa using hv, q1.2.1, ?_⟩
    refine Aft.shift (S := RG ws n σ1 (tgSs ts)) ?_ s1 fun _ _ _ _ k => k
    cases e : evTgs cf ts ds ρ1 st1 with
    | ok ρ2 st2 =>
      rw [e] at h1
      exact fun m' H' σ' s' r' q' => h1 m' H' σ' s' r' ⟨q'.1, q'.2.1, fun us hu => (q'.2.2 us fun i hi => hu i (List.mem_append_right _ hi)).trans (q1.2.2 us fun i hi => hu i (List.mem_append_left _ hi))⟩
    | ex c p st2 => rw [e] at h1; exact h1
    | no => rw [e] at h1; exact h1
theorem gT_sb {o i : E} {v : V} {Q : L2.St → Hp → Prop} (h : gT ws cf W n (.sb o i) v σ H Q) :
    gSub (tE ws cf W n o) (tE ws cf W n i) (fun o i v H Q => ∃ (H0 : Hp) (m0 m : List Addr) (st st' : Sto) (a b c : D), Step m0 H0 m H ∧ Rl ws m st H ∧ DV ws m H a o ∧ DV ws m H b i ∧ DV ws m H c v ∧ Fr H0 c v ∧ setD a b c st = some st' ∧
      ∀ m' H', Step m0 H0 m' H' → Rl ws m' st' H' → Q H') v σ H Q := by
  obtain ⟨H0, m0, m, st, ρ, d, s, r, hρ, q, hl, h⟩ := h
  unfold evTg at h
  refine tE_bind0 s (hρ.mono s) r hl h fun x st1 m1 H1 xv _ s1 r1 hρ1 q1 h1 => ?_
  refine tE_bind0 (s.trans s1) hρ1 r1 hl h1 fun y st2 m2 H2 yv _ s2 r2 hρ2 q2 h2 => ?_
  split at h2
  · rename_i st3 e
    refine ⟨H0, m0, m2, st2, st3, x, y, d, (s.trans s1).trans s2, r2, q1.1.mono s2, q2.1, q.1.mono (s1.trans s2), q.2, e, fun m' H' s' r' => ?_⟩
    exact h2 m' H' σ s' r' ⟨hρ.mono s', hl, fun _ _ => rfl⟩
  · exact h2.elim

/-! ### sources -/
/-- a later state, but for the things at g -/
structure StepG (g : Addr → Prop) (m : List Addr) (H : Hp) (m' : List Addr) (H' : Hp) : Prop where
  pre : ∃ l, m' = m ++ l
  keep : ∀ a o, a ∉ m → ¬ g a → H a = some o → H' a = some o
  tups : ∀ a xs, H a = some (.tup xs) → H' a = some (.tup xs)
  frz : ∀ a o u, H a = some (.frz o u) → H' a = some (.frz o u)
  there : ∀ a, H' a = none → H a = none
theorem Step.toG {g : Addr → Prop} {m m' : List Addr} {H H' : Hp} (s : Step m H m' H') : StepG g m H m' H' := ⟨s.pre, fun a o n _ e => s.keep a o n e, s.tups, s.frz, s.there⟩
theorem StepG.get {g : Addr → Prop} {m m' : List Addr} {H H' : Hp} (s : StepG g m H m' H') {n : Nat} {a : Addr} (h : m[n]? = some a) : m'[n]? = some a := by
  obtain ⟨l, e⟩ := s.pre
  rw [e, List.getElem?_append_left (List.getElem?_eq_some_iff.mp h).1]
  exact h
theorem StepG.sqT {K : PySem.W.Frag} {g : Addr → Prop} {m m' : List Addr} {H H' : Hp} (s : StepG g m H m' H') {a : Addr} {vs : List V} (h : SqT K H a vs) : SqT K H' a vs := by
  rcases h with (h | ⟨o, h⟩) | h
  · exact .inl (.inl (s.tups _ _ h))
  · exact .inl (.inr ⟨o, s.frz _ _ _ h⟩)
  · exact .inr h
theorem StepG.fz {g : Addr → Prop} {m m' : List Addr} {H H' : Hp} {a : Addr} {vs : List V} (s : StepG g m H m' H') (h : FzL ws H a vs) : FzL ws H' a vs := by
  rcases h with ⟨o, h⟩ | h
  · exact .inl ⟨o, s.frz _ _ _ h⟩
  · exact .inr h
mutual
theorem DV.monoG {g : Addr → Prop} {m m' : List Addr} {H H' : Hp} (s : StepG g m H m' H') : ∀ {d : D} {v : V}, notl d = true → DV ws m H d v → DV ws m' H' d v
  | _, _, _, .non => .non
  | _, _, _, .bl b => .bl b
  | _, _, _, .int i => .int i
  | _, _, _, .str x => .str x
  | _, _, _, .tup h r => .tup (s.sqT h) (DVs.monoG s r)
  | _, _, n, .tl _ _ _ => by cases n
  | _, _, _, .kl h r => .kl (s.fz h) (DVs.monoG s r)
  | _, _, _, .lr h => .lr (s.get h)
  | _, _, _, .fn g => .fn g
theorem DVs.monoG {g : Addr → Prop} {m m' : List Addr} {H H' : Hp} (s : StepG g m H m' H') : ∀ {ds : List D} {vs : List V}, DVs ws m H ds vs → DVs ws m' H' ds vs
  | _, _, .nil => .nil
  | _, _, .cons h n r => .cons (DV.monoG s n h) n (DVs.monoG s r)
end
/-- the small walk stands for the layer's -/
def SvOk (ws : Ws) (g : Addr → Prop) (m1 : List Addr) (H1 : Hp) (sv : Sv) (cnt : Nat) (J : It) : Prop := ∀ m' H' st', StepG g m1 H1 m' H' → Rl ws m' st' H' →
  (∀ i d, i < cnt → sv.item st' i = some d → J.go i H' ∧ ∀ x H'', J.yld i H' x H'' → Step m' H' m' H'' ∧ Rl ws m' st' H'' ∧ DV ws m' H'' d x ∧ notl d = true) ∧ (sv.ends st' cnt = true → J.stop cnt H')
/-- lists that are no one's but the walk's around -/
def Own (H0 : Hp) (m : List Addr) (g : Addr → Prop) : Prop := ∀ a, g a → a ∉ m ∧ ∃ us, H0 a = some (.lst us)
def RI (ws : Ws) : Hp → List Addr → Hp → Sv × Nat → It → Prop := fun H0 m H s J => ∀ g, Own H0 m g → SvOk ws g m H s.1 s.2 J
variable (ws cf W n) in
def iS (s : Src) : TI := fun σ H R => ∃ ρ st m, RlE ws m H ρ σ ∧ Rl ws m st H ∧ σ.length = n ∧ Aft ws W n m H (RI ws) R (evSrc cf s ρ st)
/-- a list that is read, at each later state -/
theorem lst_later {g : Addr → Prop} {m m' : List Addr} {H H' : Hp} {p : Addr} {vs : List V} {xs : List D} (h : (p ∉ m ∧ ¬ g p ∧ H p = some (.lst vs)) ∨ FzL ws H p vs) (t : DVs ws m H xs vs) (s : StepG g m H m' H') : SqL ws.K H' p vs ∧ DVs ws m' H' xs vs := by
  refine ⟨?_, t.monoG s⟩
  rcases h with ⟨h1, h2, h3⟩ | h
  · exact SqL.of (s.keep _ _ h1 h2 h3)
  · exact (s.fz h).sq
theorem sv_fixL {g : Addr → Prop} {m : List Addr} {p : Addr} {vs : List V} {xs : List D} {cnt : Nat} (h : (p ∉ m ∧ ¬ g p ∧ H p = some (.lst vs)) ∨ FzL ws H p vs) (t : DVs ws m H xs vs) : SvOk ws g m H (.fix xs) cnt (Itl ws.K p) := by
  intro m' H' st' s r
  obtain ⟨q, t'⟩ := lst_later h t s
  refine ⟨fun i d _ e => ?_, fun e => ⟨vs, q, ?_⟩⟩
  · obtain ⟨v, e1, h1, n1⟩ := t'.get e
    refine ⟨⟨vs, v, q, e1⟩, fun x H'' hy => ?_⟩
    obtain ⟨rfl, f⟩ := hy
    have := (f vs q).symm.trans e1
    cases this
    exact ⟨Step.refl _ _, r, h1, n1⟩
  · have : xs.length = cnt := by simpa [Sv.ends] using e
    rw [← t.length]
    omega
theorem sv_cell {g : Addr → Prop} {m : List Addr} {p : Addr} {k cnt : Nat} (h : m[k]? = some p) : SvOk ws g m H (.cell k) cnt (Itl ws.K p) := by
  intro m' H' st' s r
  refine ⟨fun i d _ e => ?_, fun e => ?_⟩
  · simp only [Sv.item] at e
    split at e
    · rename_i xs hx
      obtain ⟨p', vs, e0, q, t⟩ := lst_ok r (DV.lr (s.get h)) hx
      cases e0
      obtain ⟨v, e1, h1, n1⟩ := t.get e
      refine ⟨⟨vs, v, q, e1⟩, fun x H'' hy => ?_⟩
      obtain ⟨rfl, f⟩ := hy
      have := (f vs q).symm.trans e1
      cases this
      exact ⟨Step.refl _ _, r, h1, n1⟩
    · cases e
  · simp only [Sv.ends] at e
    split at e
    · rename_i xs hx
      obtain ⟨p', vs, e0, q, t⟩ := lst_ok r (DV.lr (s.get h)) hx
      cases e0
      have : xs.length = cnt := by simpa using e
      exact ⟨vs, q, by rw [← t.length]; omega⟩
    · cases e
theorem sv_fixT {g : Addr → Prop} {m : List Addr} {p : Addr} {vs : List V} {xs : List D} {cnt : Nat} (h : SqT ws.K H p vs) (t : DVs ws m H xs vs) : SvOk ws g m H (.fix xs) cnt (Itt ws.K p) := by
  intro m' H' st' s r
  have q := s.sqT h
  have t' := t.monoG s
  refine ⟨fun i d _ e => ?_, fun e => ⟨vs, q, ?_⟩⟩
  · obtain ⟨v, e1, h1, n1⟩ := t'.get e
    refine ⟨⟨vs, v, q, e1⟩, fun x H'' hy => ?_⟩
    obtain ⟨rfl, f⟩ := hy
    have := (f vs q).symm.trans e1
    cases this
    exact ⟨Step.refl _ _, r, h1, n1⟩
  · have : xs.length = cnt := by simpa [Sv.ends] using e
    rw [← t.length]
    omega
theorem sv_rng {g : Addr → Prop} {m : List Addr} {lo : Int} {cnt : Nat} : SvOk ws g m H (.rng lo 1) cnt (Itr lo cnt) := by
  intro m' H' st' s r
  refine ⟨fun i d hi e => ⟨hi, fun x H'' hy => ?_⟩, fun _ => Nat.le_refl _⟩
  obtain ⟨rfl, rfl⟩ := hy
  cases e
  refine ⟨Step.refl _ _, r, ?_, rfl⟩
  rw [Int.mul_one]
  exact .int _
theorem sv_rngC {g : Addr → Prop} {m : List Addr} {lo c : Int} {cnt : Nat} : SvOk ws g m H (.rng lo c) cnt (Itc lo c cnt) := by
  intro m' H' st' s r
  refine ⟨fun i d hi e => ⟨hi, fun x H'' hy => ?_⟩, fun _ => Nat.le_refl _⟩
  obtain ⟨rfl, rfl⟩ := hy
  cases e
  exact ⟨Step.refl _ _, r, .int _, rfl⟩
/-- a pair made on the way -/
theorem pair_ok {m : List Addr} {H : Hp} {st : Sto} {T : Addr} {x y : V} {d e : D} (r : Rl ws m st H) (hT : H T = none) (hd : DV ws m H d x) (nd : notl d = true) (he : DV ws m H e y) (ne : notl e = true) :
    Step m H m (upd H T (.tup [x, y])) ∧ Rl ws m st (upd H T (.tup [x, y])) ∧ DV ws m (upd H T (.tup [x, y])) (.tup [d, e]) (.ref T) ∧ notl (.tup [d, e]) = true := by
  have s : Step m H m (upd H T (.tup [x, y])) := Step.alloc hT
  exact ⟨s, r.alloc hT, .tup (SqT.of upd_same) (.cons (hd.mono s) nd (.cons (he.mono s) ne .nil)), rfl⟩
theorem sv_enu {g : Addr → Prop} {m : List Addr} {p : Addr} {sv : Sv} {cnt : Nat} (h : SvOk ws g m H sv cnt (Itl ws.K p)) : SvOk ws g m H (.enu sv) cnt (Ite ws.K p) := by
  intro m' H' st' s r
  obtain ⟨h1, h2⟩ := h m' H' st' s r
  refine ⟨fun i d hi e => ?_, fun e => h2 e⟩
  simp only [Sv.item] at e
  split at e
  · rename_i d' e'
    cases e
    obtain ⟨g, y⟩ := h1 i d' hi e'
    refine ⟨g, fun v H'' hy => ?_⟩
    obtain ⟨T, x, rfl, hT, rfl, f⟩ := hy
    obtain ⟨_, _, q1, q2⟩ := y x H' ⟨rfl, f⟩
    exact pair_ok r hT (.int _) rfl q1 q2
  · cases e
theorem sv_zipL {g : Addr → Prop} {m : List Addr} {p q : Addr} {sv tv : Sv} {n : Nat} (h : SvOk ws g m H sv n (Itl ws.K p)) (k : SvOk ws g m H tv n (Itl ws.K q)) (hp : ∀ m' H' st', StepG g m H m' H' → Rl ws m' st' H' → ∃ vs, SqL ws.K H' p vs)
    (hq : ∀ m' H' st', StepG g m H m' H' → Rl ws m' st' H' → ∃ vs, SqL ws.K H' q vs) : SvOk ws g m H (.zip sv tv) n (Itz ws.K p q) := by
  intro m' H' st' s r
  obtain ⟨h1, h2⟩ := h m' H' st' s r
  obtain ⟨k1, k2⟩ := k m' H' st' s r
  refine ⟨fun i d hi e => ?_, fun e => ?_⟩
  · simp only [Sv.item] at e
    split at e
    · rename_i d1 d2 e1 e2
      cases e
      obtain ⟨⟨xs, x, g1, g2⟩, y1⟩ := h1 i d1 hi e1
      obtain ⟨⟨ys, y, g3, g4⟩, y2⟩ := k1 i d2 hi e2
      refine ⟨⟨xs, ys, x, y, g1, g3, g2, g4⟩, fun v H'' hy => ?_⟩
      obtain ⟨T, x, y, rfl, hT, rfl, f1, f2⟩ := hy
      obtain ⟨_, _, q1, n1⟩ := y1 x H' ⟨rfl, f1⟩
      obtain ⟨_, _, q2, n2⟩ := y2 y H' ⟨rfl, f2⟩
      exact pair_ok r hT q1 n1 q2 n2
    · cases e
  · obtain ⟨xs, gx⟩ := hp m' H' st' s r
    obtain ⟨ys, gy⟩ := hq m' H' st' s r
    simp only [Sv.ends, Bool.or_eq_true] at e
    rcases e with e | e
    · obtain ⟨zs, g, l⟩ := h2 e
      exact ⟨zs, ys, g, gy, .inl l⟩
    · obtain ⟨zs, g, l⟩ := k2 e
      exact ⟨xs, zs, gx, g, .inr l⟩
theorem sv_zipT {g : Addr → Prop} {m : List Addr} {p q : Addr} {sv tv : Sv} {n : Nat} (h : SvOk ws g m H sv n (Itt ws.K p)) (k : SvOk ws g m H tv n (Itt ws.K q)) (hp : ∀ m' H' st', StepG g m H m' H' → Rl ws m' st' H' → ∃ vs, SqT ws.K H' p vs)
    (hq : ∀ m' H' st', StepG g m H m' H' → Rl ws m' st' H' → ∃ vs, SqT ws.K H' q vs) : SvOk ws g m H (.zip sv tv) n (RZ.ItzT ws.K p q) := by
  intro m' H' st' s r
  obtain ⟨h1, h2⟩ := h m' H' st' s r
  obtain ⟨k1, k2⟩ := k m' H' st' s r
  refine ⟨fun i d hi e => ?_, fun e => ?_⟩
  · simp only [Sv.item] at e
    split at e
    · rename_i d1 d2 e1 e2
      cases e
      obtain ⟨⟨xs, x, g1, g2⟩, y1⟩ := h1 i d1 hi e1
      obtain ⟨⟨ys, y, g3, g4⟩, y2⟩ := k1 i d2 hi e2
      refine ⟨⟨xs, ys, x, y, g1, g3, g2, g4⟩, fun v H'' hy => ?_⟩
      obtain ⟨T, x, y, rfl, hT, rfl, f1, f2⟩ := hy
      obtain ⟨_, _, q1, n1⟩ := y1 x H' ⟨rfl, f1⟩
      obtain ⟨_, _, q2, n2⟩ := y2 y H' ⟨rfl, f2⟩
      exact pair_ok r hT q1 n1 q2 n2
    · cases e
  · obtain ⟨xs, gx⟩ := hp m' H' st' s r
    obtain ⟨ys, gy⟩ := hq m' H' st' s r
    simp only [Sv.ends, Bool.or_eq_true] at e
    rcases e with e | e
    · obtain ⟨zs, g, l⟩ := h2 e
      exact ⟨zs, ys, g, gy, .inl l⟩
    · obtain ⟨zs, g, l⟩ := k2 e
      exact ⟨xs, zs, gx, g, .inr l⟩
/-- a list as a source: where it stands, its walk at each count, that it is there later -/
theorem src_lst {H0 : Hp} {m : List Addr} {st : Sto} {d : D} {v : V} {sv : Sv} {c : Nat} (r : Rl ws m st H) (h : DV ws m H d v) (fr : Fr H0 d v) (nt : isTup d = false) (e : svOf st d = some (sv, c)) :
    ∃ p vs, v = .ref p ∧ SqL ws.K H p vs ∧ ∀ g, Own H0 m g → (∀ cnt, SvOk ws g m H sv cnt (Itl ws.K p)) ∧ ∀ m' H' st', StepG g m H m' H' → Rl ws m' st' H' → ∃ vs, SqL ws.K H' p vs := by
  cases h with
  | tl nm q t =>
    cases e
    refine ⟨_, _, rfl, SqL.of q, fun g o => ?_⟩
    have hg : ¬ g _ := fun z => by
      obtain ⟨_, us, z2⟩ := o _ z
      rw [fr rfl _ rfl] at z2
      cases z2
    exact ⟨fun cnt => sv_fixL (.inl ⟨nm, hg, q⟩) t, fun m' H' st' s r' => ⟨_, (lst_later (.inl ⟨nm, hg, q⟩) t s).1⟩⟩
  | kl q t => cases e; exact ⟨_, _, rfl, q.sq, fun g _ => ⟨fun cnt => sv_fixL (.inr q) t, fun m' H' st' s r' => ⟨_, (lst_later (.inr q) t s).1⟩⟩⟩
  | lr q =>
    rename_i k p
    simp only [svOf] at e
    split at e
    · rename_i xs hx
      cases e
      obtain ⟨p', vs, e0, g, t⟩ := lst_ok r (DV.lr q) hx
      cases e0
      refine ⟨p, vs, rfl, g, fun _ _ => ⟨fun cnt => sv_cell q, fun m' H' st' s r' => ?_⟩⟩
      have hk : k < st'.length := by
        rw [← r'.len]
        exact (List.getElem?_eq_some_iff.mp (s.get q)).1
      cases ho : st'[k] with
      | lst ys =>
        obtain ⟨p'', vs', e0, g', _⟩ := lst_ok r' (DV.lr (s.get q)) (xs := ys) (by simp only [lstOf]; rw [List.getElem?_eq_getElem hk, ho])
        cases e0
        exact ⟨vs', g'⟩
    · cases e
  | tup _ _ => cases nt
  | non => cases e
  | bl _ => cases e
  | int _ => cases e
  | str _ => cases e
  | fn _ => cases e
theorem src_tup {m : List Addr} {st : Sto} {d : D} {v : V} {sv : Sv} {c : Nat} (h : DV ws m H d v) (nt : isTup d = true) (e : svOf st d = some (sv, c)) :
    ∃ p vs, v = .ref p ∧ SqT ws.K H p vs ∧ ∀ g, (∀ cnt, SvOk ws g m H sv cnt (Itt ws.K p)) ∧ ∀ m' H' (st' : Sto), StepG g m H m' H' → Rl ws m' st' H' → ∃ vs, SqT ws.K H' p vs := by
  cases h with
  | tup q t => cases e; exact ⟨_, _, rfl, q, fun g => ⟨fun cnt => sv_fixT q t, fun m' H' st' s r' => ⟨_, s.sqT q⟩⟩⟩
  | _ => cases nt

theorem fr1 {H0 : Hp} {d : D} {v : V} (h : ∀ a ∈ tls [d] [v], H0 a = none) : Fr H0 d v := fun n a e => by
  subst e
  cases d with
  | tl xs => exact h a (by simp [tls])
  | _ => cases n
/-! ### what a for walks, by the small run -/
section
variable {X : Cx} {tg : Expr}
theorem iS_ex {e : Expr} {e' : E} (K : X.K = ws.K) (he : PE X e (tE ws cf W n e')) : PI X tg e (iS ws cf W n (.ex e')) := by
  refine ⟨fun pins s σ H R I h => ?_⟩
  obtain ⟨ρ, st, m, hρ, r, hl, h⟩ := h
  unfold evSrc at h
  have goL : (∀ d st1, evE cf e' ρ st = .ok d st1 → isTup d = false) → iList X.K (tE ws cf W n e') σ H R := fun f =>
    tE_bind hρ r hl h fun d st1 m1 H1 v e1 s1 r1 hρ1 q1 h1 => by
      split at h1
      · rename_i z hz
        obtain ⟨p, vs, rfl, g1, g2⟩ := src_lst r1 q1.1 q1.2 (f d st1 e1) (sv := z.1) (c := z.2) hz
        exact ⟨p, rfl, ⟨vs, toL K g1⟩, by rw [K]; exact h1 m1 H1 _ s1 r1 fun g o => (g2 g o).1 _⟩
      · exact h1.elim
  have goT : (∀ d st1, evE cf e' ρ st = .ok d st1 → isTup d = true) → iTup X.K (tE ws cf W n e') σ H R := fun f =>
    tE_bind hρ r hl h fun d st1 m1 H1 v e1 s1 r1 hρ1 q1 h1 => by
      split at h1
      · rename_i z hz
        obtain ⟨p, vs, rfl, g1, g2⟩ := src_tup q1.1 (f d st1 e1) (sv := z.1) (c := z.2) hz
        exact ⟨p, rfl, ⟨vs, toT K g1⟩, by rw [K]; exact h1 m1 H1 _ s1 r1 fun g _ => (g2 g).1 _⟩
      · exact h1.elim
  cases x : evE cf e' ρ st with
  | ok d st1 =>
    cases t : isTup d with
    | false => exact (pi_list he).run pins s σ H R I (goL fun d' st' e1 => by rw [x] at e1; cases e1; exact t)
    | true => exact (pi_tup he).run pins s σ H R I (goT fun d' st' e1 => by rw [x] at e1; cases e1; exact t)
  | ex c p st1 => exact (pi_list he).run pins s σ H R I (goL fun d' st' e1 => by rw [x] at e1; cases e1)
  | no => rw [x] at h; exact h.elim
theorem iS_enu {e : Expr} {e' : E} {p pos tpos : Pos} {elts : List Expr} {kk : Nat} (K : X.K = ws.K) (hg : Gl X "enumerate") (hm : X.mg "enumerate" = none) (ha : PA X [e] (tEs ws cf W n [e'])) (hs : starEach [e] X.env = [(false, eval e X.env)]) :
    PI X (.Tuple elts kk tpos) (.Call (.Name "enumerate" p) [e] [] pos) (iS ws cf W n (.enu e')) := by
  refine ⟨fun pins s σ H R I h => ?_⟩
  obtain ⟨ρ, st, m, hρ, r, hl, h⟩ := h
  unfold evSrc at h
  refine (pi_enum hg hm ha hs).run pins s σ H R I ?_
  have h' : Aft ws W n m H (RI ws) R ((evEs cf [e'] ρ st).bind fun ds st => match ds with
      | [d] => (match isTup d, svOf st d with
        | false, some (s, n) => .ok (.enu s, n) st
        | _, _ => .no)
      | _ => .no) := by
    unfold evEs evEs
    rw [bind_assoc]
    exact h
  refine tEs_bind hρ r hl h' fun ds st1 m1 H1 vs e1 s1 r1 hρ1 q1 h1 => ?_
  split at h1
  · rename_i d
    obtain ⟨q1, qn, qf⟩ := q1
    cases q1 with
    | cons q1 q2 =>
      cases q2
      split at h1
      · rename_i z c hz hc
        obtain ⟨p, vs, rfl, g1, g2⟩ := src_lst r1 q1 (fr1 qf) hz hc
        exact ⟨p, vs, rfl, toL K g1, by rw [K]; exact h1 m1 H1 _ s1 r1 fun g o => sv_enu ((g2 g o).1 _)⟩
      · exact h1.elim
  · exact h1.elim
theorem iS_zip {e f : Expr} {e' f' : E} {p pos tpos : Pos} {elts : List Expr} {kk : Nat} (K : X.K = ws.K) (hg : Gl X "zip") (hm : X.mg "zip" = none) (ha : PA X [e, f] (tEs ws cf W n [e', f'])) (hs : starEach [e, f] X.env = (false, eval e X.env) :: starEach [f] X.env)
    (hpl : (backTo pos (starEach [f] X.env)).any (·.1) = false) : PI X (.Tuple elts kk tpos) (.Call (.Name "zip" p) [e, f] [] pos) (iS ws cf W n (.zip e' f')) := by
  refine ⟨fun pins s σ H R I h => ?_⟩
  obtain ⟨ρ, st, m, hρ, r, hl, h⟩ := h
  unfold evSrc at h
  refine (RZ.pi_zipA hg hm ha hs hpl).run pins s σ H R I ?_
  have h' : Aft ws W n m H (RI ws) R ((evEs cf [e', f'] ρ st).bind fun ds st => match ds with
      | [x, y] => (match isTup x == isTup y, svOf st x, svOf st y with
        | true, some (s, n), some (t, m) => .ok (.zip s t, min n m) st
        | _, _, _ => .no)
      | _ => .no) := by
    unfold evEs evEs evEs
    rw [bind_assoc]
    have : (fun a st => (((evE cf f' ρ st).bind fun d st => (Out.ok ([] : List D) st).bind fun ds st => Out.ok (d :: ds) st).bind fun ds st => Out.ok (a :: ds) st).bind fun ds st => (match ds with
      | [x, y] => (match isTup x == isTup y, svOf st x, svOf st y with
        | true, some (s, n), some (t, m) => Out.ok (Sv.zip s t, min n m) st
        | _, _, _ => .no)
      | _ => .no)) = fun x st => (evE cf f' ρ st).bind fun y st => (match isTup x == isTup y, svOf st x, svOf st y with
        | true, some (s, n), some (t, m) => .ok (.zip s t, min n m) st
        | _, _, _ => .no) := by
      funext x st
      rw [bind_assoc, bind_assoc]
      rfl
    rw [this]
    exact h
  refine tEs_bind hρ r hl h' fun ds st1 m1 H1 vs e1 s1 r1 hρ1 q1 h1 => ?_
  split at h1
  · rename_i x y
    obtain ⟨q1, qn, qf⟩ := q1
    cases q1 with
    | cons q1 q2 =>
      cases q2 with
      | cons q2 q3 =>
        cases q3
        split at h1
        · rename_i z1 c1 z2 c2 hz hc1 hc2
          cases t : isTup x with
          | false =>
            have t2 : isTup y = false := by
              rw [t] at hz
              simpa using hz
            rw [tls_cons] at qf
            obtain ⟨p, vs, rfl, g1, g2⟩ := src_lst r1 q1 (fr1 fun a ha => qf a (List.mem_append_left _ ha)) t hc1
            obtain ⟨q, us, rfl, k1, k2⟩ := src_lst r1 q2 (fr1 fun a ha => qf a (List.mem_append_right _ ha)) t2 hc2
            exact ⟨p, q, vs, us, rfl, .inl ⟨toL K g1, toL K k1, by rw [K]; exact h1 m1 H1 _ s1 r1 fun g o => sv_zipL ((g2 g o).1 _) ((k2 g o).1 _) (g2 g o).2 (k2 g o).2⟩⟩
          | true =>
            have t2 : isTup y = true := by
              rw [t] at hz
              simpa using hz
            obtain ⟨p, vs, rfl, g1, g2⟩ := src_tup q1 t hc1
            obtain ⟨q, us, rfl, k1, k2⟩ := src_tup q2 t2 hc2
            exact ⟨p, q, vs, us, rfl, .inr ⟨toT K g1, toT K k1, by rw [K]; exact h1 m1 H1 _ s1 r1 fun g _ => sv_zipT ((g2 g).1 _) ((k2 g).1 _) (g2 g).2 (k2 g).2⟩⟩
        · exact h1.elim
  · exact h1.elim
theorem inR_ok {i : Int} (h : inR i = true) : -(2 ^ 62) ≤ i ∧ i < 2 ^ 62 := by
  unfold inR at h
  rw [Bool.and_eq_true] at h
  exact ⟨of_decide_eq_true h.1, of_decide_eq_true h.2⟩
theorem iS_rng1 {a : Expr} {a' : E} {p pos : Pos} (hg : Gl X "range") (hm : X.mg "range" = none) (ha : PA X [a] (tEs ws cf W n [a'])) (hs : starEach [a] X.env = [(false, eval a X.env)]) :
    PI X tg (.Call (.Name "range" p) [a] [] pos) (iS ws cf W n (.rng [a'])) := by
  refine PI.imp (pi_range1 hg hm ha hs) fun σ H R h => ?_
  obtain ⟨ρ, st, m, hρ, r, hl, h⟩ := h
  unfold evSrc at h
  refine tEs_bind hρ r hl h fun ds st1 m1 H1 vs e1 s1 r1 hρ1 q1 h1 => ?_
  have hlen := evEs_length e1
  split at h1
  · rename_i z hz
    obtain ⟨q1, qn, qf⟩ := q1
    unfold rngOf at hz
    split at hz
    · rename_i j
      split at hz
      · rename_i hj
        cases hz
        cases q1 with
        | cons q1 q2 =>
          cases q2
          cases q1
          obtain ⟨b1, b2⟩ := inR_ok hj
          exact ⟨j, rfl, b1, b2, h1 m1 H1 _ s1 r1 fun _ _ => sv_rng⟩
      · cases hz
    · simp at hlen
    · simp at hlen
    · cases hz
  · exact h1.elim
theorem iS_rng2 {a b : Expr} {a' b' : E} {p pos : Pos} (hg : Gl X "range") (hm : X.mg "range" = none) (ha : PA X [a, b] (tEs ws cf W n [a', b'])) (hs : starEach [a, b] X.env = [(false, eval a X.env), (false, eval b X.env)]) (hs2 : starEach [b] X.env = [(false, eval b X.env)]) :
    PI X tg (.Call (.Name "range" p) [a, b] [] pos) (iS ws cf W n (.rng [a', b'])) := by
  refine PI.imp (pi_range2 hg hm ha hs hs2) fun σ H R h => ?_
  obtain ⟨ρ, st, m, hρ, r, hl, h⟩ := h
  unfold evSrc at h
  refine tEs_bind hρ r hl h fun ds st1 m1 H1 vs e1 s1 r1 hρ1 q1 h1 => ?_
  have hlen := evEs_length e1
  split at h1
  · rename_i z hz
    obtain ⟨q1, qn, qf⟩ := q1
    unfold rngOf at hz
    split at hz
    · simp at hlen
    · rename_i i j
      split at hz
      · rename_i hj
        cases hz
        rw [Bool.and_eq_true] at hj
        cases q1 with
        | cons q1 q2 =>
          cases q2 with
          | cons q2 q3 =>
            cases q3
            cases q1
            cases q2
            obtain ⟨b1, b2⟩ := inR_ok hj.1
            obtain ⟨b3, b4⟩ := inR_ok hj.2
            exact ⟨i, j, rfl, ⟨b1, b2, b3, b4⟩, h1 m1 H1 _ s1 r1 fun _ _ => sv_rng⟩
      · cases hz
    · simp at hlen
    · cases hz
  · exact h1.elim
theorem iS_rng3 {a b c : Expr} {a' b' c' : E} {p pos : Pos} (hg : Gl X "range") (hm : X.mg "range" = none) (ha : PA X [a, b, c] (tEs ws cf W n [a', b', c'])) (hs : starEach [a, b, c] X.env = (false, eval a X.env) :: starEach [b, c] X.env)
    (hpl : (backTo pos (starEach [b, c] X.env)).any (·.1) = false) : PI X tg (.Call (.Name "range" p) [a, b, c] [] pos) (iS ws cf W n (.rng [a', b', c'])) := by
  refine PI.imp (pi_range3 hg hm ha hs hpl) fun σ H R h => ?_
  obtain ⟨ρ, st, m, hρ, r, hl, h⟩ := h
  unfold evSrc at h
  refine tEs_bind hρ r hl h fun ds st1 m1 H1 vs e1 s1 r1 hρ1 q1 h1 => ?_
  have hlen := evEs_length e1
  split at h1
  · rename_i z hz
    obtain ⟨q1, qn, qf⟩ := q1
    unfold rngOf at hz
    split at hz
    · simp at hlen
    · simp at hlen
    · rename_i i j c
      split at hz
      · rename_i hj
        cases hz
        rw [Bool.and_eq_true, Bool.and_eq_true] at hj
        have hc : c = -1 := by simpa using hj.2
        subst hc
        cases q1 with
        | cons q1 q2 =>
          cases q2 with
          | cons q2 q3 =>
            cases q3 with
            | cons q3 q4 =>
              cases q4
              cases q1
              cases q2
              cases q3
              obtain ⟨b1, b2⟩ := inR_ok hj.1.1
              obtain ⟨b3, b4⟩ := inR_ok hj.1.2
              exact ⟨i, j, -1, _, rfl, RgC.neg b1 b2 b3 b4, h1 m1 H1 _ s1 r1 fun _ _ => sv_rngC⟩
      · cases hz
    · cases hz
  · exact h1.elim
end
end
end Mn
/-! Mn8: comprehensions by the small run. -/
namespace Mn
open PySem PySem.Spec PyProof.Rows L2
abbrev W0 : WX := fun _ _ _ _ => False
section
variable {ws : Ws} {cf : Cf} {W : WX} {n : Nat} {σ : L2.St} {H : Hp}
theorem Aft.peel {α β γ δ : Type} {R : Hp → List Addr → Hp → α → β → Prop} {S : Hp → List Addr → Hp → γ → δ → Prop} {Q : δ → Hp → Prop} {Q1 : β → Hp → Prop} {m m' : List Addr} {H H' : Hp} {x : Out α} {f : α → Sto → Out γ}
    (h : Aft ws W n m H S Q (noEx (x.bind f))) (k : ∀ a st1 m1 H1 b, x = .ok a st1 → Step m' H' m1 H1 → Rl ws m1 st1 H1 → R H' m1 H1 a b → Aft ws W n m H S Q (noEx (f a st1)) → Q1 b H1) : Aft ws W0 n m' H' R Q1 x := by
  cases x with
  | ok a st => exact fun m1 H1 b s r q => k a st m1 H1 b rfl s r q h
  | ex c p st => exact h.elim
  | no => exact h.elim
mutual
/-- the list in the making is not told by values that are kept -/
theorem DV.loc {m : List Addr} {H : Hp} {p : Addr} {us : List V} {o : HO} (hp : H p = some (.lst us)) : ∀ {d : D} {v : V}, notl d = true → DV ws m H d v → DV ws m (upd H p o) d v
  | _, _, _, .non => .non
  | _, _, _, .bl b => .bl b
  | _, _, _, .int i => .int i
  | _, _, _, .str x => .str x
  | _, _, _, .tup h r => .tup (by
      rcases h with (h | ⟨z, h⟩) | h
      · exact .inl (.inl (by rw [upd_ne (ne_of h hp (by intro e; cases e))]; exact h))
      · exact .inl (.inr ⟨z, by rw [upd_ne (ne_of h hp (by intro e; cases e))]; exact h⟩)
      · exact .inr h) (DVs.loc hp r)
  | _, _, n, .tl _ _ _ => by cases n
  | _, _, _, .kl h r => .kl (by
      rcases h with ⟨z, h⟩ | h
      · exact .inl ⟨z, by rw [upd_ne (ne_of h hp (by intro e; cases e))]; exact h⟩
      · exact .inr h) (DVs.loc hp r)
  | _, _, _, .lr h => .lr h
  | _, _, _, .fn g => .fn g
theorem DVs.loc {m : List Addr} {H : Hp} {p : Addr} {us : List V} {o : HO} (hp : H p = some (.lst us)) : ∀ {ds : List D} {vs : List V}, DVs ws m H ds vs → DVs ws m (upd H p o) ds vs
  | _, _, .nil => .nil
  | _, _, .cons h n r => .cons (DV.loc hp n h) n (DVs.loc hp r)
end
theorem Rl.loc {m : List Addr} {st : Sto} {H : Hp} {p : Addr} {us : List V} {o : HO} (hp : H p = some (.lst us)) (n : p ∉ m) (r : Rl ws m st H) : Rl ws m st (upd H p o) := by
  refine ⟨r.len, r.nd, fun k b a e1 e2 => ?_⟩
  have q := r.obj k b a e1 e2
  have ne : a ≠ p := fun z => n (z ▸ List.mem_of_getElem? e2)
  cases b with
  | lst xs =>
    obtain ⟨vs, h, t⟩ := q
    exact ⟨vs, by rw [upd_ne ne]; exact h, t.loc hp⟩
theorem Step.own {m m' : List Addr} {H H' : Hp} {p : Addr} {o : HO} (s : Step m H m' H') (h : H p = none) : Step m H m' (upd H' p o) := by
  refine ⟨s.pre, s.new, fun a u n e => ?_, fun a xs e => ?_, fun a u z e => ?_, fun a e => ?_⟩
  · rw [upd_ne (ne_of_none e h)]; exact s.keep a u n e
  · rw [upd_ne (ne_of_none e h)]; exact s.tups a xs e
  · rw [upd_ne (ne_of_none e h)]; exact s.frz a u z e
  · by_cases z : a = p
    · rw [z]; exact h
    · rw [upd_ne z] at e; exact s.there a e
/-- a list in the making: at p, what is made so far -/
structure Lc (ws : Ws) (m1 : List Addr) (H1 : Hp) (p : Addr) (m : List Addr) (st : Sto) (H : Hp) (acc : List D) : Prop where
  sp : Step m1 H1 m H
  rl : Rl ws m st H
  out : p ∉ m
  at_ : ∃ vs, H p = some (.lst vs) ∧ DVs ws m H acc vs
theorem Lc.step {m1 m m' : List Addr} {H1 H H' : Hp} {p : Addr} {st st' : Sto} {acc : List D} (l : Lc ws m1 H1 p m st H acc) (s : Step m H m' H') (r : Rl ws m' st' H') : Lc ws m1 H1 p m' st' H' acc := by
  obtain ⟨vs, h, t⟩ := l.at_
  exact ⟨l.sp.trans s, r, s.notin l.out h, vs, s.keep _ _ l.out h, t.mono s⟩
/-- one more item -/
theorem Lc.add {m1 m2 m : List Addr} {H1 H2 H : Hp} {p : Addr} {st2 st : Sto} {acc : List D} {x : D} {y : V} (hp : H1 p = none) (l : Lc ws m1 H1 p m2 st2 H2 acc) (s : Step m2 H2 m H) (r : Rl ws m st H) (q : RD ws H2 m H x y) :
    ∃ vs, H p = some (.lst vs) ∧ vs.length = acc.length ∧ Lc ws m1 H1 p (m ++ tls [x] [y]) (mat x st).2 (upd H p (.lst (vs ++ [y]))) (acc ++ [(mat x st).1]) := by
  have l' := l.step s r
  obtain ⟨vs, h, t⟩ := l'.at_
  obtain ⟨r1, h1, k1⟩ := mat_ok r q.1
  have fr : ∀ a ∈ tls [x] [y], H2 a = none := tls_one q.2
  have s1 : Step m1 H1 (m ++ tls [x] [y]) H := l'.sp.more fun a ha => l.sp.there a (fr a ha)
  have out : p ∉ m ++ tls [x] [y] := fun z => by
    rcases List.mem_append.mp z with z | z
    · exact l'.out z
    · have := fr p z
      obtain ⟨us, g, _⟩ := l.at_
      rw [g] at this
      cases this
  refine ⟨vs, h, t.length.symm, s1.own hp, r1.loc h out, out, vs ++ [y], upd_same, ?_⟩
  exact ((t.up _).append (.cons h1 k1 .nil)).loc h
theorem wipe_wipe (σ : L2.St) (us : List Nat) : ∀ vs : List Nat, (∀ v ∈ vs, v ∈ us) → L2.wipe (L2.wipe σ vs) us = L2.wipe σ us
  | [], _ => rfl
  | v :: vs, h => by
    show L2.wipe ((L2.wipe σ vs).set v none) us = _
    rw [wipe_set _ _ _ us (h v (by simp))]
    exact wipe_wipe σ us vs fun w hw => h w (List.mem_cons_of_mem _ hw)
variable (ws cf n) in
def tCs (cs : List E) : TT := fun σ H Q => ∃ ρ st m, RlE ws m H ρ σ ∧ Rl ws m st H ∧ σ.length = n ∧ Aft ws W0 n m H RB Q (evCs cf cs ρ st)
theorem turns_zero (sv : Sv) (body : D → List D → Sto → Out (List D)) (i : Nat) (acc : List D) (st : Sto) : turns sv body 0 i acc st = if sv.ends st i then .ok acc st else .no := by rw [turns]
theorem turns_succ (sv : Sv) (body : D → List D → Sto → Out (List D)) (k i : Nat) (acc : List D) (st : Sto) : turns sv body (k + 1) i acc st = (match sv.item st i with
    | some d => (body d acc st).bind fun acc st => turns sv body k (i + 1) acc st
    | none => .no) := by
  rw [turns]
  all_goals (cases sv.item st i <;> rfl)
/-- the element of a comprehension -/
theorem lc_elt {γ δ : Type} {S : Hp → List Addr → Hp → γ → δ → Prop} {Q : δ → Hp → Prop} {m m1 m3 : List Addr} {H1 H3 : Hp} {p : Addr} {st3 : Sto} {acc : List D} {ρ : Rho} {elt : E} {f : List D → Sto → Out γ} {P : Hp → Prop} (hp : H1 p = none)
    (l : Lc ws m1 H1 p m3 st3 H3 acc) (hρ : RlE ws m3 H3 ρ σ) (hl : σ.length = n)
    (h : Aft ws W n m H S Q (noEx ((if acc.length < sizeLine then (evE cf elt ρ st3).bind fun x st => .ok (acc ++ [(mat x st).1]) (mat x st).2 else .no).bind f)))
    (k : ∀ m5 st5 H5 acc', Lc ws m1 H1 p m5 st5 H5 acc' → Aft ws W n m H S Q (noEx (f acc' st5)) → P H5) :
    tE ws cf W0 n elt σ H3 fun y H4 => ∃ av, H4 p = some (.lst av) ∧ av.length < sizeLine ∧ P (upd H4 p (.lst (av ++ [y]))) := by
  split at h
  · rename_i hz
    rw [bind_assoc] at h
    refine ⟨ρ, st3, m3, hρ, l.rl, hl, Aft.peel h fun x st4 m4 H4 y _ s4 r4 q4 h4 => ?_⟩
    obtain ⟨vs, h5, h6, h7⟩ := Lc.add hp l s4 r4 q4
    exact ⟨vs, h5, by rw [h6]; exact hz, k _ _ _ _ h7 h4⟩
  · exact h.elim
/-- a comprehension of one clause -/
theorem tE_comp {elt : E} {tg : Tg} {src : Src} {cs : List E} {own : List Nat} (ho : ∀ i ∈ tgS tg, i ∈ own) {Q : VK} (h : tE ws cf W n (.comp elt tg src cs own) σ H Q) :
    tLc (iS ws cf W n src) (gT ws cf W0 n tg) (tCs ws cf n cs) (tE ws cf W0 n elt) own σ H Q := by
  obtain ⟨ρ, st, m, hρ, r, hl, h⟩ := h
  unfold evE at h
  refine ⟨ρ, st, m, hρ, r, hl, Aft.bind h fun sv st1 m1 H1 J _ s1 r1 q1 h1 p hp => ?_⟩
  generalize hb : (fun (d : D) (acc : List D) (st : Sto) => (evTg cf tg d (wipe ρ own) st).bind fun ρ st => (evCs cf cs ρ st).bind fun b st =>
        if b = true then (if acc.length < sizeLine then (evE cf elt ρ st).bind fun x st => .ok (acc ++ [(mat x st).1]) (mat x st).2 else .no) else .ok acc st) = body at h1
  have hbody : ∀ d acc st, body d acc st = (evTg cf tg d (wipe ρ own) st).bind fun ρ st => (evCs cf cs ρ st).bind fun b st =>
        if b = true then (if acc.length < sizeLine then (evE cf elt ρ st).bind fun x st => .ok (acc ++ [(mat x st).1]) (mat x st).2 else .no) else .ok acc st := fun d acc st => by rw [← hb]
  clear hb
  refine ⟨fun i k Hc => i + k = sv.2 ∧ ∃ m' st' acc, Lc ws m1 H1 p m' st' Hc acc ∧ Aft ws W n m H (RD ws) Q (noEx ((turns sv.1 body k i acc st').bind fun acc st => .ok (.tl acc) st)),
    ⟨sv.2, by omega, m1, st1, [], ⟨Step.alloc hp, r1.alloc hp, r1.free hp, [], upd_same, .nil⟩, h1⟩, fun i k Hc hW => ?_⟩
  obtain ⟨hik, m', st', acc, l, h2⟩ := hW
  obtain ⟨g1, g2⟩ := q1 (fun _ => False) (fun _ z => z.elim) m' Hc st' l.sp.toG l.rl
  cases k with
  | zero =>
    unfold turns at h2
    split at h2
    · rename_i he
      have : i = sv.2 := by omega
      subst this
      refine .inl ⟨g2 he, ?_⟩
      obtain ⟨vs, h3, h4⟩ := l.at_
      exact h2 m' Hc _ (s1.trans l.sp) l.rl ⟨.tl l.out h3 h4, fun _ a e => by cases e; exact s1.there p hp⟩
    · exact h2.elim
  | succ k =>
    unfold turns at h2
    split at h2
    · rename_i d hd
      obtain ⟨j1, j2⟩ := g1 i d (by omega) hd
      refine .inr ⟨j1, fun H' => i + 1 + k = sv.2 ∧ ∃ m' st' acc, Lc ws m1 H1 p m' st' H' acc ∧ Aft ws W n m H (RD ws) Q (noEx ((turns sv.1 body k (i + 1) acc st').bind fun acc st => .ok (.tl acc) st)), fun H' hN => ⟨k, by omega, hN⟩, fun x H' hy => ?_⟩
      obtain ⟨s3, r3, d3, n3⟩ := j2 x H' hy
      have l3 := l.step s3 r3
      have hρ3 : RlE ws m' H' (wipe ρ own) (L2.wipe σ own) := (((hρ.mono s1).mono l3.sp)).wipe own
      rw [hbody, bind_assoc, bind_assoc] at h2
      refine ⟨H', m', m', st', wipe ρ own, d, Step.refl _ _, r3, hρ3, ⟨d3, fr_of n3⟩, by rw [L2.wipe_length]; exact hl, Aft.peel h2 fun ρ4 st4 m4 H4 σ4 _ s4 r4 q4 h4 => ?_⟩
      refine ⟨(q4.2.2 own ho).trans (wipe_wipe σ own own fun _ h => h), ρ4, st4, m4, q4.1, r4, q4.2.1, ?_⟩
      rw [bind_assoc] at h4
      refine Aft.peel h4 fun b st5 m5 H5 b' _ s5 r5 q5 h5 => ?_
      cases q5
      have l5 := (l3.step s4 r4).step s5 r5
      cases b with
      | true =>
        rw [if_pos rfl] at h5 ⊢
        exact lc_elt (P := fun H' => i + 1 + k = sv.2 ∧ ∃ m' st' acc, Lc ws m1 H1 p m' st' H' acc ∧ Aft ws W n m H (RD ws) Q (noEx ((turns sv.1 body k (i + 1) acc st').bind fun acc st => .ok (.tl acc) st))) hp l5 (q4.1.mono s5) q4.2.1 h5 fun m6 st6 H6 acc' l6 h6 => ⟨by omega, m6, st6, acc', l6, h6⟩
      | false =>
        rw [if_neg Bool.false_ne_true] at h5 ⊢
        exact ⟨by omega, m5, st5, acc, l5, h5⟩
    · exact h2.elim
theorem StepG.trans {g : Addr → Prop} {m m1 m2 : List Addr} {H H1 H2 : Hp} (a : StepG g m H m1 H1) (b : Step m1 H1 m2 H2) (k : ∀ x o, x ∉ m → ¬ g x → H x = some o → x ∉ m1) : StepG g m H m2 H2 := by
  refine ⟨?_, fun x o n ng e => b.keep x o (k x o n ng e) (a.keep x o n ng e), fun x xs e => b.tups _ _ (a.tups _ _ e), fun x o u e => b.frz _ _ _ (a.frz _ _ _ e), fun x e => a.there x (b.there x e)⟩
  obtain ⟨l, e⟩ := a.pre
  obtain ⟨l', e'⟩ := b.pre
  exact ⟨l ++ l', by rw [e', e, List.append_assoc]⟩
/-- the inner walk's state: the list at p grows, all else goes on -/
structure Lg (ws : Ws) (m1 : List Addr) (H1 : Hp) (p : Addr) (m5 : List Addr) (H5 : Hp) (m : List Addr) (st : Sto) (H : Hp) (acc : List D) : Prop where
  lc : Lc ws m1 H1 p m st H acc
  sg : StepG (fun a => a = p) m5 H5 m H
  nw : ∀ a, a ∈ m → a ∉ m5 → H5 a = none
theorem Lg.step {m1 m5 m m' : List Addr} {H1 H5 H H' : Hp} {p : Addr} {st st' : Sto} {acc : List D} (l : Lg ws m1 H1 p m5 H5 m st H acc) (s : Step m H m' H') (r : Rl ws m' st' H') : Lg ws m1 H1 p m5 H5 m' st' H' acc :=
  ⟨l.lc.step s r, l.sg.trans s (fun x o n _ e z => by
    rw [l.nw x z n] at e
    cases e), fun a h n => by
    by_cases z : a ∈ m
    · exact l.nw a z n
    · exact l.sg.there a (s.new a h z)⟩
theorem Lg.add {m1 m5 m2 m : List Addr} {H1 H5 H2 H : Hp} {p : Addr} {st2 st : Sto} {acc : List D} {x : D} {y : V} (hp : H1 p = none) (l : Lg ws m1 H1 p m5 H5 m2 st2 H2 acc) (s : Step m2 H2 m H) (r : Rl ws m st H) (q : RD ws H2 m H x y) :
    ∃ vs, H p = some (.lst vs) ∧ vs.length = acc.length ∧ Lg ws m1 H1 p m5 H5 (m ++ tls [x] [y]) (mat x st).2 (upd H p (.lst (vs ++ [y]))) (acc ++ [(mat x st).1]) := by
  obtain ⟨vs, h5, h6, h7⟩ := Lc.add hp l.lc s r q
  have l' := l.step s r
  have fr : ∀ a ∈ tls [x] [y], H2 a = none := tls_one q.2
  refine ⟨vs, h5, h6, h7, ⟨?_, fun a u n ng e => ?_, fun a xs e => ?_, fun a u z e => ?_, fun a e => ?_⟩, fun a h n => ?_⟩
  · obtain ⟨k, e⟩ := l'.sg.pre
    exact ⟨k ++ tls [x] [y], by rw [e, List.append_assoc]⟩
  · rw [upd_ne ng]
    exact l'.sg.keep a u n ng e
  · have := l'.sg.tups a xs e
    rw [upd_ne (ne_of this h5 (by intro z; cases z))]
    exact this
  · have := l'.sg.frz a u z e
    rw [upd_ne (ne_of this h5 (by intro z; cases z))]
    exact this
  · by_cases z : a = p
    · rw [z, upd_same] at e; cases e
    · rw [upd_ne z] at e; exact l'.sg.there a e
  · rcases List.mem_append.mp h with h | h
    · exact l'.nw a h n
    · exact l.sg.there a (fr a h)
theorem lg_elt {γ δ : Type} {S : Hp → List Addr → Hp → γ → δ → Prop} {Q : δ → Hp → Prop} {m m1 m5 m3 : List Addr} {H1 H5 H3 : Hp} {p : Addr} {st3 : Sto} {acc : List D} {ρ : Rho} {elt : E} {f : List D → Sto → Out γ} {P : Hp → Prop} (hp : H1 p = none)
    (l : Lg ws m1 H1 p m5 H5 m3 st3 H3 acc) (hρ : RlE ws m3 H3 ρ σ) (hl : σ.length = n)
    (h : Aft ws W n m H S Q (noEx ((if acc.length < sizeLine then (evE cf elt ρ st3).bind fun x st => .ok (acc ++ [(mat x st).1]) (mat x st).2 else .no).bind f)))
    (k : ∀ m5' st5 H5' acc', Lg ws m1 H1 p m5 H5 m5' st5 H5' acc' → Aft ws W n m H S Q (noEx (f acc' st5)) → P H5') :
    tE ws cf W0 n elt σ H3 fun y H4 => ∃ av, H4 p = some (.lst av) ∧ av.length < sizeLine ∧ P (upd H4 p (.lst (av ++ [y]))) := by
  split at h
  · rename_i hz
    rw [bind_assoc] at h
    refine ⟨ρ, st3, m3, hρ, l.lc.rl, hl, Aft.peel h fun x st4 m4 H4 y _ s4 r4 q4 h4 => ?_⟩
    obtain ⟨vs, h5, h6, h7⟩ := Lg.add hp l s4 r4 q4
    exact ⟨vs, h5, by rw [h6]; exact hz, k _ _ _ _ h7 h4⟩
  · exact h.elim
theorem RlE.monoG {ρ : Rho} {σ : L2.St} {g : Addr → Prop} {m m' : List Addr} {H H' : Hp} (s : StepG g m H m' H') (h : RlE ws m H ρ σ) : RlE ws m' H' ρ σ := ⟨h.1, fun i d e => by
  obtain ⟨v, e1, r, n⟩ := h.2 i d e
  exact ⟨v, e1, r.monoG s n, n⟩⟩
/-- a comprehension of two clauses -/
theorem tE_comp2 {elt : E} {tg tg1 : Tg} {src src1 : Src} {cs cs1 : List E} {own own1 : List Nat} (ho : ∀ i ∈ tgS tg, i ∈ own) (ho1 : ∀ i ∈ tgS tg1, i ∈ own1) (hsub : ∀ i ∈ own1, i ∈ own) {Q : VK} (h : tE ws cf W n (.comp2 elt tg src cs tg1 src1 cs1 own own1) σ H Q) :
    tLc2 (iS ws cf W n src) (gT ws cf W0 n tg) (tCs ws cf n cs) (iS ws cf W0 n src1) (gT ws cf W0 n tg1) (tCs ws cf n cs1) (tE ws cf W0 n elt) own own1 σ H Q := by
  obtain ⟨ρ, st, m, hρ, r, hl, h⟩ := h
  unfold evE at h
  refine ⟨ρ, st, m, hρ, r, hl, Aft.bind h fun sv st1 m1 H1 J _ s1 r1 q1 h1 p hp => ?_⟩
  generalize hb1 : (fun (ρ : Rho) (d : D) (acc : List D) (st : Sto) => (evTg cf tg1 d (wipe ρ own1) st).bind fun ρ st => (evCs cf cs1 ρ st).bind fun b st =>
        if b = true then (if acc.length < sizeLine then (evE cf elt ρ st).bind fun x st => .ok (acc ++ [(mat x st).1]) (mat x st).2 else .no) else .ok acc st) = body1
  have hbody1 : ∀ ρ d acc st, body1 ρ d acc st = (evTg cf tg1 d (wipe ρ own1) st).bind fun ρ st => (evCs cf cs1 ρ st).bind fun b st =>
        if b = true then (if acc.length < sizeLine then (evE cf elt ρ st).bind fun x st => .ok (acc ++ [(mat x st).1]) (mat x st).2 else .no) else .ok acc st := fun ρ d acc st => by rw [← hb1]
  generalize hb : (fun (d : D) (acc : List D) (st : Sto) => (evTg cf tg d (wipe ρ own) st).bind fun ρ st => (evCs cf cs ρ st).bind fun b st =>
        if b = true then ((evSrc cf src1 ρ st).bind fun sv1 st => turns sv1.1 (body1 ρ) sv1.2 0 acc st) else .ok acc st) = body
  have hbody : ∀ d acc st, body d acc st = (evTg cf tg d (wipe ρ own) st).bind fun ρ st => (evCs cf cs ρ st).bind fun b st =>
        if b = true then ((evSrc cf src1 ρ st).bind fun sv1 st => turns sv1.1 (body1 ρ) sv1.2 0 acc st) else .ok acc st := fun d acc st => by rw [← hb]
  have h1 : Aft ws W n m H (RD ws) Q (noEx ((turns sv.1 body sv.2 0 [] st1).bind fun acc st => .ok (.tl acc) st)) := by
    rw [← hb, ← hb1]
    exact h1
  clear hb hb1
  refine ⟨fun i k Hc => i + k = sv.2 ∧ ∃ m' st' acc, Lc ws m1 H1 p m' st' Hc acc ∧ Aft ws W n m H (RD ws) Q (noEx ((turns sv.1 body k i acc st').bind fun acc st => .ok (.tl acc) st)),
    ⟨sv.2, by omega, m1, st1, [], ⟨Step.alloc hp, r1.alloc hp, r1.free hp, [], upd_same, .nil⟩, h1⟩, fun i k Hc hW => ?_⟩
  obtain ⟨hik, m', st', acc, l, h2⟩ := hW
  obtain ⟨g1, g2⟩ := q1 (fun _ => False) (fun _ z => z.elim) m' Hc st' l.sp.toG l.rl
  cases k with
  | zero =>
    unfold turns at h2
    split at h2
    · rename_i he
      have : i = sv.2 := by omega
      subst this
      refine .inl ⟨g2 he, ?_⟩
      obtain ⟨vs, h3, h4⟩ := l.at_
      exact h2 m' Hc _ (s1.trans l.sp) l.rl ⟨.tl l.out h3 h4, fun _ a e => by cases e; exact s1.there p hp⟩
    · exact h2.elim
  | succ k =>
    unfold turns at h2
    split at h2
    · rename_i d hd
      obtain ⟨j1, j2⟩ := g1 i d (by omega) hd
      refine .inr ⟨j1, fun H' => i + 1 + k = sv.2 ∧ ∃ m' st' acc, Lc ws m1 H1 p m' st' H' acc ∧ Aft ws W n m H (RD ws) Q (noEx ((turns sv.1 body k (i + 1) acc st').bind fun acc st => .ok (.tl acc) st)), fun H' hN => ⟨k, by omega, hN⟩, fun x H' hy => ?_⟩
      obtain ⟨s3, r3, d3, n3⟩ := j2 x H' hy
      have l3 := l.step s3 r3
      have hρ3 : RlE ws m' H' (wipe ρ own) (L2.wipe σ own) := (((hρ.mono s1).mono l3.sp)).wipe own
      rw [hbody, bind_assoc, bind_assoc] at h2
      refine ⟨H', m', m', st', wipe ρ own, d, Step.refl _ _, r3, hρ3, ⟨d3, fr_of n3⟩, by rw [L2.wipe_length]; exact hl, Aft.peel h2 fun ρ4 st4 m4 H4 σ4 _ s4 r4 q4 h4 => ?_⟩
      refine ⟨(q4.2.2 own ho).trans (wipe_wipe σ own own fun _ h => h), ρ4, st4, m4, q4.1, r4, q4.2.1, ?_⟩
      rw [bind_assoc] at h4
      refine Aft.peel h4 fun b st5 m5 H5 b' _ s5 r5 q5 h5 => ?_
      cases q5
      have l5 := (l3.step s4 r4).step s5 r5
      have hρ5 := q4.1.mono s5
      cases b with
      | false =>
        rw [if_neg Bool.false_ne_true] at h5 ⊢
        exact ⟨by omega, m5, st5, acc, l5, h5⟩
      | true =>
        rw [if_pos rfl] at h5 ⊢
        rw [bind_assoc] at h5
        refine ⟨ρ4, st5, m5, hρ5, r5, q4.2.1, Aft.peel h5 fun sv1 st6 m6 H6 J1 _ s6 r6 q6 h6 => ?_⟩
        have l6 := l5.step s6 r6
        have hρ6 := hρ5.mono s6
        have hown : Own H5 m6 (fun a => a = p) := fun a z => by
          subst z
          obtain ⟨us, g, _⟩ := l5.at_
          exact ⟨l6.out, us, g⟩
        refine ⟨fun j kk Hj => j + kk = sv1.2 ∧ ∃ m' st' acc, Lg ws m1 H1 p m6 H6 m' st' Hj acc ∧ Aft ws W n m H (RD ws) Q (noEx ((turns sv1.1 (body1 ρ4) kk j acc st').bind fun acc st => (turns sv.1 body k (i + 1) acc st).bind fun acc st => .ok (.tl acc) st)),
          ⟨sv1.2, by omega, m6, st6, acc, ⟨l6, (Step.refl m6 H6).toG, fun a z n => absurd z n⟩, h6⟩, fun j kk Hj hV => ?_⟩
        obtain ⟨hjk, m7, st7, acc7, l7, h7⟩ := hV
        obtain ⟨e1, e2⟩ := q6 _ hown m7 Hj st7 l7.sg l7.lc.rl
        cases kk with
        | zero =>
          rw [turns_zero] at h7
          split at h7
          · rename_i he
            have : j = sv1.2 := by omega
            subst this
            exact .inl ⟨e2 he, by omega, m7, st7, acc7, l7.lc, h7⟩
          · exact h7.elim
        | succ kk =>
          rw [turns_succ] at h7
          split at h7
          · rename_i d' hd'
            obtain ⟨j3, j4⟩ := e1 j d' (by omega) hd'
            refine .inr ⟨j3, fun H' => j + 1 + kk = sv1.2 ∧ ∃ m' st' acc, Lg ws m1 H1 p m6 H6 m' st' H' acc ∧ Aft ws W n m H (RD ws) Q (noEx ((turns sv1.1 (body1 ρ4) kk (j + 1) acc st').bind fun acc st => (turns sv.1 body k (i + 1) acc st).bind fun acc st => .ok (.tl acc) st)), fun H' hN => ⟨kk, by omega, hN⟩, fun x H' hy => ?_⟩
            obtain ⟨s8, r8, d8, n8⟩ := j4 x H' hy
            have l8 := l7.step s8 r8
            have hρ8 : RlE ws m7 H' (wipe ρ4 own1) (L2.wipe σ4 own1) := (hρ6.monoG l8.sg).wipe own1
            rw [hbody1, bind_assoc, bind_assoc] at h7
            refine ⟨H', m7, m7, st7, wipe ρ4 own1, d', Step.refl _ _, r8, hρ8, ⟨d8, fr_of n8⟩, by rw [L2.wipe_length]; exact q4.2.1, Aft.peel h7 fun ρ9 st9 m9 H9 σ9 _ s9 r9 q9 h9 => ?_⟩
            refine ⟨(q9.2.2 own1 ho1).trans (wipe_wipe σ4 own1 own1 fun _ h => h), ρ9, st9, m9, q9.1, r9, q9.2.1, ?_⟩
            rw [bind_assoc] at h9
            refine Aft.peel h9 fun b sta ma Ha b' _ sa ra qa ha => ?_
            cases qa
            have la := (l8.step s9 r9).step sa ra
            cases b with
            | true =>
              rw [if_pos rfl] at ha ⊢
              exact lg_elt (P := fun H' => j + 1 + kk = sv1.2 ∧ ∃ m' st' acc, Lg ws m1 H1 p m6 H6 m' st' H' acc ∧ Aft ws W n m H (RD ws) Q (noEx ((turns sv1.1 (body1 ρ4) kk (j + 1) acc st').bind fun acc st => (turns sv.1 body k (i + 1) acc st).bind fun acc st => .ok (.tl acc) st))) hp la (q9.1.mono sa) q9.2.1 ha fun mb stb Hb acc' lb hb => ⟨by omega, mb, stb, acc', lb, hb⟩
            | false =>
              rw [if_neg Bool.false_ne_true] at ha ⊢
              exact ⟨by omega, ma, sta, acc7, la, ha⟩
          · exact h7.elim
    · exact h2.elim
end
end Mn
/-! Mn9: statements by the small run. -/
namespace Mn
open PySem PySem.Spec PyProof.Rows L2
/-- where a statement leads, on the layer's side -/
inductive Ev where
  | nx (σ : L2.St) | bk (σ : L2.St) | ct (σ : L2.St) | rt (v : V)
def QE (D : Ends) : Ev → Hp → Prop
  | .nx σ, H => D.nx σ H
  | .bk σ, H => D.bk σ H
  | .ct σ, H => D.ct σ H
  | .rt v, H => D.rt v H
def RF (ws : Ws) (n : Nat) : Hp → List Addr → Hp → Fl × Rho → Ev → Prop := fun H0 m H fr ev => match fr, ev with
  | (.nx, ρ), .nx σ => RlE ws m H ρ σ ∧ σ.length = n
  | (.brk, ρ), .bk σ => RlE ws m H ρ σ ∧ σ.length = n
  | (.cnt, ρ), .ct σ => RlE ws m H ρ σ ∧ σ.length = n
  | (.ret d, _), .rt v => RD ws H0 m H d v
  | _, _ => False
section
variable (ws : Ws) (cf : Cf) (W : WX) (n : Nat)
def tS (s : S) : TS := fun D σ H => ∃ ρ st m, RlE ws m H ρ σ ∧ Rl ws m st H ∧ σ.length = n ∧ Aft ws W n m H (RF ws n) (QE D) (exS cf s ρ st)
def tSs (ss : List S) : TS := fun D σ H => ∃ ρ st m, RlE ws m H ρ σ ∧ Rl ws m st H ∧ σ.length = n ∧ Aft ws W n m H (RF ws n) (QE D) (exSs cf ss ρ st)
end
section
variable {ws : Ws} {cf : Cf} {W : WX} {n : Nat} {σ : L2.St} {H : Hp} {De : Ends}
theorem RF.back {m1 m' m : List Addr} {H H1 H' : Hp} (s : Step m H m1 H1) {fr : Fl × Rho} {ev : Ev} (h : RF ws n H1 m' H' fr ev) : RF ws n H m' H' fr ev := by
  obtain ⟨fl, ρ⟩ := fr
  cases fl <;> cases ev <;> first | exact h | exact RD.back s h
theorem Aft.shiftF {Q : Ev → Hp → Prop} {m m1 : List Addr} {H H1 : Hp} {x : Out (Fl × Rho)} (h : Aft ws W n m H (RF ws n) Q x) (s : Step m H m1 H1) : Aft ws W n m1 H1 (RF ws n) Q x := h.shift s fun _ _ _ _ h => RF.back s h
theorem tS_ex {e : E} (h : tS ws cf W n (.ex e) De σ H) : tDrop (tE ws cf W n e) De σ H := by
  obtain ⟨ρ, st, m, hρ, r, hl, h⟩ := h
  unfold exS at h
  exact tE_bind hρ r hl h fun d st1 m1 H1 v _ s1 r1 hρ1 q1 h1 => h1 m1 H1 (.nx σ) s1 r1 ⟨hρ1, hl⟩
theorem tS_ret {e : E} (h : tS ws cf W n (.ret e) De σ H) : tRet (tE ws cf W n e) De σ H := by
  obtain ⟨ρ, st, m, hρ, r, hl, h⟩ := h
  unfold exS at h
  exact tE_bind hρ r hl h fun d st1 m1 H1 v _ s1 r1 hρ1 q1 h1 => h1 m1 H1 (.rt v) s1 r1 q1
theorem tS_ret0 (h : tS ws cf W n .ret0 De σ H) : tRetN De σ H := by
  obtain ⟨ρ, st, m, hρ, r, hl, h⟩ := h
  unfold exS at h
  exact h m H (.rt .non) (Step.refl _ _) r ⟨.non, fr_of rfl⟩
theorem tS_pas (h : tS ws cf W n .pas De σ H) : tNext De σ H := by
  obtain ⟨ρ, st, m, hρ, r, hl, h⟩ := h
  unfold exS at h
  exact h m H (.nx σ) (Step.refl _ _) r ⟨hρ, hl⟩
theorem tS_brk (h : tS ws cf W n .brk De σ H) : tBreak De σ H := by
  obtain ⟨ρ, st, m, hρ, r, hl, h⟩ := h
  unfold exS at h
  exact h m H (.bk σ) (Step.refl _ _) r ⟨hρ, hl⟩
theorem tS_cnt (h : tS ws cf W n .cnt De σ H) : tCont De σ H := by
  obtain ⟨ρ, st, m, hρ, r, hl, h⟩ := h
  unfold exS at h
  exact h m H (.ct σ) (Step.refl _ _) r ⟨hρ, hl⟩
theorem tSs_nil (h : tSs ws cf W n [] De σ H) : tNext De σ H := by
  obtain ⟨ρ, st, m, hρ, r, hl, h⟩ := h
  unfold exSs at h
  exact h m H (.nx σ) (Step.refl _ _) r ⟨hρ, hl⟩
theorem tSs_cons {s : S} {ss : List S} (h : tSs ws cf W n (s :: ss) De σ H) : tSeq (tS ws cf W n s) (tSs ws cf W n ss) De σ H := by
  obtain ⟨ρ, st, m, hρ, r, hl, h⟩ := h
  unfold exSs seqS at h
  refine ⟨ρ, st, m, hρ, r, hl, Aft.bind h fun fr st1 m1 H1 ev _ s1 r1 q1 h1 => ?_⟩
  obtain ⟨fl, ρ1⟩ := fr
  cases fl with
  | nx =>
    cases ev with
    | nx σ1 => exact ⟨ρ1, st1, m1, q1.1, r1, q1.2, Aft.shiftF h1 s1⟩
    | _ => exact q1.elim
  | brk => cases ev <;> first | exact q1.elim | exact h1 m1 H1 (.bk _) s1 r1 q1
  | cnt => cases ev <;> first | exact q1.elim | exact h1 m1 H1 (.ct _) s1 r1 q1
  | ret d => cases ev <;> first | exact q1.elim | exact h1 m1 H1 (.rt _) s1 r1 q1
theorem tS_asg {t : Tg} {e : E} (h : tS ws cf W n (.asg t e) De σ H) : tAsg (tE ws cf W n e) (gT ws cf W n t) De σ H := by
  obtain ⟨ρ, st, m, hρ, r, hl, h⟩ := h
  unfold exS at h
  refine tE_bind hρ r hl h fun d st1 m1 H1 v _ s1 r1 hρ1 q1 h1 => ?_
  exact ⟨H, m, m1, st1, ρ, d, s1, r1, hρ, q1, hl, Aft.bind h1 fun ρ2 st2 m2 H2 σ2 _ s2 r2 q2 h2 => h2 m2 H2 (.nx σ2) s2 r2 ⟨q2.1, q2.2.1⟩⟩
/-- a, b = x, y by the stores from the right -/
theorem tS_par {i j : Nat} {a b : E} (h : tS ws cf W n (.asg (.tp [.nm i, .nm j]) (.tupE [a, b])) De σ H) : tPar i j (tEs ws cf W n [a, b]) De σ H := by
  obtain ⟨ρ, st, m, hρ, r, hl, h⟩ := h
  unfold exS evE at h
  rw [bind_assoc] at h
  refine tEs_bind hρ r hl h fun ds st1 m1 H1 vs e1 s1 r1 hρ1 q1 h1 => ?_
  have hlen := evEs_length e1
  obtain ⟨r2, t2⟩ := mats_ok r1 q1.as q1.nd
  have s2 := s1.more q1.fr
  have h2 : Aft ws W n m H (RF ws n) (QE De) ((evTg cf (.tp [.nm i, .nm j]) (.tup (mats ds st1).1) ρ (mats ds st1).2).bind fun ρ st => .ok (.nx, ρ) st) := h1
  generalize (mats ds st1).1 = es at h2 t2
  have hρ2 : RlE ws (m1 ++ tls ds vs) H1 ρ σ := hρ1.up _
  obtain ⟨v, w, rfl⟩ : ∃ v w, vs = [v, w] := by
    have := q1.as.length
    rw [hlen] at this
    match vs, this with
    | [v, w], _ => exact ⟨v, w, rfl⟩
  cases t2 with
  | cons hv nv t3 =>
    rename_i d1 ds1
    cases t3 with
    | cons hw nw t4 =>
      rename_i d2 ds2
      cases t4
      refine ⟨v, w, rfl, ?_⟩
      unfold evTg at h2
      simp only [seqOf] at h2
      rw [if_pos (show [d1, d2].length = [Tg.nm i, Tg.nm j].length from rfl)] at h2
      unfold evTgs evTgs evTgs evTg at h2
      obtain ⟨k1, k2⟩ : (∀ st, mat d1 st = (d1, st)) ∧ ∀ st, mat d2 st = (d2, st) := by
        constructor
        · intro st; cases d1 <;> first | rfl | cases nv
        · intro st; cases d2 <;> first | rfl | cases nw
      simp only [Out.bind, k1, k2] at h2
      exact h2 _ _ (.nx _) s2 r2 ⟨(hρ2.set hv nv i).set hw nw j, by simpa using hl⟩
theorem tS_par3 {i j l : Nat} {a b c : E} (h : tS ws cf W n (.asg (.tp [.nm i, .nm j, .nm l]) (.tupE [a, b, c])) De σ H) : tPar3 i j l (tEs ws cf W n [a, b, c]) De σ H := by
  obtain ⟨ρ, st, m, hρ, r, hl, h⟩ := h
  unfold exS evE at h
  rw [bind_assoc] at h
  refine tEs_bind hρ r hl h fun ds st1 m1 H1 vs e1 s1 r1 hρ1 q1 h1 => ?_
  have hlen := evEs_length e1
  obtain ⟨r2, t2⟩ := mats_ok r1 q1.as q1.nd
  have s2 := s1.more q1.fr
  have h2 : Aft ws W n m H (RF ws n) (QE De) ((evTg cf (.tp [.nm i, .nm j, .nm l]) (.tup (mats ds st1).1) ρ (mats ds st1).2).bind fun ρ st => .ok (.nx, ρ) st) := h1
  generalize (mats ds st1).1 = es at h2 t2
  have hρ2 : RlE ws (m1 ++ tls ds vs) H1 ρ σ := hρ1.up _
  obtain ⟨u, v, w, rfl⟩ : ∃ u v w, vs = [u, v, w] := by
    have := q1.as.length
    rw [hlen] at this
    match vs, this with
    | [u, v, w], _ => exact ⟨u, v, w, rfl⟩
  cases t2 with
  | cons hu nu t2 =>
  rename_i d0 ds0
  cases t2 with
  | cons hv nv t3 =>
    rename_i d1 ds1
    cases t3 with
    | cons hw nw t4 =>
      rename_i d2 ds2
      cases t4
      refine ⟨u, v, w, rfl, ?_⟩
      unfold evTg at h2
      simp only [seqOf] at h2
      rw [if_pos (show [d0, d1, d2].length = [Tg.nm i, Tg.nm j, Tg.nm l].length from rfl)] at h2
      unfold evTgs evTgs evTgs evTgs evTg at h2
      obtain ⟨k0, k1, k2⟩ : (∀ st, mat d0 st = (d0, st)) ∧ (∀ st, mat d1 st = (d1, st)) ∧ ∀ st, mat d2 st = (d2, st) := by
        refine ⟨?_, ?_, ?_⟩
        · intro st; cases d0 <;> first | rfl | cases nu
        · intro st; cases d1 <;> first | rfl | cases nv
        · intro st; cases d2 <;> first | rfl | cases nw
      simp only [Out.bind, k0, k1, k2] at h2
      exact h2 _ _ (.nx _) s2 r2 ⟨((hρ2.set hu nu i).set hv nv j).set hw nw l, by simpa using hl⟩
/-- an int by an int, in place -/
def ipS (p : Pr) : TIp := fun x y H Q => ∃ i j k, x = .int i ∧ y = .int j ∧ semI p i j = some (.int k) ∧ Q (.int k) H
theorem semI_int {p : Pr} (hp : isArith p = true) {i j : Int} {d : D} (e : semI p i j = some d) : ∃ k, d = .int k := by
  cases p
  case add => exact ⟨_, (Option.some.inj e).symm⟩
  case sub => exact ⟨_, (Option.some.inj e).symm⟩
  case mul =>
    simp only [semI] at e
    split at e
    · exact ⟨_, (Option.some.inj e).symm⟩
    · cases e
  case fdiv =>
    simp only [semI] at e
    split at e
    · exact ⟨_, (Option.some.inj e).symm⟩
    · cases e
  case mod =>
    simp only [semI] at e
    split at e
    · exact ⟨_, (Option.some.inj e).symm⟩
    · cases e
  all_goals cases hp
theorem tS_aug {i : Nat} {p : Pr} (hp : isArith p = true) {e : E} (h : tS ws cf W n (.aug i p e) De σ H) : tAug i (tE ws cf W n e) (ipS p) De σ H := by
  obtain ⟨ρ, st, m, hρ, r, hl, h⟩ := h
  unfold exS at h
  split at h
  · rename_i x hx
    obtain ⟨v, e1, q, _⟩ := hρ.2 i x hx
    refine ⟨v, e1, tE_bind hρ r hl h fun y st1 m1 H1 w _ s1 r1 hρ1 q1 h1 => ?_⟩
    split at h1
    · rename_i _ _ a b
      split at h1
      · rename_i d hd
        obtain ⟨k, rfl⟩ := semI_int hp hd
        cases q
        cases q1.1
        exact ⟨_, _, k, rfl, rfl, hd, h1 m1 H1 (.nx _) s1 r1 ⟨hρ1.set (.int k) rfl i, by simpa using hl⟩⟩
      · exact h1.elim
    · exact h1.elim
  · exact h.elim
abbrev setR (ws : Ws) : TSet := fun o i v H Q => ∃ (H0 : Hp) (m0 m : List Addr) (st st' : Sto) (a b c : D), Step m0 H0 m H ∧ Rl ws m st H ∧ DV ws m H a o ∧ DV ws m H b i ∧ DV ws m H c v ∧ Fr H0 c v ∧ setD a b c st = some st' ∧
    ∀ m' H', Step m0 H0 m' H' → Rl ws m' st' H' → Q H'
theorem sem_ix {x k y : D} {st st' : Sto} (e : sem2 .ix x k st = some (y, st')) : st' = st ∧ ∃ i, k = .int i := by
  simp only [sem2] at e
  split at e
  · split at e
    · split at e
      · cases e; exact ⟨rfl, _, rfl⟩
      · cases e
    · cases e
  · cases e
theorem tS_augS {o i e : E} {p : Pr} (hp : isArith p = true) (h : tS ws cf W n (.augS o i p e) De σ H) : tAugS (tE ws cf W n o) (tE ws cf W n i) (tE ws cf W n e) (rP2 ws .ix) (ipS p) (setR ws) De σ H := by
  obtain ⟨ρ, st, m, hρ, r, hl, h⟩ := h
  unfold exS at h
  refine tE_bind hρ r hl h fun x st1 m1 H1 xv _ s1 r1 hρ1 q1 h1 => ?_
  refine tE_bind0 s1 hρ1 r1 hl h1 fun k st2 m2 H2 kv _ s2 r2 hρ2 q2 h2 => ?_
  split at h2
  · rename_i y st3 hx hy
    obtain ⟨e3, i, rfl⟩ := sem_ix hy
    subst e3
    have nx : notl x = true := by
      cases x <;> first | rfl | cases hx
    have t0 : tls [x, .int i] [xv, kv] = [] := by
      cases x <;> cases xv <;> cases kv <;> first | rfl | cases hx
    refine ⟨H2, m2, m2, st3, [x, .int i], y, st3, Step.refl _ _, r2, ⟨.cons (q1.1.mono s2) (.cons q2.1 .nil), by rw [t0]; simp, by rw [t0]; simp⟩, hy, fun m3 H3 yv s3 r3 q3 => ?_⟩
    have s13 := (s1.trans s2).trans s3
    refine tE_bind0 s13 (hρ2.mono s3) r3 hl h2 fun z st4 m4 H4 zv _ s4 r4 hρ4 q4 h4 => ?_
    split at h4
    · rename_i _ _ a b _ _
      split at h4
      · rename_i d hd
        obtain ⟨c, rfl⟩ := semI_int hp hd
        split at h4
        · rename_i st5 e5
          cases q3.1
          cases q4.1
          refine ⟨_, _, c, rfl, rfl, hd, H, m, m4, st4, st5, x, .int i, .int c, s13.trans s4, r4, q1.1.mono ((s2.trans s3).trans s4), q2.1.mono (s3.trans s4), .int c, fr_of rfl, e5, fun m' H' s' r' => ?_⟩
          exact h4 m' H' (.nx σ) s' r' ⟨hρ.mono s', hl⟩
        · exact h4.elim
      · exact h4.elim
    · exact h4.elim
  · exact h2.elim
theorem tT_bindS {e : E} {ρ : Rho} {st : Sto} {m0 m : List Addr} {H0 : Hp} {γ δ : Type} {S : Hp → List Addr → Hp → γ → δ → Prop} {Q : δ → Hp → Prop} {Q1 : Bool → Hp → Prop} {f : Bool → Sto → Out γ} (s0 : Step m0 H0 m H) (hρ : RlE ws m H ρ σ) (r : Rl ws m st H) (hl : σ.length = n)
    (h : Aft ws W n m0 H0 S Q (((evE cf e ρ st).bind asB).bind f))
    (k : ∀ b st1 m1 H1, Step m H m1 H1 → Rl ws m1 st1 H1 → RlE ws m1 H1 ρ σ → Aft ws W n m0 H0 S Q (f b st1) → Q1 b H1) : tT ws cf W n e σ H Q1 := by
  refine ⟨ρ, st, m, hρ, r, hl, ?_⟩
  cases x : (evE cf e ρ st).bind asB with
  | ok b st1 =>
    rw [x] at h
    exact fun m1 H1 b' s1 r1 q1 => by cases q1; exact k b st1 m1 H1 s1 r1 (hρ.mono s1) h
  | ex c p st1 =>
    rw [x] at h
    exact fun m' H' cls dx σ' s' r' q l => h m' H' cls dx σ' (s0.trans s') r' q l
  | no => rw [x] at h; exact h
theorem tS_if {c : E} {a b : List S} (h : tS ws cf W n (.ifS c a b) De σ H) : tIfS (tT ws cf W n c) (tSs ws cf W n a) (tSs ws cf W n b) De σ H := by
  obtain ⟨ρ, st, m, hρ, r, hl, h⟩ := h
  unfold exS at h
  refine tT_bind hρ r hl h fun t st1 m1 H1 s1 r1 hρ1 h1 => ?_
  cases t with
  | true => exact ⟨ρ, st1, m1, hρ1, r1, hl, Aft.shiftF h1 s1⟩
  | false => exact ⟨ρ, st1, m1, hρ1, r1, hl, Aft.shiftF h1 s1⟩
theorem loopF_zero (sv : Sv) (body : D → Rho → Sto → Out (Fl × Rho)) (i : Nat) (ρ : Rho) (st : Sto) : loopF sv body 0 i ρ st = if sv.ends st i then .ok (.nx, ρ) st else .no := by rw [loopF]
theorem loopF_succ (sv : Sv) (body : D → Rho → Sto → Out (Fl × Rho)) (k i : Nat) (ρ : Rho) (st : Sto) : loopF sv body (k + 1) i ρ st = (match sv.item st i with
    | some d => (body d ρ st).bind fun fr st => (match fr with
      | (.nx, ρ) => loopF sv body k (i + 1) ρ st
      | (.cnt, ρ) => loopF sv body k (i + 1) ρ st
      | (.brk, ρ) => .ok (.nx, ρ) st
      | (.ret d, ρ) => .ok (.ret d, ρ) st)
    | none => .no) := by
  rw [loopF]
  all_goals (cases sv.item st i <;> rfl)
theorem tS_for {t : Tg} {src : Src} {b : List S} (h : tS ws cf W n (.for t src b) De σ H) : tFor (iS ws cf W n src) (gT ws cf W n t) (tSs ws cf W n b) De σ H := by
  obtain ⟨ρ, st, m, hρ, r, hl, h⟩ := h
  unfold exS at h
  refine ⟨ρ, st, m, hρ, r, hl, Aft.bind h fun sv st1 m1 H1 J _ s1 r1 q1 h1 => ?_⟩
  generalize hb : (fun (d : D) (ρ : Rho) (st : Sto) => (evTg cf t d ρ st).bind fun ρ st => exSs cf b ρ st) = body at h1
  have hbody : ∀ d ρ st, body d ρ st = (evTg cf t d ρ st).bind fun ρ st => exSs cf b ρ st := fun d ρ st => by rw [← hb]
  clear hb
  refine ⟨fun i k σ' H' => i + k = sv.2 ∧ ∃ m' st' ρ', Step m1 H1 m' H' ∧ Rl ws m' st' H' ∧ RlE ws m' H' ρ' σ' ∧ σ'.length = n ∧ Aft ws W n m' H' (RF ws n) (QE De) (loopF sv.1 body k i ρ' st'),
    ⟨sv.2, by omega, m1, st1, ρ, Step.refl _ _, r1, hρ.mono s1, hl, Aft.shiftF h1 s1⟩, fun i k σ' H' hW => ?_⟩
  obtain ⟨hik, m', st', ρ', s2, r2, hρ2, hl2, h2⟩ := hW
  obtain ⟨g1, g2⟩ := q1 (fun _ => False) (fun _ z => z.elim) m' H' st' s2.toG r2
  cases k with
  | zero =>
    rw [loopF_zero] at h2
    split at h2
    · rename_i he
      have : i = sv.2 := by omega
      subst this
      exact .inl ⟨g2 he, h2 m' H' (.nx σ') (Step.refl _ _) r2 ⟨hρ2, hl2⟩⟩
    · exact h2.elim
  | succ k =>
    rw [loopF_succ] at h2
    split at h2
    · rename_i d hd
      obtain ⟨j1, j2⟩ := g1 i d (by omega) hd
      refine .inr ⟨j1, fun σ'' H'' => i + 1 + k = sv.2 ∧ ∃ m' st' ρ', Step m1 H1 m' H'' ∧ Rl ws m' st' H'' ∧ RlE ws m' H'' ρ' σ'' ∧ σ''.length = n ∧ Aft ws W n m' H'' (RF ws n) (QE De) (loopF sv.1 body k (i + 1) ρ' st'), fun σ'' H'' hN => ⟨k, by omega, hN⟩, fun x H3 hy => ?_⟩
      obtain ⟨s3, r3, d3, n3⟩ := j2 x H3 hy
      rw [hbody, bind_assoc] at h2
      refine ⟨H', m', m', st', ρ', d, s3, r3, hρ2, ⟨d3, fr_of n3⟩, hl2, ?_⟩
      refine Aft.bind h2 fun ρ4 st4 m4 H4 σ4 _ s4 r4 q4 h4 => ?_
      refine ⟨ρ4, st4, m4, q4.1, r4, q4.2.1, ?_⟩
      refine Aft.bind (Aft.shiftF h4 s4) fun fr st5 m5 H5 ev _ s5 r5 q5 h5 => ?_
      have s15 : Step m1 H1 m5 H5 := (s2.trans s4).trans s5
      obtain ⟨fl, ρ5⟩ := fr
      cases fl with
      | nx => cases ev <;> first | exact q5.elim | exact ⟨by omega, m5, st5, ρ5, s15, r5, q5.1, q5.2, Aft.shiftF h5 s5⟩
      | cnt => cases ev <;> first | exact q5.elim | exact ⟨by omega, m5, st5, ρ5, s15, r5, q5.1, q5.2, Aft.shiftF h5 s5⟩
      | brk => cases ev <;> first | exact q5.elim | exact h5 m5 H5 (.nx _) s5 r5 q5
      | ret d => cases ev <;> first | exact q5.elim | exact h5 m5 H5 (.rt _) s5 r5 q5
    · exact h2.elim
theorem loopW_succ (c : Rho → Sto → Out Bool) (body : Rho → Sto → Out (Fl × Rho)) (k : Nat) (ρ : Rho) (st : Sto) : loopW c body (k + 1) ρ st = (c ρ st).bind fun t st => if t then (body ρ st).bind fun fr st => (match fr with
      | (.nx, ρ) => loopW c body k ρ st
      | (.cnt, ρ) => loopW c body k ρ st
      | (.brk, ρ) => .ok (.nx, ρ) st
      | (.ret d, ρ) => .ok (.ret d, ρ) st)
    else .ok (.nx, ρ) st := by
  rw [loopW]
  all_goals rfl
theorem tS_whl {c : E} {b : List S} (h : tS ws cf W n (.whl c b) De σ H) : tWhile (tT ws cf W n c) (tSs ws cf W n b) De σ H := by
  obtain ⟨ρ, st, m, hρ, r, hl, h⟩ := h
  unfold exS at h
  refine ⟨fun k σ' H' => ∃ m' st' ρ', Rl ws m' st' H' ∧ RlE ws m' H' ρ' σ' ∧ σ'.length = n ∧ Aft ws W n m' H' (RF ws n) (QE De) (loopW (fun ρ st => (evE cf c ρ st).bind asB) (fun ρ st => exSs cf b ρ st) k ρ' st'),
    ⟨cf.wf, m, st, ρ, r, hρ, hl, h⟩, fun k σ' H' hW => ?_⟩
  obtain ⟨m', st', ρ', r2, hρ2, hl2, h2⟩ := hW
  cases k with
  | zero => exact h2.elim
  | succ k =>
    rw [loopW_succ] at h2
    refine tT_bind hρ2 r2 hl2 h2 fun t st1 m1 H1 s1 r1 hρ1 h1 => ?_
    cases t with
    | false => exact h1 m1 H1 (.nx σ') s1 r1 ⟨hρ1, hl2⟩
    | true =>
      refine ⟨fun σ'' H'' => ∃ m' st' ρ', Rl ws m' st' H'' ∧ RlE ws m' H'' ρ' σ'' ∧ σ''.length = n ∧ Aft ws W n m' H'' (RF ws n) (QE De) (loopW (fun ρ st => (evE cf c ρ st).bind asB) (fun ρ st => exSs cf b ρ st) k ρ' st'),
        fun σ'' H'' hN => ⟨k, by omega, hN⟩, ?_⟩
      refine ⟨ρ', st1, m1, hρ1, r1, hl2, ?_⟩
      refine Aft.bind (Aft.shiftF h1 s1) fun fr st5 m5 H5 ev _ s5 r5 q5 h5 => ?_
      obtain ⟨fl, ρ5⟩ := fr
      cases fl with
      | nx => cases ev <;> first | exact q5.elim | exact ⟨m5, st5, ρ5, r5, q5.1, q5.2, Aft.shiftF h5 s5⟩
      | cnt => cases ev <;> first | exact q5.elim | exact ⟨m5, st5, ρ5, r5, q5.1, q5.2, Aft.shiftF h5 s5⟩
      | brk => cases ev <;> first | exact q5.elim | exact h5 m5 H5 (.nx _) s5 r5 q5
      | ret d => cases ev <;> first | exact q5.elim | exact h5 m5 H5 (.rt _) s5 r5 q5
end
end Mn
/-! Mn10: raise, try, by the small run. -/
namespace Mn
open PySem PySem.Spec PyProof.Rows L2
/-- a clause: its class, the slot of its name, its suite's reading -/
structure Cl where
  c : Value
  nm : Option Nat
  ts : Addr → Value → Option Addr → TS
def Cl.wish (k : Cl) (De : Ends) (a : Addr) (cls : Value) (d : Option Addr) (σ : L2.St) (H : Hp) : Prop := match k.nm with
  | none => k.ts a cls d De σ H
  | some i => k.ts a cls d { nx := fun σ' H' => De.nx (σ'.set i none) H', rt := De.rt, bk := fun σ' H' => De.bk (σ'.set i none) H', ct := fun σ' H' => De.ct (σ'.set i none) H' } (σ.set i (some (.ref a))) H
/-- what the clauses wish of an exception of the body -/
def wU (K : PySem.W.Frag) (Wout : WX) (De : Ends) : List Cl → WX
  | [] => Wout
  | k :: r => fun cls d σ H => ∃ b, PySem.W.exmOne K cls k.c = some b ∧ (b = true → ∀ a, H a = none → k.wish De a cls d σ H) ∧ (b = false → wU K Wout De r cls d σ H)
inductive ClsOk (X : Cx) : List ExceptHandler → List Cl → Prop
  | nil : ClsOk X [] []
  | one {x : Str} {c : Value} {ts : Addr → Value → Option Addr → TS} {b₀ : Stmt} {suite : List Stmt} {np pos' : Pos} {hds : List ExceptHandler} {l : List Cl} (hc : Names X x c)
      (hsu : ∀ (a : Addr) (oe : Obj) (cls : Value) (d : Option Addr) (pn : List (Addr × Obj)), Zc cls d oe → (∃ vs, oe.data = .fields vs) → PSs (X.suite a ((a, oe) :: pn)) (b₀ :: suite) (ts a cls d)) (r : ClsOk X hds l) :
      ClsOk X (.ExceptHandler (some (.Name x np)) none (b₀ :: suite) pos' :: hds) (⟨c, none, ts⟩ :: l)
  | named {x n : Str} {i : Nat} {c : Value} {ts : Addr → Value → Option Addr → TS} {b₀ : Stmt} {suite : List Stmt} {np pos' : Pos} {hds : List ExceptHandler} {l : List Cl} (hN : X.N.Nodup) (hi : X.N[i]? = some n) (hln : X.env.kindOf n = some .local) (hc : Names X x c)
      (hsu : ∀ (a : Addr) (oe : Obj) (cls : Value) (d : Option Addr) (pn : List (Addr × Obj)), Zc cls d oe → (∃ vs, oe.data = .fields vs) → PSs (X.suite a ((a, oe) :: pn)) (b₀ :: suite) (ts a cls d)) (r : ClsOk X hds l) :
      ClsOk X (.ExceptHandler (some (.Name x np)) (some n) (b₀ :: suite) pos' :: hds) (⟨c, some i, ts⟩ :: l)
section
variable {X : Cx} {body : List Stmt} {h₀ : ExceptHandler} {hds : List ExceptHandler} {l : List Cl} {pos : Pos} {tb : WX → TS} {Wout : WX}
theorem ps_tryU (hs : X.stack = X.env :: X.outer) (hf : X.env.frame = some X.env.locals) (tk : Takes X Wout)
    (hb : ∀ (W : WX) (pn : List (Addr × Obj)) (xe : Value → Shared → Prop), Takes (X.tr pn xe) W → PassesOwn (model X.prog X.w) X.A X.env xe → PSs (X.tr pn xe) body (tb W))
    (hh : ClsOk X (h₀ :: hds) l) : PS X (.Try body (h₀ :: hds) [] [] pos) (fun De σ H => tb (wU X.K Wout De l) De σ H) := by
  refine ⟨fun pins s σ H De I h => ?_⟩
  have ok := I.ok
  have hfr : X.A.frames = some (X.env :: X.outer) := by rw [ok.frames, hs]
  refine wpAny_Try_except ?_
  refine wpAny_mono ((hb (wU X.K Wout De l) (X.pn ++ pins) (fun e s₁ => wpAny (model X.prog X.w) X.A (noteFrame e X.env) (fun _ s₂ => wpAny (model X.prog X.w) X.A (setFlight e none) (fun _ s₃ =>
    wpAny (model X.prog X.w) X.A (handleBy e X.env (h₀ :: hds)) (SP X pins De) X.xe s₃) X.xe s₂) X.xe s₁) (fun u s' xx => ?_) PassesOwn.looking).run [] s σ H De (I.toTry _) h) (fun f s1 hsp => ?_) (fun e s1 he => he)
  · obtain ⟨a, B, sI, pins', σ', H', cls, d, rfl, J', nb, up, sky, na, os, ag, w⟩ := xx
    have J : Inv X pins σ' H' sI := J'.ofTry ok
    have sky' : Sky B (X.env :: X.outer) a (Zc cls d) X.env.locals s'.heap := by rw [← hs]; exact sky
    show wpAny (model X.prog X.w) X.A (noteFrame (.ref a) X.env) _ _ _
    refine Sky.land Zc.steady hfr hf sky' fun h3 fl3 up3 => ?_
    have J3 : Inv X pins σ' H' { s' with heap := h3 } := J.landed nb fl3.1 (up.trans up3) os ag
    obtain ⟨oe3, vs3, he3, hz3, hd3⟩ := fl3.there
    have notFr : ∀ {h : Heap} {o : Obj} {vs : Array Value}, h.FunFrames B (X.env :: X.outer) → h.get? a = some o → o.data = .fields vs → a ∉ frs (X.env :: X.outer) := fun {h o vs} ff e dd hm => by
      obtain ⟨_, o', e', hnf⟩ := ff.mem hm
      rw [e] at e'; cases e'
      exact hnf _ dd
    have nfr := notFr fl3.2.2.1 he3 hd3
    have nL : a ≠ X.env.locals := fun z => nfr (List.mem_filterMap.mpr ⟨X.env, List.mem_cons_self, by rw [hf, z]⟩)
    have nF : a ∉ X.fs := fun hm => by
      obtain ⟨e, he, q⟩ := List.mem_filterMap.mp hm
      exact nfr (List.mem_filterMap.mpr ⟨e, List.mem_cons_of_mem _ he, q⟩)
    have S3 := J3.suite he3 hd3 na nL nF
    have test : ∀ {x : Str} {c : Value} {np : Pos} {Q : Value → Shared → Prop} {E : Value → Shared → Prop}, Names X x c → Q c { s' with heap := h3 } → wpAny (model X.prog X.w) (X.A.mark (some (.ref a))) (eval (.Name x np) X.env) Q E { s' with heap := h3 } := fun {x c np Q E} hc q => by
      obtain ⟨hg, hdbg, hm | ⟨hm, hv, hnn⟩⟩ := hc
      · exact ld_glob (X := X.suite a ((a, oe3) :: (X.pn ++ pins))) S3 hg hm q hdbg
      · exact ld_blt (X := X.suite a ((a, oe3) :: (X.pn ++ pins))) S3 hg hm hv q hnn hdbg
    have LT : PySem.W.Looks (model X.prog X.w) h3 (typeOf (.ref a)) cls := fun A Q E s k q => wpAny_typeOf_ref (k _ _ he3) (by rw [hz3.1]; exact q)
    have go : ∀ {hds' : List ExceptHandler} {l' : List Cl}, ClsOk X hds' l' → wU X.K Wout De l' cls d σ' H' →
        wpAny (model X.prog X.w) X.A (handleBy (.ref a) X.env hds') (SP X pins De) X.xe { s' with heap := h3 } := by
      intro hds' l' hk
      induction hk with
      | nil =>
        intro w
        refine wpAny_handleBy_nil ?_
        obtain ⟨k1, k2, k3, oe, vs, T, oT, ts', he, hz, hd, h1, hr⟩ := id fl3
        unfold PySem.passOn
        refine wpAny_bind (wpAny_field he hd h1 ?_)
        rw [if_neg (show ¬ ((Value.ref T == Value.none) = true) from by simp)]
        have fin : wpAny (model X.prog X.w) X.A (setFlight (.ref a) X.env.frame) (fun _ s4 => wpAny (model X.prog X.w) X.A (throw (.ref a) : Sem Flow) (SP X pins De) X.xe s4) X.xe { s' with heap := h3 } := by
          rw [hf]
          refine HandSPX.setFlight_upZ fl3 fun h4 hh4 up4 => wpAny_throw (tk _ _ ?_)
          exact ⟨a, B, sI, pins, σ', H', cls, d, rfl, J, nb, (up.trans up3).trans up4, .inr (.inr (by rw [hs]; exact hh4)), na, os, ag, w⟩
        first
          | exact wpAny_bind (wpAny_pure (wpAny_bind fin))
          | exact wpAny_bind fin
      | @one x c ts b₀ suite np pos' hds2 l2 hc hsu r ih =>
        intro w
        obtain ⟨b, hb1, hyes, hno⟩ := w
        refine wpAny_handleBy_cons (codeAny_handlers_test ?_) (by intro q; cases q)
        have LM := PySem.W.exm_one (M := model X.prog X.w) (J3.kIn) LT hb1
        refine test hc (LM.here ?_)
        cases b with
        | true =>
          refine codeAny_handlers_suite ?_
          refine HandSPX.lands_againZ fl3 fun h4 fl4 up4 => ?_
          have J4 : Inv X pins σ' H' { s' with heap := h4 } := J.landed nb fl4.1 ((up.trans up3).trans up4) os ag
          obtain ⟨oe4, vs4, he4, hz4, hd4⟩ := fl4.there
          have S4 := J4.suite he4 hd4 na nL nF
          refine wpAny_mono ((hsu a oe4 cls d (X.pn ++ pins) hz4 ⟨_, hd4⟩).run [] _ _ H' _ S4 (hyes rfl a na)) (fun f s6 hsp => ?_) (fun _ _ z => False.elim z)
          cases f with
          | next =>
            obtain ⟨σ6, H6, S6, q6⟩ := hsp
            exact ⟨_, _, S6.unsuite ok, q6⟩
          | brk =>
            obtain ⟨σ6, H6, S6, q6⟩ := hsp
            exact ⟨_, _, S6.unsuite ok, q6⟩
          | cont =>
            obtain ⟨σ6, H6, S6, q6⟩ := hsp
            exact ⟨_, _, S6.unsuite ok, q6⟩
          | ret u =>
            obtain ⟨v6, σ6, H6, S6, r6, q6⟩ := hsp
            exact ⟨_, _, _, S6.unsuite ok, r6, q6⟩
        | false =>
          show wpAny _ X.A (handleBy (.ref a) X.env hds2) _ _ _
          exact ih (hno rfl)
      | @named x n i c ts b₀ suite np pos' hds2 l2 hN hi hln hc hsu r ih =>
        intro w
        obtain ⟨b, hb1, hyes, hno⟩ := w
        have hloc : Loc X.env.scope n := .inl hln
        refine wpAny_handleBy_cons (codeAny_handlers_test ?_) (by intro q; cases q)
        have LM := PySem.W.exm_one (M := model X.prog X.w) (J3.kIn) LT hb1
        refine test hc (LM.here ?_)
        cases b with
        | true =>
          refine codeAny_handlers_suite_as ?_
          refine HandSPX.lands_againZ fl3 fun h4 fl4 up4 => ?_
          have J4 : Inv X pins σ' H' { s' with heap := h4 } := J.landed nb fl4.1 ((up.trans up3).trans up4) os ag
          obtain ⟨oe4, vs4, he4, hz4, hd4⟩ := fl4.there
          have S4 := J4.suite he4 hd4 na nL nF
          refine store_ok (X := X.suite a ((a, oe4) :: (X.pn ++ pins))) (v := .ref a) S4 hN hi hloc rfl (fun s5 S5 => ?_) (.inr hln)
          refine wpAny_mono ((hsu a oe4 cls d (X.pn ++ pins) hz4 ⟨_, hd4⟩).run [] s5 _ H' _ S5 (hyes rfl a na)) (fun f s6 hsp => ?_) (fun _ _ z => False.elim z)
          have end_ : ∀ {σ6 : L2.St} {H6 : Hp} {Q : Shared → Prop}, Inv (X.suite a ((a, oe4) :: (X.pn ++ pins))) [] σ6 H6 s6 → (∀ s7, Inv X pins (σ6.set i none) H6 s7 → Q s7) →
              wpAny (model X.prog X.w) X.A (do bindName X.env n .none; unbindBehindTheSuite X.env n pos') (fun _ s7 => Q s7) X.xe s6 := fun {σ6 H6 Q} S6 hq => gone_ok (S6.unsuite ok) hN hi hln hq
          cases f with
          | next =>
            obtain ⟨σ6, H6, S6, q6⟩ := hsp
            exact end_ S6 fun s7 J7 => ⟨_, _, J7, q6⟩
          | brk =>
            obtain ⟨σ6, H6, S6, q6⟩ := hsp
            exact end_ S6 fun s7 J7 => ⟨_, _, J7, q6⟩
          | cont =>
            obtain ⟨σ6, H6, S6, q6⟩ := hsp
            exact end_ S6 fun s7 J7 => ⟨_, _, J7, q6⟩
          | ret u =>
            obtain ⟨v6, σ6, H6, S6, r6, q6⟩ := hsp
            exact end_ S6 fun s7 J7 => ⟨_, _, _, J7, r6, q6⟩
        | false =>
          show wpAny _ X.A (handleBy (.ref a) X.env hds2) _ _ _
          exact ih (hno rfl)
    exact go hh w
  · cases f with
    | next =>
      obtain ⟨σ', H', J', q⟩ := hsp
      exact wpAny_execs_nil ⟨σ', H', J'.ofTry ok, q⟩
    | brk =>
      obtain ⟨σ', H', J', q⟩ := hsp
      exact ⟨σ', H', J'.ofTry ok, q⟩
    | cont =>
      obtain ⟨σ', H', J', q⟩ := hsp
      exact ⟨σ', H', J'.ofTry ok, q⟩
    | ret u =>
      obtain ⟨v, σ', H', J', r, q⟩ := hsp
      exact ⟨v, σ', H', J'.ofTry ok, r, q⟩
end
/-- the classes of exceptions, told apart -/
structure EcOk (ws : Ws) : Prop where
  mt : ∀ (c : Nat) (C : Addr) (an : Option Str) (k : Nat) (C' : Addr) (an' : Option Str), ws.ec c = some (C, an) → ws.ec k = some (C', an') → PySem.W.exmOne ws.K (.ref C) (.ref C') = some (decide (k = c))
  fld : ∀ (c : Nat) (C : Addr) (f : Str), ws.ec c = some (C, some f) → XfC ws.K C ∧ PySem.W.findIn ws.K (.ref C) f = some none
section
variable {ws : Ws} {cf : Cf} {W : WX} {n : Nat} {σ : L2.St} {H : Hp} {De : Ends}
variable (ws) in
/-- a suite that gives back written values and what the error bears -/
def tSu (c : Nat) (nm : Option Nat) (su : Su) (a : Addr) (cls : Value) (dx : Option Addr) : TS := fun De σ H => ∃ m st p d, Rl ws m st H ∧ ExV ws m H c p cls dx ∧ suRet p su = some d ∧ (∀ i, nm = some i → i < σ.length → σ[i]? = some (some (.ref a))) ∧
  ∀ m' H' v, Step m H m' H' → Rl ws m' st H' → RD ws H m' H' d v → De.rt v H'
/-- the clauses of a try: their classes' numbers, the slots, the suites -/
structure Hd where
  k : Nat
  C : Addr
  an : Option Str
  nm : Option Nat
  su : Su
def Hd.cl (ws : Ws) (h : Hd) : Cl := ⟨.ref h.C, h.nm, fun a cls d De σ H => cls = .ref h.C ∧ tSu ws h.k h.nm h.su a cls d De σ H⟩
theorem tS_try (E : EcOk ws) {b : List S} {hs : List Hd} (he : ∀ h ∈ hs, ws.ec h.k = some (h.C, h.an)) (hn : ∀ h ∈ hs, ∀ i, h.nm = some i → i < n) (h : tS ws cf W n (.tryS b (hs.map fun h => (h.k, h.su))) De σ H) : tSs ws cf (wU ws.K W De (hs.map (Hd.cl ws))) n b De σ H := by
  obtain ⟨ρ, st, m, hρ, r, hl, h⟩ := h
  refine ⟨ρ, st, m, hρ, r, hl, ?_⟩
  unfold exS at h
  cases x : exSs cf b ρ st with
  | ok fr st1 => rw [x] at h; exact h
  | no => rw [x] at h; exact h.elim
  | ex c p st1 =>
    rw [x] at h
    have h' : Aft ws W n m H (RF ws n) (QE De) (handle c p ρ st1 (hs.map fun h => (h.k, h.su))) := h
    clear h x
    intro m' H' cls dx σ' s' r' q l
    induction hs with
    | nil => exact h' m' H' cls dx σ' s' r' q l
    | cons hd hs ih =>
      obtain ⟨C, an, e1, e2, e3⟩ := id q
      subst e2
      refine ⟨_, E.mt c C an hd.k hd.C hd.an e1 (he hd List.mem_cons_self), fun hk a ha => ?_, fun hk => ?_⟩
      · have hk : hd.k = c := of_decide_eq_true hk
        unfold handle at h'
        have h2 : Aft ws W n m H (RF ws n) (QE De) (match suRet p hd.su with
          | some d => .ok (.ret d, ρ) st1
          | none => .no) := by
          have := h'
          simp only [List.map_cons] at this
          rw [if_pos hk] at this
          exact this
        split at h2
        · rename_i d hd'
          have hC : hd.C = C := by
            have := he hd List.mem_cons_self
            rw [hk, e1] at this
            cases this
            rfl
          have fin : ∀ m'' H'' v, Step m' H' m'' H'' → Rl ws m'' st1 H'' → RD ws H' m'' H'' d v → De.rt v H'' := fun m'' H'' v s'' r'' q'' => h2 m'' H'' (.rt v) (s'.trans s'') r'' (RD.back s' q'')
          unfold Cl.wish Hd.cl
          dsimp only
          cases hnm : hd.nm with
          | none =>
            exact ⟨by rw [hC], m', st1, p, d, r', by rw [hk]; exact q, hd', (fun i z => by cases z), fin⟩
          | some i =>
            refine ⟨by rw [hC], m', st1, p, d, r', by rw [hk]; exact q, hd', fun j z hj => ?_, fin⟩
            cases z
            exact List.getElem?_set_self (by simpa using hj)
        · exact h2.elim
      · have hk : ¬ hd.k = c := of_decide_eq_false hk
        refine ih (fun h hh => he h (List.mem_cons_of_mem _ hh)) (fun h hh => hn h (List.mem_cons_of_mem _ hh)) ?_
        have := h'
        simp only [List.map_cons] at this
        unfold handle at this
        rw [if_neg hk] at this
        exact this
/-! ### the suites -/
variable {X : Cx} {a : Addr} {oe : Obj} {pn : List (Addr × Obj)}
variable (ws) in
def tO (c : Nat) (nm : Option Nat) (o : Option D) (a : Addr) (cls : Value) (dx : Option Addr) : TE := fun σ H Q => ∃ m p d, ExV ws m H c p cls dx ∧ suD p o = some d ∧ (∀ i, nm = some i → i < σ.length → σ[i]? = some (some (.ref a))) ∧ σ.length = n ∧ ∀ v, DV ws m H d v → notl d = true → Q v H
end
end Mn
/-! Mn11: a text of the model against one of the small language: the check. -/
namespace Mn
open PySem PySem.Spec PyProof.Rows L2
mutual
def beqD : D → D → Bool
  | .non, .non => true
  | .bl a, .bl b => a == b
  | .int a, .int b => decide (a = b)
  | .str a, .str b => decide (a = b)
  | .tup xs, .tup ys => beqDs xs ys
  | .fn a, .fn b => decide (a = b)
  | _, _ => false
def beqDs : List D → List D → Bool
  | [], [] => true
  | x :: xs, y :: ys => beqD x y && beqDs xs ys
  | _, _ => false
end
mutual
theorem beqD_ok : ∀ {a b : D}, beqD a b = true → a = b
  | .non, .non, _ => rfl
  | .bl a, .bl b, h => by
    have : a = b := by simpa [beqD] using h
    rw [this]
  | .int a, .int b, h => by
    have : a = b := by simpa [beqD] using h
    rw [this]
  | .str a, .str b, h => by
    have : a = b := by simpa [beqD] using h
    rw [this]
  | .tup xs, .tup ys, h => by
    rw [beqDs_ok (show beqDs xs ys = true by simpa [beqD] using h)]
  | .fn a, .fn b, h => by
    have : a = b := by simpa [beqD] using h
    rw [this]
theorem beqDs_ok : ∀ {a b : List D}, beqDs a b = true → a = b
  | [], [], _ => rfl
  | x :: xs, y :: ys, h => by
    have h' : beqD x y = true ∧ beqDs xs ys = true := by simpa [beqDs] using h
    rw [beqD_ok h'.1, beqDs_ok h'.2]
end
/-! ### the module, a def -/
structure Md where
  fns : List Str
  con : List (Str × D)
  cls : List (Str × Nat × Option Str)
  bl : List Str
structure Cc where
  N : List Str
  sc : Scope
  fnc : Option Scope
  md : Md
def visB (sc : Scope) (x : Str) : Bool := match sc.names.lookup x with
  | some .local => true
  | some .cell => true
  | some .free => true
  | _ => false
def locB (cx : Cc) (i : Nat) (x : Str) : Bool := decide (cx.N[i]? = some x) && visB cx.sc x && !(x == ("__debug__" : Str)) && !(x == ("__classdict__" : Str))
def fncB (cx : Cc) (x : Str) : Bool := match cx.fnc with
  | none => true
  | some s => s.names.lookup x == some .cell
def stoB (cx : Cc) (i : Nat) (x : Str) : Bool := decide (cx.N[i]? = some x) && (match cx.sc.names.lookup x with
  | some .local => true
  | some .cell => fncB cx x
  | _ => false)
def locl (cx : Cc) (i : Nat) (x : Str) : Bool := decide (cx.N[i]? = some x) && (match cx.sc.names.lookup x with
  | some .local => true
  | _ => false)
def globB (cx : Cc) (x : Str) : Bool := (match cx.sc.names.lookup x with
  | some .globalImplicit => true
  | _ => false) && !(x == ("__debug__" : Str))
def blB (cx : Cc) (x : Str) : Bool := globB cx x && cx.md.bl.contains x
def ckC : D → Const → Bool
  | .non, .none => true
  | .bl a, .bool b => a == b
  | .int a, .int b => decide (a = b)
  | .str a, .str b => decide (b = (⟨a.toArray⟩ : Str))
  | _, _ => false
def noSet : Expr → Bool
  | .Set .. => false
  | _ => true
def noStar : Expr → Bool
  | .Starred .. => false
  | _ => true
def noSlice : Expr → Bool
  | .Slice .. => false
  | _ => true
def noCall : Expr → Bool
  | .Call .. => false
  | _ => true
def noLc : Expr → Bool
  | .ListComp .. => false
  | .SetComp .. => false
  | .DictComp .. => false
  | _ => true
def noTup : Expr → Bool
  | .Tuple .. => false
  | .List .. => false
  | _ => true
def noTpl : Expr → Bool
  | .Tuple .. => false
  | _ => true
/-- its test is its value's truth -/
def plainT : Expr → Bool
  | .UnaryOp .. => false
  | .BoolOp .. => false
  | .IfExp .. => false
  | .Compare .. => false
  | _ => true
def binP : Pr → Operator → Bool
  | .add, .Add => true
  | .sub, .Sub => true
  | .mul, .Mult => true
  | .fdiv, .FloorDiv => true
  | .mod, .Mod => true
  | _, _ => false
def cmpP : Pr → CmpOp → Bool
  | .eq, .Eq => true
  | .ne, .NotEq => true
  | .lt, .Lt => true
  | .le, .LtE => true
  | .gt, .Gt => true
  | .ge, .GtE => true
  | .isN, .Is => true
  | .notN, .IsNot => true
  | .isin, .In => true
  | .notin, .NotIn => true
  | _, _ => false
def blN : Pr → Option Str
  | .len => some "len"
  | .abs => some "abs"
  | .toInt => some "int"
  | .all => some "all"
  | .any => some "any"
  | .sum => some "sum"
  | .tuple => some "tuple"
  | .list => some "list"
  | .max => some "max"
  | .min => some "min"
  | .max2 => some "max"
  | .min2 => some "min"
  | _ => none
def mtN : Pr → Option Str
  | .append => some "append"
  | .pop0 => some "pop"
  | .pop1 => some "pop"
  | _ => none
def tyS : Ty → Str
  | .int => "int"
  | .bool => "bool"
  | .str => "str"
  | .tuple => "tuple"
  | .list => "list"
def ckTy (cx : Cc) (t : Ty) : Expr → Bool
  | .Name x _ => decide (x = tyS t) && blB cx x
  | _ => false
def ckTys (cx : Cc) : List Ty → List Expr → Bool
  | [], [] => true
  | t :: ts, e :: es => ckTy cx t e && ckTys cx ts es
  | _, _ => false
def ownOf (N : List Str) (own : List Nat) : List (Str × Nat) := own.map fun i => (N.getD i "", i)
def subL (a b : List Nat) : Bool := a.all fun i => b.contains i
def Cc.blk (cx : Cc) (scope : Scope) : Cc := ⟨cx.N, relS scope cx.sc, some scope, cx.md⟩
mutual
def ckE : Nat → Cc → E → Expr → Bool
  | 0, _, _, _ => false
  | n + 1, cx, e', e => match e' with
    | .var i => (match e with
      | .Name x _ => locB cx i x
      | _ => false)
    | .cst d => (match e with
      | .Constant c _ _ => ckC d c
      | .Name x _ => globB cx x && (match d with
        | .fn g => decide (cx.md.fns[g]? = some x)
        | d => (match cx.md.con.lookup x with
          | some d' => beqD d d'
          | none => false))
      | _ => false)
    | .tupE es => (match e with
      | .Tuple xs _ _ => Nat.ble es.length 1000 && ckEs n cx es xs
      | _ => false)
    | .lstE es => (match e with
      | .List xs _ => Nat.ble es.length 1000 && ckEs n cx es xs
      | _ => false)
    | .prim p es => (match e with
      | .BinOp a o b _ => (match es with
        | [a', b'] => binP p o && ckE n cx a' a && ckE n cx b' b
        | _ => false)
      | .Compare .. => ckCmp n cx (.prim p es) e
      | .UnaryOp o a _ => (match p, o, es with
        | .neg, .USub, [a'] => ckE n cx a' a
        | _, _, _ => false)
      | .Subscript a s _ => (match s with
        | .Slice lo hi none _ => (match p, es, lo, hi with
          | .sl false false, [a'], none, none => ckE n cx a' a
          | .sl true false, [a', b'], some b, none => ckE n cx a' a && ckE n cx b' b
          | .sl false true, [a', b'], none, some b => ckE n cx a' a && ckE n cx b' b
          | _, _, _, _ => false)
        | s => (match p, es with
          | .ix, [a', b'] => noSlice s && ckE n cx a' a && ckE n cx b' s
          | _, _ => false))
      | .Call (.Name x _) args [] _ => blB cx x && (match p with
        | .inst ts => (match es, args with
          | [a'], [a, t] => decide (x = "isinstance") && noStar a && ckE n cx a' a && (match t with
            | .Tuple ys _ _ => ckTys cx ts ys && Nat.ble ys.length 100
            | t => (match ts with
              | [ty] => ckTy cx ty t
              | _ => false))
          | _, _ => false)
        | p => decide (blN p = some x) && ckEs n cx es args)
      | _ => false)
    | .meth p o es => (match e with
      | .Call (.Attribute ov m apos) args [] pos => decide (mtN p = some m) && (apos.endLine == pos.line) && Nat.ble args.length 10 && noCall ov && ckE n cx o ov && ckEs n cx es args
      | _ => false)
    | .and a b => (match e with
      | .BoolOp .And vs _ => ckAnd n cx a b vs
      | _ => false)
    | .or a b => (match e with
      | .BoolOp .Or vs _ => ckOr n cx a b vs
      | _ => false)
    | .not a => (match e with
      | .UnaryOp .Not x _ => ckE n cx a x
      | _ => false)
    | .ite c a b => (match e with
      | .IfExp t x y _ => ckT n cx c t && ckE n cx a x && ckE n cx b y
      | _ => false)
    | .chain p q a b c => ckCmp n cx (.chain p q a b c) e
    | .sl3 a b c => (match e with
      | .Subscript x (.Slice (some y) (some z) none _) _ => ckE n cx a x && ckE n cx b y && ckE n cx c z
      | _ => false)
    | .call g es => (match e with
      | .Call (.Name x _) args [] _ => globB cx x && decide (cx.md.fns[g]? = some x) && ckEs n cx es args
      | _ => false)
    | .callv i es => (match e with
      | .Call (.Name x _) args [] _ => locB cx i x && ckEs n cx es args
      | _ => false)
    | .comp elt tg src cs own => (match e with
      | .ListComp x [⟨t, it, ifs, k⟩] scope _ => decide (k = 0) && blkC cx.N cx.sc scope (ownOf cx.N own) && subL (tgS tg) own && noSet it && ckSrc n cx src t it && ckTg n (cx.blk scope) tg t && ckCs n (cx.blk scope) cs ifs && ckE n (cx.blk scope) elt x
      | _ => false)
    | .comp2 elt tg src cs tg1 src1 cs1 own own1 => (match e with
      | .ListComp x [⟨t, it, ifs, k⟩, ⟨t1, it1, ifs1, k1⟩] scope _ => decide (k = 0) && decide (k1 = 0) && blkC cx.N cx.sc scope (ownOf cx.N own) && subL (tgS tg) own && subL (tgS tg1) own1 && subL own1 own && noSet it && noSet it1 && ckSrc n cx src t it && ckTg n (cx.blk scope) tg t && ckCs n (cx.blk scope) cs ifs &&
          ckSrc n (cx.blk scope) src1 t1 it1 && ckTg n (cx.blk scope) tg1 t1 && ckCs n (cx.blk scope) cs1 ifs1 && ckE n (cx.blk scope) elt x
      | _ => false)
def ckEs : Nat → Cc → List E → List Expr → Bool
  | 0, _, _, _ => false
  | n + 1, cx, es', es => match es', es with
    | [], [] => true
    | e' :: es', e :: es => noStar e && ckE n cx e' e && ckEs n cx es' es
    | _, _ => false
def ckCmp : Nat → Cc → E → Expr → Bool
  | 0, _, _, _ => false
  | n + 1, cx, e', e => match e' with
    | .prim p [a', b'] => (match e with
      | .Compare a [o] [b] _ => cmpP p o && noSet b && ckE n cx a' a && ckE n cx b' b
      | _ => false)
    | .chain p q a' b' c' => (match e with
      | .Compare a [o, o1] [b, c] _ => isCmp p && cmpP p o && cmpP q o1 && noSet c && ckE n cx a' a && ckE n cx b' b && ckE n cx c' c
      | _ => false)
    | _ => false
def ckAnd : Nat → Cc → E → E → List Expr → Bool
  | 0, _, _, _, _ => false
  | n + 1, cx, a', b', vs => match vs with
    | [x, y] => ckE n cx a' x && ckE n cx b' y
    | x :: y :: z :: r => ckE n cx a' x && (match b' with
      | .and a1 b1 => ckAnd n cx a1 b1 (y :: z :: r)
      | _ => false)
    | _ => false
def ckOr : Nat → Cc → E → E → List Expr → Bool
  | 0, _, _, _, _ => false
  | n + 1, cx, a', b', vs => match vs with
    | [x, y] => ckE n cx a' x && ckE n cx b' y
    | x :: y :: z :: r => ckE n cx a' x && (match b' with
      | .or a1 b1 => ckOr n cx a1 b1 (y :: z :: r)
      | _ => false)
    | _ => false
def ckT : Nat → Cc → E → Expr → Bool
  | 0, _, _, _ => false
  | n + 1, cx, e', e => match e with
    | .Compare .. => ckCmp n cx e' e
    | .UnaryOp .Not x _ => (match e' with
      | .not a => ckT n cx a x
      | _ => false)
    | .BoolOp .And vs _ => (match e' with
      | .and a b => ckAndT n cx a b vs
      | _ => false)
    | .BoolOp .Or vs _ => (match e' with
      | .or a b => ckOrT n cx a b vs
      | _ => false)
    | e => plainT e && ckE n cx e' e
def ckAndT : Nat → Cc → E → E → List Expr → Bool
  | 0, _, _, _, _ => false
  | n + 1, cx, a', b', vs => match vs with
    | [x, y] => ckT n cx a' x && ckT n cx b' y
    | x :: y :: z :: r => ckT n cx a' x && (match b' with
      | .and a1 b1 => ckAndT n cx a1 b1 (y :: z :: r)
      | _ => false)
    | _ => false
def ckOrT : Nat → Cc → E → E → List Expr → Bool
  | 0, _, _, _, _ => false
  | n + 1, cx, a', b', vs => match vs with
    | [x, y] => ckT n cx a' x && ckT n cx b' y
    | x :: y :: z :: r => ckT n cx a' x && (match b' with
      | .or a1 b1 => ckOrT n cx a1 b1 (y :: z :: r)
      | _ => false)
    | _ => false
def ckCs : Nat → Cc → List E → List Expr → Bool
  | 0, _, _, _ => false
  | n + 1, cx, cs', cs => match cs', cs with
    | [], [] => true
    | [c'], [c] => ckT n cx c' c
    | _, _ => false
def ckTg : Nat → Cc → Tg → Expr → Bool
  | 0, _, _, _ => false
  | n + 1, cx, t', t => match t' with
    | .nm i => (match t with
      | .Name x _ => stoB cx i x
      | _ => false)
    | .tp ts => (match t with
      | .Tuple es _ _ => ckTgs n cx ts es
      | _ => false)
    | .sb o i => (match t with
      | .Subscript ov iv _ => noSlice iv && ckE n cx o ov && ckE n cx i iv
      | _ => false)
def ckTgs : Nat → Cc → List Tg → List Expr → Bool
  | 0, _, _, _ => false
  | n + 1, cx, ts', ts => match ts', ts with
    | [], [] => true
    | t' :: ts', t :: ts => noStar t && ckTg n cx t' t && ckTgs n cx ts' ts
    | _, _ => false
def ckSrc : Nat → Cc → Src → Expr → Expr → Bool
  | 0, _, _, _, _ => false
  | n + 1, cx, s', t, e => match s' with
    | .ex e' => ckE n cx e' e
    | .rng es => (match e with
      | .Call (.Name x _) args [] _ => decide (x = "range") && blB cx x && Nat.ble 1 args.length && Nat.ble args.length 3 && ckEs n cx es args
      | _ => false)
    | .enu e' => (match e, t with
      | .Call (.Name x _) [a] [] _, .Tuple .. => decide (x = "enumerate") && blB cx x && ckEs n cx [e'] [a]
      | _, _ => false)
    | .zip a' b' => (match e, t with
      | .Call (.Name x _) [a, b] [] _, .Tuple .. => decide (x = "zip") && blB cx x && ckEs n cx [a', b'] [a, b]
      | _, _ => false)
end
/-- the exchange: name = [..] on one line -/
def swB (cx : Cc) (value tg : Expr) : Bool := match value, tg with
  | .ListComp _ _ s _, .Name t pos => (match cx.sc.kind with | .function => true | _ => false) && (cx.sc.names.lookup t == some .local) && (pos.line == value.pos.line) && !(s.names.any fun (n, k) => n == t && (k == .local || k == .cell))
  | _, _ => false
def bkS (sc : Scope) : ScopeKind := if sc.kind.isAnnotationScope then .function else sc.kind
/-- the stores from the right -/
def swS (sc : Scope) (ts vs : List Expr) : Option (Option (List Str)) :=
  if !(ts.length == 2 || ts.length == 3) || vs.length != ts.length || bkS sc != .function then some none
  else if vs.any fun | .Starred .. => true | _ => false then some none
  else
    let line := (ts.head?.map (·.pos.line)).getD 0
    let names := ts.filterMap fun
      | .Name id pos => if sc.names.lookup id == some .local && pos.line == line then some id else none
      | _ => none
    if names.length != ts.length || names.eraseDups.length != names.length then some none
    else if vs.all (foldedForSure 8) then some none
    else if vs.all (constantsAlone 8) then none
    else some (some names)
/-- an except clause: the class, the name's slot, the suite -/
def ckO (cx : Cc) (nm : Option Str) (an : Option Str) : Option D → Expr → Bool
  | some d, .Constant c _ _ => ckC d c
  | none, .Attribute (.Name y _) f _ => decide (nm = some y) && decide (an = some f) && !(y == ("__debug__" : Str)) && !(y == ("__classdict__" : Str))
  | _, _ => false
def ckOs (cx : Cc) (nm : Option Str) (an : Option Str) : List (Option D) → List Expr → Bool
  | [], [] => true
  | o :: os, e :: es => noStar e && ckO cx nm an o e && ckOs cx nm an os es
  | _, _ => false
def slotB (cx : Cc) : Option Str → Bool
  | none => true
  | some y => cx.N.contains y && (cx.sc.names.lookup y == some .local)
def ckH (cx : Cc) (h : Nat × Su) : ExceptHandler → Bool
  | .ExceptHandler (some (.Name x _)) nm [.Return (some e) _] _ => globB cx x && slotB cx nm && (match cx.md.cls.lookup x with
    | some (k, an) => decide (k = h.1) && (match h.2 with
      | .one o => ckO cx nm an o e
      | .tup os => (match e with
        | .Tuple es _ _ => Nat.ble os.length 1000 && ckOs cx nm an os es
        | _ => false))
    | none => false)
  | _ => false
def ckHs (cx : Cc) : List (Nat × Su) → List ExceptHandler → Bool
  | [], [] => true
  | h :: hs, e :: es => ckH cx h e && ckHs cx hs es
  | _, _ => false
mutual
def ckS : Nat → Cc → S → Stmt → Bool
  | 0, _, _, _ => false
  | n + 1, cx, s', s => match s' with
    | .ex e' => (match s with
      | .Expr e _ => noLc e && ckE n cx e' e
      | _ => false)
    | .ret e' => (match s with
      | .Return (some e) _ => ckE n cx e' e
      | _ => false)
    | .ret0 => (match s with
      | .Return none _ => true
      | _ => false)
    | .pas => (match s with
      | .Pass _ => true
      | _ => false)
    | .brk => (match s with
      | .Break _ => true
      | _ => false)
    | .cnt => (match s with
      | .Continue _ => true
      | _ => false)
    | .asg t' e' => (match s with
      | .Assign [t] e _ => noStar t && (match e with
        | .ListComp .. => (match t, t' with
          | .Name x _, .nm i => (if swB cx e t then locl cx i x else ckTg n cx t' t) && ckE n cx e' e
          | _, _ => false)
        | .Tuple vs _ _ => (match t with
          | .Tuple ts _ _ => (match swS cx.sc ts vs with
            | some none => ckTg n cx t' t && ckE n cx e' e
            | some (some names) => (match ts, vs, t', e' with
              | [.Name x _, .Name y _], [a, b], .tp [.nm i, .nm j], .tupE es => decide (names = [x, y]) && !(decide (i = j)) && locl cx i x && locl cx j y && ckEs n cx es vs
              | [.Name x _, .Name y _, .Name z _], [a, b, c], .tp [.nm i, .nm j, .nm l], .tupE es => decide (names = [x, y, z]) && !(decide (i = j)) && !(decide (i = l)) && !(decide (j = l)) && locl cx i x && locl cx j y && locl cx l z && ckEs n cx es vs
              | _, _, _, _ => false)
            | none => false)
          | .List .. => false
          | t => noTup t && ckTg n cx t' t && ckE n cx e' e)
        | e => noLc e && noTpl e && ckTg n cx t' t && ckE n cx e' e)
      | _ => false)
    | .aug i p e' => (match s with
      | .AugAssign (.Name x _) o e _ => binP p o && stoB cx i x && ckE n cx e' e
      | _ => false)
    | .augS o i p e' => (match s with
      | .AugAssign (.Subscript ov iv _) op e _ => binP p op && noSlice iv && ckE n cx o ov && ckE n cx i iv && ckE n cx e' e
      | _ => false)
    | .ifS c a b => (match s with
      | .If t x y _ => ckT n cx c t && ckSs n cx a x && ckSs n cx b y
      | _ => false)
    | .whl c b => (match s with
      | .While t x [] _ => ckT n cx c t && ckSs n cx b x
      | _ => false)
    | .for t' src b => (match s with
      | .For t it x [] _ => noSet it && ckSrc n cx src t it && ckTg n cx t' t && ckSs n cx b x
      | _ => false)
    | .rse c es => (match s with
      | .Raise (some (.Call (.Name x _) [.Constant (.str _) _ _] [] _)) none _ => globB cx x && es.isEmpty && (match cx.md.cls.lookup x with
        | some (k, none) => decide (k = c)
        | _ => false)
      | _ => false)
    | .tryS b hs => (match s with
      | .Try x (h :: hds) [] [] _ => ckSs n cx b x && ckHs cx hs (h :: hds)
      | _ => false)
def ckSs : Nat → Cc → List S → List Stmt → Bool
  | 0, _, _, _ => false
  | n + 1, cx, ss', ss => match ss', ss with
    | [], [] => true
    | s' :: ss', s :: ss => ckS n cx s' s && ckSs n cx ss' ss
    | _, _ => false
end
end Mn
/-! Mn12: the check is sound: expressions. -/
namespace Mn
open PySem PySem.Spec PyProof.Rows L2
/-! ### forms -/
theorem star_cons {e : Expr} {es : List Expr} {env : Env} (h : noStar e = true) : starEach (e :: es) env = (false, eval e env) :: starEach es env := by
  cases e <;> first | rfl | cases h
theorem asg_cons {e : Expr} {es : List Expr} {env : Env} (h : noStar e = true) : assignEach (e :: es) env = (false, assign e env) :: assignEach es env := by
  cases e <;> first | rfl | cases h
theorem asg_len {env : Env} : ∀ {es : List Expr}, (assignEach es env).length = es.length
  | [] => rfl
  | e :: es => by
    cases e <;> (show (_ :: assignEach es env).length = _; rw [List.length_cons, List.length_cons, asg_len])
theorem plainIx {b : Expr} (h : noSlice b = true) : PlainIx b := fun o i => by cases b <;> first | rfl | cases h
theorem asg_sub {o i : Expr} {pos : Pos} {env : Env} (h : noSlice i = true) (v : Value) : assign (.Subscript o i pos) env v = (do
      let ov ← holding [v] (eval o env)
      let iv ← holding [v, ov] (eval i env)
      standAt pos
      holding [v, ov, iv] (setItem ov iv v)
      release [v, ov, iv] []) := by
  cases i <;> first | rfl | cases h
theorem aug_sub {i : Expr} (h : noSlice i = true) (ov iv new : Value) : augStore i ov iv new = (do holding [new, ov, iv] (setItem ov iv new); release [new, ov, iv] []; pure .next) := by
  cases i <;> first | rfl | cases h
theorem nomarkS {op : CmpOp} {b : Expr} (h : noSet b = true) : behindInMarks op b = false := by
  cases b <;> first | rfl | cases h
theorem plain_test {e : Expr} {env : Env} (h : plainT e = true) (whole : Sem Value) : isTrue e env whole = (do let v ← whole; standAt e.pos; holding [v] (truthy v)) := by
  cases e <;> first | rfl | cases h
theorem fold_set {e : Expr} {env : Env} (h : noSet e = true) (x : Value) : foldedSetIterable e env x = pure x := by
  cases e <;> first | rfl | cases h
theorem attr_base {o : Expr} {a : Str} {env : Env} (h : noCall o = true) (w : Sem Value) : attributeBase o a env w = w := by
  cases o <;> first | rfl | cases h
theorem swaps_no {e : Expr} {t : Option Expr} {l : Nat} {env : Env} (h : noLc e = true) : swapsWith e t l env = pure false := by
  cases e <;> first | rfl | cases h
inductive PlainEs : List Expr → Prop
  | nil : PlainEs []
  | cons {e : Expr} {es : List Expr} : noStar e = true → PlainEs es → PlainEs (e :: es)
theorem PlainEs.any {env : Env} {pos : Pos} : ∀ {es : List Expr}, PlainEs es → (backTo pos (starEach es env)).any (·.1) = false
  | _, .nil => rfl
  | _, .cons h r => by
    rw [star_cons h]
    show (false || (backTo pos (starEach _ env)).any (·.1)) = false
    rw [r.any]
    rfl
theorem PlainEs.all {env : Env} {pos : Pos} : ∀ {es : List Expr}, PlainEs es → (backTo pos (starEach es env)).all (fun x => !x.1) = true
  | _, .nil => rfl
  | _, .cons h r => by
    rw [star_cons h]
    show ((!false) && (backTo pos (starEach _ env)).all (fun x => !x.1)) = true
    rw [r.all]
    rfl
theorem PlainEs.find {env : Env} : ∀ {es : List Expr}, PlainEs es → (assignEach es env).findIdx? (·.1) = none
  | _, .nil => rfl
  | _, .cons h r => by
    rw [asg_cons h, List.findIdx?_cons]
    simp [r.find]
/-! ### what a context must have -/
/-- a class that may be raised with a text -/
def Rse (X : Cx) (C : Addr) : Prop := ∃ B newId initId bmB, ExcBaseFacts B newId initId bmB ∧ PySem.W.excIn X.K C bmB newId = true ∧ PySem.W.keepIn X.K (.ref C) = true ∧ Raises X (.ref C)
def FnG (ws : Ws) (cf : Cf) (X : Cx) (g : Nat) (x : Str) : Prop := X.mg x = some (.ref (ws.fa g)) ∧ PySem.W.keepIn X.K (.ref (ws.fa g)) = true ∧
  ∃ k fd ps, FnOk X.prog X.w X.K X.mg X.base (L2.CX X.prog X.w) k (ws.fa g) fd ps (spF ws cf g) ∧ Room k X.A ∧ Binds X.K fd ps []
structure Gd (ws : Ws) (cf : Cf) (cx : Cc) (X : Cx) : Prop where
  g : Gp ws X
  N : X.N = cx.N
  nd : cx.N.Nodup
  sc : X.env.scope = cx.sc
  kd : cx.sc.kind = .function
  fn : ∀ x, fncB cx x = true → X.fn x = true
  bl : ∀ x ∈ cx.md.bl, X.mg x = none
  con : ∀ x d, cx.md.con.lookup x = some d → ∃ u v, X.mg x = some u ∧ RelV v u ∧ (∀ m H, DV ws m H d v) ∧ notl d = true
  cls : ∀ x k an, cx.md.cls.lookup x = some (k, an) → ∃ C, ws.ec k = some (C, an) ∧ X.mg x = some (.ref C)
  rse : ∀ x k C, cx.md.cls.lookup x = some (k, none) → ws.ec k = some (C, none) → Rse X C
  fns : ∀ g x, cx.md.fns[g]? = some x → FnG ws cf X g x
  nf : ∀ g, g < cf.nf → ∃ x, cx.md.fns[g]? = some x
section
variable {ws : Ws} {cf : Cf} {cx : Cc} {X : Cx} {W : WX} {n : Nat}
theorem Gd.blk (G : Gd ws cf cx X) (s : Shared) (H : Hp) (scope : Scope) (C : Addr) (cl : List (Str × Addr)) (fp : List Addr) (hk : scope.kind = .function) : Gd ws cf (cx.blk scope) (X.blk s H scope (compEnvC scope cl C X.env) fp) :=
  ⟨⟨G.g.K, G.g.calm, G.g.units⟩, G.N, G.nd, by
    show relabel scope X.env = relS scope cx.sc
    rw [← G.sc]
    rfl, hk, fun x h => h, G.bl, G.con, G.cls, G.rse, fun g x e => G.fns g x e, G.nf⟩
theorem Gd.tr (G : Gd ws cf cx X) (pn : List (Addr × Obj)) (xe : Value → Shared → Prop) : Gd ws cf cx (X.tr pn xe) := ⟨⟨G.g.K, G.g.calm, G.g.units⟩, G.N, G.nd, G.sc, G.kd, G.fn, G.bl, G.con, G.cls, G.rse, G.fns, G.nf⟩
theorem Gd.loc (G : Gd ws cf cx X) {i : Nat} {x : Str} (h : locB cx i x = true) : X.N[i]? = some x ∧ Vis X.env.scope x ∧ (x == ("__debug__" : Str)) = false ∧ (x == ("__classdict__" : Str)) = false := by
  unfold locB visB at h
  simp only [Bool.and_eq_true, Bool.not_eq_true', decide_eq_true_eq] at h
  obtain ⟨⟨⟨h1, h2⟩, h3⟩, h4⟩ := h
  refine ⟨by rw [G.N]; exact h1, ?_, h3, h4⟩
  unfold Vis
  rw [G.sc]
  split at h2
  · rename_i e; exact .inl e
  · rename_i e; exact .inr (.inl e)
  · rename_i e; exact .inr (.inr e)
  · cases h2
theorem Gd.sto (G : Gd ws cf cx X) {i : Nat} {x : Str} (h : stoB cx i x = true) : X.N[i]? = some x ∧ L2.Loc X.env.scope x ∧ (X.fn x = true ∨ X.env.scope.names.lookup x = some .local) := by
  unfold stoB at h
  simp only [Bool.and_eq_true, decide_eq_true_eq] at h
  obtain ⟨h1, h2⟩ := h
  refine ⟨by rw [G.N]; exact h1, ?_⟩
  unfold L2.Loc
  rw [G.sc]
  split at h2
  · rename_i e; exact ⟨.inl e, .inr e⟩
  · rename_i e; exact ⟨.inr e, .inl (G.fn x h2)⟩
  · cases h2
theorem Gd.locl (G : Gd ws cf cx X) {i : Nat} {x : Str} (h : Mn.locl cx i x = true) : X.N[i]? = some x ∧ X.env.scope.names.lookup x = some .local := by
  unfold Mn.locl at h
  simp only [Bool.and_eq_true, decide_eq_true_eq] at h
  obtain ⟨h1, h2⟩ := h
  refine ⟨by rw [G.N]; exact h1, ?_⟩
  rw [G.sc]
  split at h2
  · rename_i e; exact e
  · cases h2
theorem Gd.glob (G : Gd ws cf cx X) {x : Str} (h : globB cx x = true) : Gl X x ∧ (x == ("__debug__" : Str)) = false := by
  unfold globB at h
  simp only [Bool.and_eq_true, Bool.not_eq_true'] at h
  obtain ⟨h1, h2⟩ := h
  refine ⟨?_, h2⟩
  show X.env.scope.names.lookup x = _
  rw [G.sc]
  split at h1
  · rename_i e; exact e
  · cases h1
theorem Gd.blt (G : Gd ws cf cx X) {x : Str} (h : blB cx x = true) : Gl X x ∧ X.mg x = none ∧ (x == ("__debug__" : Str)) = false := by
  unfold blB at h
  rw [Bool.and_eq_true] at h
  obtain ⟨h1, h2⟩ := G.glob h.1
  exact ⟨h1, G.bl x (by simpa using h.2), h2⟩
/-! ### constants -/
theorem ckC_ok {d : D} {c : Const} {j : Nat} {pos : Pos} (h : ckC d c = true) : ∃ v, PE X (.Constant c j pos) (tC v) ∧ (∀ m H, DV ws m H d v) ∧ notl d = true := by
  unfold ckC at h
  split at h
  · exact ⟨.non, pe_non, fun _ _ => .non, rfl⟩
  · rename_i a b
    have : a = b := by simpa using h
    subst this
    exact ⟨.bl a, pe_bl, fun _ _ => .bl a, rfl⟩
  · rename_i a b
    have : a = b := by simpa using h
    subst this
    exact ⟨.int a, pe_int, fun _ _ => .int a, rfl⟩
  · rename_i a b
    have : b = (⟨a.toArray⟩ : Str) := by simpa using h
    subst this
    exact ⟨.str _, pe_str, fun _ _ => .str a, rfl⟩
  · cases h
/-! ### operations -/
theorem binP_ok {p : Pr} {o : Operator} (h : binP p o = true) (G : Gp ws X) : OpR X (binaryOp o) (rP2 ws p) := by
  unfold binP at h
  split at h
  · exact or_add G
  · exact or_sub
  · exact or_mul G
  · exact or_fdiv
  · exact or_mod
  · cases h
theorem cmpP_ok {p : Pr} {o : CmpOp} (h : cmpP p o = true) (G : Gp ws X) : OpR X (compareOp o) (rP2 ws p) := by
  unfold cmpP at h
  split at h
  · exact or_eq G
  · exact or_ne G
  · exact or_lt
  · exact or_le
  · exact or_gt
  · exact or_ge
  · exact or_isN G
  · exact or_notN G
  · exact or_in G
  · exact or_notin G
  · cases h
theorem ipP_ok {p : Pr} {o : Operator} (h : binP p o = true) : PIp X o (ipS p) ∧ isArith p = true := by
  unfold binP at h
  split at h
  · refine ⟨fun pins s σ H x y v u Q I r1 r2 h => ?_, rfl⟩
    obtain ⟨i, j, k, rfl, rfl, e, q⟩ := h
    cases e
    exact ip_add pins s σ H _ _ v u Q I r1 r2 ⟨i, j, rfl, rfl, q⟩
  · refine ⟨fun pins s σ H x y v u Q I r1 r2 h => ?_, rfl⟩
    obtain ⟨i, j, k, rfl, rfl, e, q⟩ := h
    cases e
    exact ip_sub pins s σ H _ _ v u Q I r1 r2 ⟨i, j, rfl, rfl, q⟩
  · refine ⟨fun pins s σ H x y v u Q I r1 r2 h => ?_, rfl⟩
    obtain ⟨i, j, k, rfl, rfl, e, q⟩ := h
    simp only [semI] at e
    split at e
    · rename_i hc
      cases e
      exact imul_any pins s σ H _ _ v u Q I r1 r2 ⟨i, j, rfl, rfl, cmulx hc, q⟩
    · cases e
  · refine ⟨fun pins s σ H x y v u Q I r1 r2 h => ?_, rfl⟩
    obtain ⟨i, j, k, rfl, rfl, e, q⟩ := h
    simp only [semI] at e
    split at e
    · rename_i hc
      cases e
      exact ifdiv_any pins s σ H _ _ v u Q I r1 r2 ⟨i, j, rfl, rfl, hc, q⟩
    · cases e
  · refine ⟨fun pins s σ H x y v u Q I r1 r2 h => ?_, rfl⟩
    obtain ⟨i, j, k, rfl, rfl, e, q⟩ := h
    simp only [semI] at e
    split at e
    · rename_i hc
      cases e
      exact imod_any pins s σ H _ _ v u Q I r1 r2 ⟨i, j, rfl, rfl, hc, q⟩
    · cases e
  · cases h
/-- the built-in functions -/
theorem blN_ok {p : Pr} {x : Str} (h : blN p = some x) (G : Gp ws X) : x ≠ "__name__" ∧ ((∃ id, bootBuiltins x = some (.builtin id) ∧ CallR X (.builtin id) (rP ws p)) ∨ ∃ T, bootBuiltins x = some (.type T) ∧ CallR X (.type T) (rP ws p)) := by
  cases p
  case len => cases h; exact ⟨by decide, .inl ⟨_, boot_len, cr_len G⟩⟩
  case abs => cases h; exact ⟨by decide, .inl ⟨_, by decide +kernel, cr_abs⟩⟩
  case toInt => cases h; exact ⟨by decide, .inr ⟨_, by decide +kernel, cr_int⟩⟩
  case all => cases h; exact ⟨by decide, .inl ⟨_, by decide +kernel, cr_allM G⟩⟩
  case any => cases h; exact ⟨by decide, .inl ⟨_, by decide +kernel, cr_anyM G⟩⟩
  case sum => cases h; exact ⟨by decide, .inl ⟨_, by decide +kernel, cr_sumM G⟩⟩
  case tuple => cases h; exact ⟨by decide, .inr ⟨_, by decide +kernel, cr_tuple G⟩⟩
  case list => cases h; exact ⟨by decide, .inr ⟨_, by decide +kernel, cr_list G⟩⟩
  case max => cases h; exact ⟨by decide, .inl ⟨_, by decide +kernel, cr_maxM G⟩⟩
  case min => cases h; exact ⟨by decide, .inl ⟨_, by decide +kernel, cr_minM G⟩⟩
  case max2 => cases h; exact ⟨by decide, .inl ⟨_, by decide +kernel, cr_max2 G⟩⟩
  case min2 => cases h; exact ⟨by decide, .inl ⟨_, by decide +kernel, cr_min2 G⟩⟩
  all_goals cases h
theorem pe_blN {p : Pr} {x : Str} {e : Expr} {es : List Expr} {es' : List E} {np pos : Pos} (h : blN p = some x) (G : Gd ws cf cx X) (hb : blB cx x = true) (ha : PA X (e :: es) (tEs ws cf W n es')) (hs : PlainEs (e :: es)) : PE X (.Call (.Name x np) (e :: es) [] pos) (tE ws cf W n (.prim p es')) := by
  obtain ⟨g1, g2, g3⟩ := G.blt hb
  cases hs with
  | cons h1 h2 =>
    obtain ⟨hn, ⟨id, hv, hc⟩ | ⟨T, hv, hc⟩⟩ := blN_ok h G.g
    · exact PE.imp (pe_callB hc g1 g2 hv ha hn g3 (star_cons h1) h2.any) fun σ H Q q => tE_prim q
    · exact PE.imp (pe_callTy hc g1 g2 hv ha hn g3 (star_cons h1) h2.any) fun σ H Q q => tE_prim q
/-! ### isinstance -/
theorem rP_alloc {p : Pr} {vs : List V} {H : Hp} {Q : VK} {q : Addr} {o : HO} (h : rP ws p vs H Q) (hq : H q = none) : rP ws p vs (upd H q o) Q := by
  obtain ⟨H0, m0, m, st, ds, d, st', s, r, a, e, k⟩ := h
  exact ⟨H0, m0, m, st, ds, d, st', s.trans (Step.alloc hq), r.alloc hq, ⟨a.as.mono (Step.alloc hq), a.nd, a.fr⟩, e, k⟩
theorem boot_ty (t : Ty) : bootBuiltins (tyS t) = some (.type (tyN (some t))) ∧ tyS t ≠ "__name__" := by
  cases t <;> exact ⟨by decide +kernel, by decide⟩
theorem ckTy_ok {t : Ty} {e : Expr} (G : Gd ws cf cx X) (h : ckTy cx t e = true) : PE X e (tC (.ty (tyN (some t)))) ∧ noStar e = true := by
  unfold ckTy at h
  split at h
  · rw [Bool.and_eq_true] at h
    obtain ⟨h1, h2⟩ := h
    have h1 := of_decide_eq_true h1
    subst h1
    obtain ⟨g1, g2, g3⟩ := G.blt h2
    exact ⟨pe_bltn g1 g2 (boot_ty t).1 rfl (boot_ty t).2 g3, rfl⟩
  · cases h
theorem ckTys_ok (G : Gd ws cf cx X) : ∀ {ts : List Ty} {es : List Expr}, ckTys cx ts es = true → PA X es (fun _ H Q => Q (ts.map fun t => V.ty (tyN (some t))) H) ∧ ts.length = es.length
  | [], [], _ => ⟨pa_nil, rfl⟩
  | t :: ts, e :: es, h => by
    have h' : ckTy cx t e = true ∧ ckTys cx ts es = true := by simpa [ckTys] using h
    obtain ⟨h1, h2⟩ := ckTy_ok G h'.1
    obtain ⟨h3, h4⟩ := ckTys_ok G h'.2
    exact ⟨pa_cons h1 h3 (star_cons h2), by rw [List.length_cons, List.length_cons, h4]⟩
theorem pe_inst1 {t : Ty} {a e : Expr} {a' : E} {np pos : Pos} (G : Gd ws cf cx X) (hb : blB cx "isinstance" = true) (ha : PE X a (tE ws cf W n a')) (hs : noStar a = true) (ht : ckTy cx t e = true) :
    PE X (.Call (.Name "isinstance" np) [a, e] [] pos) (tE ws cf W n (.prim (.inst [t]) [a'])) := by
  obtain ⟨g1, g2, g3⟩ := G.blt hb
  obtain ⟨h1, h2⟩ := ckTy_ok G ht
  refine PE.imp (pe_callB (cr_inst1 G.g t) g1 g2 boot_isinstance (pa_cons ha (pa_cons h1 pa_nil (star_cons h2)) (star_cons hs)) (by decide) g3 (star_cons hs) (PlainEs.cons h2 .nil).any) fun σ H Q q => ?_
  exact tE_mono (tEs_one (tE_prim q)) fun x H1 k => ⟨x, rfl, k⟩
theorem pe_instT {ts : List Ty} {a : Expr} {ys : List Expr} {a' : E} {np pos kp : Pos} {kk : Nat} (G : Gd ws cf cx X) (hb : blB cx "isinstance" = true) (ha : PE X a (tE ws cf W n a')) (hs : noStar a = true) (ht : ckTys cx ts ys = true) (hl : ys.length ≤ 100) :
    PE X (.Call (.Name "isinstance" np) [a, .Tuple ys kk kp] [] pos) (tE ws cf W n (.prim (.inst ts) [a'])) := by
  obtain ⟨g1, g2, g3⟩ := G.blt hb
  obtain ⟨h1, h2⟩ := ckTys_ok G ht
  refine PE.imp (pe_callB (cr_instT G.g ts) g1 g2 boot_isinstance (pa_cons ha (pa_cons (pe_tup h1) pa_nil rfl) (star_cons hs)) (by decide) g3 (star_cons hs) (PlainEs.cons (e := .Tuple ys kk kp) rfl .nil).any) fun σ H Q q => ?_
  refine tE_mono (tEs_one (tE_prim q)) fun x H1 k => ⟨by rw [List.length_map, h2]; exact Nat.le_trans hl (by decide), fun p hp => ⟨x, p, rfl, upd_same, rP_alloc k hp⟩⟩
/-! ### methods of lists -/
theorem tE_meth {p : Pr} {o : E} {es : List E} {σ : L2.St} {H : Hp} {Q : VK} (h : tE ws cf W n (.meth p o es) σ H Q) : tE ws cf W n o σ H fun x H1 => tyV ws.K "list" x H1 ∧ tEs ws cf W n es σ H1 fun vs H2 => rP ws p (x :: vs) H2 Q := by
  obtain ⟨ρ, st, m, hρ, r, hl, h⟩ := h
  unfold evE at h
  refine tE_bind hρ r hl h fun x st1 m1 H1 v _ s1 r1 hρ1 q1 h1 => ?_
  split at h1
  · rename_i hr
    obtain ⟨k, rfl⟩ : ∃ k, x = .lr k := by
      unfold rcv at hr
      split at hr <;> first | exact ⟨_, rfl⟩ | cases hr
    refine ⟨?_, ⟨ρ, st1, m1, hρ1, r1, hl, ?_⟩⟩
    · cases q1.1 with
      | lr e =>
        rename_i a
        have hk : k < st1.length := by
          rw [← r1.len]
          exact (List.getElem?_eq_some_iff.mp e).1
        refine .inl ⟨rfl, ?_⟩
        cases ho : st1[k] with
        | lst xs =>
          obtain ⟨vs, z, _⟩ := r1.obj k (.lst xs) a (by rw [List.getElem?_eq_getElem hk, ho]) e
          exact ⟨vs, SqL.of z⟩
    · refine Aft.bind (Aft.shift h1 s1 fun _ _ _ _ h => RD.back s1 h) fun ds st2 m2 H2 vs _ s2 r2 q2 h2 => ?_
      exact aft_prim s2 r2 (RA.cons ⟨q1.1, fr_of rfl⟩ s2 (fun _ h => h) q2) h2
  · exact h1.elim
theorem pe_meth0 {p : Pr} {o : Expr} {o' : E} {m : Str} {apos pos : Pos} (G : Gd ws cf cx X) (hm : mtN p = some m) (hl : (apos.endLine == pos.line) = true) (hc : noCall o = true) (ho : PE X o (tE ws cf W n o')) :
    PE X (.Call (.Attribute o m apos) [] [] pos) (tE ws cf W n (.meth p o' [])) := by
  have go : ∀ {m : Str} {id : String} {r : V → List V → Hp → VK → Prop}, Slot "list" m id → typeOf (.builtin id) = pure (.type "method_descriptor") → MtR X id r → (∀ x H Q, rP ws p [x] H Q → r x [] H Q) →
      PE X (.Call (.Attribute o m apos) [] [] pos) (tE ws cf W n (.meth p o' [])) := fun sl ty mt f =>
    PE.imp (pe_bm0 PySem.F.plainAttrs_list sl ty mt ho (attr_base hc _) hl) fun σ H Q q => tE_mono (tE_meth q) fun x H1 k => ⟨by rw [G.g.K]; exact k.1, f _ _ _ (tEs_nil k.2)⟩
  cases p
  case append => cases hm; exact go PySem.F.slot_list_append PySem.F.type_list_append mt_appendM fun x H Q k => k
  case pop0 => cases hm; exact go PySem.F.slot_list_pop PySem.F.type_list_pop mt_pop0 fun x H Q k => ⟨rfl, k⟩
  case pop1 =>
    cases hm
    exact go PySem.F.slot_list_pop PySem.F.type_list_pop (mt_pop0 (ws := ws)) fun x H Q k => by
      obtain ⟨H0, m0, m, st, ds, d, st', s, r, a, e, k⟩ := k
      obtain ⟨a, rfl, ha⟩ := a.as.one
      simp only [semP, sem1] at e
      cases e
  all_goals cases hm
theorem pe_meth {p : Pr} {o e : Expr} {es : List Expr} {o' : E} {es' : List E} {m : Str} {apos pos : Pos} (G : Gd ws cf cx X) (hm : mtN p = some m) (hl : (apos.endLine == pos.line) = true) (hc : noCall o = true) (ho : PE X o (tE ws cf W n o')) (ha : PA X (e :: es) (tEs ws cf W n es')) (hs : PlainEs (e :: es)) (hn : (e :: es).length ≤ 10) :
    PE X (.Call (.Attribute o m apos) (e :: es) [] pos) (tE ws cf W n (.meth p o' es')) := by
  have hfew : ((backTo pos (starEach (e :: es) X.env)).all (fun x => !x.1) && (backToKw pos (keywordEach [] X.env)).all (fun x => x.1.isSome)
      && decide ((e :: es).length + ([] : List Keyword).length + (if ([] : List Keyword).isEmpty then 0 else 1) < 30)) = true := by
    rw [hs.all]
    simp only [Bool.true_and, Bool.and_eq_true]
    exact ⟨rfl, decide_eq_true (by simp only [List.length_nil, List.isEmpty_nil, if_true]; omega)⟩
  cases hs with
  | cons h1 h2 =>
    have go : ∀ {m : Str} {id : String} {r : V → List V → Hp → VK → Prop}, Slot "list" m id → typeOf (.builtin id) = pure (.type "method_descriptor") → MtR X id r → (∀ x xs H Q, rP ws p (x :: xs) H Q → r x xs H Q) →
        PE X (.Call (.Attribute o m apos) (e :: es) [] pos) (tE ws cf W n (.meth p o' es')) := fun sl ty mt f =>
      PE.imp (pe_bm PySem.F.plainAttrs_list sl ty mt ho ha (attr_base hc _) hfew hl (star_cons h1) h2.any) fun σ H Q q => tE_mono (tE_meth q) fun x H1 k => ⟨by rw [G.g.K]; exact k.1, by
        obtain ⟨ρ, st, m, hρ, r, hl, h⟩ := k.2
        exact ⟨ρ, st, m, hρ, r, hl, h.imp fun vs H' k => f _ _ _ _ k⟩⟩
    cases p
    case append => cases hm; exact go PySem.F.slot_list_append PySem.F.type_list_append mt_appendM fun x xs H Q k => k
    case pop0 =>
      cases hm
      exact go PySem.F.slot_list_pop PySem.F.type_list_pop mt_pop0 fun x xs H Q k => by
        obtain ⟨H0, m0, m, st, ds, d, st', s, r, a, e, k'⟩ := id k
        cases ds with
        | nil => cases e
        | cons a1 t =>
          cases t with
          | nil =>
            obtain ⟨a, b⟩ := a
            cases a with
            | cons _ t => cases t; exact ⟨rfl, k⟩
          | cons b t =>
            cases t with
            | nil => simp only [semP, sem2] at e; cases a1 <;> cases b <;> first | cases e | (simp only [semI] at e; cases e)
            | cons _ _ => cases e
    case pop1 =>
      cases hm
      exact go PySem.F.slot_list_pop PySem.F.type_list_pop mt_pop1 fun x xs H Q k => by
        obtain ⟨H0, m0, m, st, ds, d, st', s, r, a, e, k'⟩ := id k
        cases ds with
        | nil => cases e
        | cons a1 t =>
          cases t with
          | nil => simp only [semP, sem1] at e; cases e
          | cons b t =>
            cases t with
            | nil =>
              obtain ⟨a, b⟩ := a
              cases a with
              | cons _ t =>
                cases t with
                | cons _ t => cases t; exact ⟨_, rfl, k⟩
            | cons _ _ => cases e
    all_goals cases hm
end
end Mn
/-! Mn13: the check is sound: the walk over expressions. -/
namespace Mn
open PySem PySem.Spec PyProof.Rows L2
structure Snd (ws : Ws) (cf : Cf) (n : Nat) : Prop where
  e : ∀ {cx : Cc} {X : Cx} {W : WX} {e' : E} {e : Expr}, Gd ws cf cx X → Takes X W → ckE n cx e' e = true → PE X e (tE ws cf W cx.N.length e')
  es : ∀ {cx : Cc} {X : Cx} {W : WX} {es' : List E} {es : List Expr}, Gd ws cf cx X → Takes X W → ckEs n cx es' es = true → PA X es (tEs ws cf W cx.N.length es') ∧ PlainEs es ∧ es'.length = es.length
  cmp : ∀ {cx : Cc} {X : Cx} {W : WX} {e' : E} {e : Expr}, Gd ws cf cx X → Takes X W → ckCmp n cx e' e = true → PE X e (tE ws cf W cx.N.length e') ∧ PT X e (tT ws cf W cx.N.length e')
  and : ∀ {cx : Cc} {X : Cx} {W : WX} {a b : E} {vs : List Expr} {pos : Pos}, Gd ws cf cx X → Takes X W → ckAnd n cx a b vs = true → PE X (.BoolOp .And vs pos) (tE ws cf W cx.N.length (.and a b))
  or : ∀ {cx : Cc} {X : Cx} {W : WX} {a b : E} {vs : List Expr} {pos : Pos}, Gd ws cf cx X → Takes X W → ckOr n cx a b vs = true → PE X (.BoolOp .Or vs pos) (tE ws cf W cx.N.length (.or a b))
  t : ∀ {cx : Cc} {X : Cx} {W : WX} {e' : E} {e : Expr}, Gd ws cf cx X → Takes X W → ckT n cx e' e = true → PT X e (tT ws cf W cx.N.length e')
  andT : ∀ {cx : Cc} {X : Cx} {W : WX} {a b : E} {vs : List Expr} {pos : Pos}, Gd ws cf cx X → Takes X W → ckAndT n cx a b vs = true → PW X (.BoolOp .And vs pos) (tT ws cf W cx.N.length (.and a b))
  orT : ∀ {cx : Cc} {X : Cx} {W : WX} {a b : E} {vs : List Expr} {pos : Pos}, Gd ws cf cx X → Takes X W → ckOrT n cx a b vs = true → PW X (.BoolOp .Or vs pos) (tT ws cf W cx.N.length (.or a b))
  cs : ∀ {cx : Cc} {X : Cx} {cs' : List E} {cs : List Expr}, Gd ws cf cx X → Takes X W0 → ckCs n cx cs' cs = true → PTs X cs (tCs ws cf cx.N.length cs')
  tg : ∀ {cx : Cc} {X : Cx} {W : WX} {t' : Tg} {t : Expr}, Gd ws cf cx X → Takes X W → ckTg n cx t' t = true → PG X t (gT ws cf W cx.N.length t')
  tgs : ∀ {cx : Cc} {X : Cx} {W : WX} {ts' : List Tg} {ts : List Expr}, Gd ws cf cx X → Takes X W → ckTgs n cx ts' ts = true → PGs X ts (gTs ws cf W cx.N.length ts') ∧ PlainEs ts ∧ ts'.length = ts.length
  src : ∀ {cx : Cc} {X : Cx} {W : WX} {s' : Src} {t e : Expr}, Gd ws cf cx X → Takes X W → ckSrc n cx s' t e = true → PI X t e (iS ws cf W cx.N.length s')
section
variable {ws : Ws} {cf : Cf} {cx : Cc} {X : Cx} {W : WX} {n : Nat}
theorem PG.imp' {X : Cx} {e : Expr} {t u : TG} (h : PG X e t) (k : ∀ v σ H Q, u v σ H Q → t v σ H Q) : PG X e u := PG.imp h k
theorem PG.or {X : Cx} {e : Expr} {t u : TG} (h : PG X e t) (k : PG X e u) : PG X e (fun v σ H Q => t v σ H Q ∨ u v σ H Q) := ⟨fun pins s σ H v w Q I r q => by
  rcases q with q | q
  · exact h.run pins s σ H v w Q I r q
  · exact k.run pins s σ H v w Q I r q⟩
theorem PGs.imp {X : Cx} {e : List Expr} {t u : TGs} (h : PGs X e t) (k : ∀ v σ H Q, u v σ H Q → t v σ H Q) : PGs X e u := ⟨fun pins s σ H v w Q I r q => h.run pins s σ H v w Q I r (k _ _ _ _ q)⟩
theorem PTs.imp {X : Cx} {e : List Expr} {t u : TT} (h : PTs X e t) (k : ∀ σ H Q, u σ H Q → t σ H Q) : PTs X e u := ⟨fun pins s σ H Q I q => h.run pins s σ H Q I (k _ _ _ q)⟩
theorem subL_ok {a b : List Nat} (h : subL a b = true) : ∀ i ∈ a, i ∈ b := fun i hi => by
  unfold subL at h
  have := List.all_eq_true.mp h i hi
  simpa using this
theorem ownOf_map (N : List Str) (own : List Nat) : (ownOf N own).map (·.2) = own := by
  unfold ownOf
  rw [List.map_map]
  exact List.map_id _
theorem snd_e (S : Snd ws cf n) {e' : E} {e : Expr} (G : Gd ws cf cx X) (tk : Takes X W) (h : ckE (n + 1) cx e' e = true) : PE X e (tE ws cf W cx.N.length e') := by
  have hpx : X.N.Nodup := by rw [G.N]; exact G.nd
  cases e' with
  | var i =>
    simp only [ckE] at h
    split at h
    · obtain ⟨h1, h2, h3, h4⟩ := G.loc h
      exact PE.imp (pe_var h1 h2 h3 h4) fun σ H Q q => tE_var q
    · cases h
  | cst d =>
    simp only [ckE] at h
    split at h
    · obtain ⟨v, h1, h2, h3⟩ := ckC_ok (ws := ws) (X := X) h
      exact PE.imp h1 fun σ H Q q => tE_cst h2 h3 q
    · rename_i x _
      rw [Bool.and_eq_true] at h
      obtain ⟨g1, g2⟩ := G.glob h.1
      have hh := h.2
      split at hh
      · rename_i g
        obtain ⟨m1, _⟩ := G.fns g x (of_decide_eq_true hh)
        exact PE.imp (pe_glob g1 m1 (v := .ref (ws.fa g)) rfl g2) fun σ H Q q => tE_cst (fun _ _ => .fn g) rfl q
      · split at hh
        · rename_i d' e1
          have := beqD_ok hh
          subst this
          obtain ⟨u, v, m1, r, k1, k2⟩ := G.con x _ e1
          exact PE.imp (pe_glob g1 m1 r g2) fun σ H Q q => tE_cst k1 k2 q
        · cases hh
    · cases h
  | tupE es =>
    simp only [ckE] at h
    split at h
    · rw [Bool.and_eq_true] at h
      obtain ⟨h1, _⟩ := S.es G tk h.2
      exact PE.imp (pe_tup h1) fun σ H Q q => tE_tup (Nat.le_of_ble_eq_true h.1) q
    · cases h
  | lstE es =>
    simp only [ckE] at h
    split at h
    · rw [Bool.and_eq_true] at h
      obtain ⟨h1, _⟩ := S.es G tk h.2
      exact PE.imp (pe_lst h1) fun σ H Q q => tE_lst (Nat.le_of_ble_eq_true h.1) q
    · cases h
  | prim p es =>
    simp only [ckE] at h
    split at h
    · -- BinOp
      split at h
      · simp only [Bool.and_eq_true] at h
        obtain ⟨⟨h1, h2⟩, h3⟩ := h
        exact PE.imp (pe_op (binP_ok h1 G.g) (S.e G tk h2) (S.e G tk h3)) fun σ H Q q => tE_op q
      · cases h
    · exact (S.cmp G tk h).1
    · -- UnaryOp
      split at h
      · exact PE.imp (pe_un un_negM (S.e G tk h)) fun σ H Q q => tEs_one (tE_prim q)
      · cases h
    · -- Subscript
      split at h
      · split at h
        · exact PE.imp (pe_slice (sl_any G.g) (S.e G tk h) po_none po_none) fun σ H Q q => tE_sl00 q
        · rw [Bool.and_eq_true] at h
          exact PE.imp (pe_slice (sl_any G.g) (S.e G tk h.1) (po_some (S.e G tk h.2)) po_none) fun σ H Q q => tE_sl10 q
        · rw [Bool.and_eq_true] at h
          exact PE.imp (pe_slice (sl_any G.g) (S.e G tk h.1) po_none (po_some (S.e G tk h.2))) fun σ H Q q => tE_sl01 q
        · cases h
      · split at h
        · simp only [Bool.and_eq_true] at h
          obtain ⟨⟨h1, h2⟩, h3⟩ := h
          exact PE.imp (pe_ix (ix_any G.g) (S.e G tk h2) (S.e G tk h3) (plainIx h1)) fun σ H Q q => tE_op q
        · cases h
    · -- Call
      rw [Bool.and_eq_true] at h
      obtain ⟨hb, h⟩ := h
      split at h
      · split at h
        · simp only [Bool.and_eq_true] at h
          obtain ⟨⟨⟨h1, h2⟩, h3⟩, h4⟩ := h
          have h1 := of_decide_eq_true h1
          subst h1
          split at h4
          · rw [Bool.and_eq_true] at h4
            exact pe_instT G hb (S.e G tk h3) h2 h4.1 (Nat.le_of_ble_eq_true h4.2)
          · split at h4
            · exact pe_inst1 G hb (S.e G tk h3) h2 h4
            · cases h4
        · cases h
      · rw [Bool.and_eq_true] at h
        obtain ⟨h1, h2⟩ := h
        have h1 := of_decide_eq_true h1
        obtain ⟨h3, h4, h5⟩ := S.es G tk (W := W) h2
        cases h4 with
        | nil =>
          have : es = [] := List.eq_nil_of_length_eq_zero h5
          subst this
          refine PE.imp (t := fun _ _ _ => False) ⟨fun _ _ _ _ _ _ z => z.elim⟩ fun σ H Q q => ?_
          obtain ⟨ρ, st, m, hρ, r, hl, q⟩ := q
          unfold evE evEs at q
          exact q.elim
        | cons s1 s2 => exact pe_blN h1 G hb h3 (.cons s1 s2)
    · cases h
  | meth p o es =>
    simp only [ckE] at h
    split at h
    · rename_i ov m apos args pos
      simp only [Bool.and_eq_true] at h
      obtain ⟨⟨⟨⟨⟨h1, h2⟩, h3⟩, h4⟩, h5⟩, h6⟩ := h
      obtain ⟨k1, k2, k3⟩ := S.es G tk (W := W) h6
      cases args with
      | nil =>
        have : es = [] := List.eq_nil_of_length_eq_zero k3
        subst this
        exact pe_meth0 G (of_decide_eq_true h1) h2 h4 (S.e G tk h5)
      | cons a as => exact pe_meth G (of_decide_eq_true h1) h2 h4 (S.e G tk h5) k1 k2 (Nat.le_of_ble_eq_true h3)
    · cases h
  | and a b =>
    simp only [ckE] at h
    split at h
    · exact S.and G tk h
    · cases h
  | or a b =>
    simp only [ckE] at h
    split at h
    · exact S.or G tk h
    · cases h
  | not a =>
    simp only [ckE] at h
    split at h
    · exact PE.imp (pe_not (S.e G tk h)) fun σ H Q q => tE_not q
    · cases h
  | ite c a b =>
    simp only [ckE] at h
    split at h
    · simp only [Bool.and_eq_true] at h
      exact PE.imp (pe_ifExp (S.t G tk h.1.1) (S.e G tk h.1.2) (S.e G tk h.2)) fun σ H Q q => tE_ite q
    · cases h
  | chain p q a b c =>
    simp only [ckE] at h
    exact (S.cmp G tk h).1
  | sl3 a b c =>
    simp only [ckE] at h
    split at h
    · simp only [Bool.and_eq_true] at h
      exact PE.imp (pe_slice (sl_any G.g) (S.e G tk h.1.1) (po_some (S.e G tk h.1.2)) (po_some (S.e G tk h.2))) fun σ H Q q => tE_sl11 q
    · cases h
  | call g es =>
    simp only [ckE] at h
    split at h
    · rename_i x _ args pos
      simp only [Bool.and_eq_true] at h
      obtain ⟨⟨h1, h2⟩, h3⟩ := h
      obtain ⟨g1, g2⟩ := G.glob h1
      obtain ⟨m1, m2, k, fd, ps, F, R, B⟩ := G.fns g x (of_decide_eq_true h2)
      obtain ⟨k1, k2, k3⟩ := S.es G tk (W := W) h3
      cases args with
      | nil =>
        have : es = [] := List.eq_nil_of_length_eq_zero k3
        subst this
        refine ⟨fun pins s σ H Q I q => ?_⟩
        refine wpAny_Call_Name_kw (ld_glob I g1 m1 ?_ g2)
        exact PySem.W.callWith_K0 I.kIn m2 (run_fnS (us := []) (vs := []) F R B (passAt tk σ) I .nil (tEs_nil (tE_call q)))
      | cons a as =>
        cases k2 with
        | cons s1 s2 => exact PE.imp (pe_callS F R g1 m1 m2 B (passAt tk) k1 g2 (star_cons s1) s2.any) fun σ H Q q => tE_call q
    · cases h
  | callv i es =>
    simp only [ckE] at h
    split at h
    · rename_i x np args pos
      simp only [Bool.and_eq_true] at h
      obtain ⟨h1, h2⟩ := h
      obtain ⟨l1, l2, l3, l4⟩ := G.loc h1
      obtain ⟨k1, k2, k3⟩ := S.es G tk (W := W) h2
      refine ⟨fun pins s σ H Q I q => ?_⟩
      obtain ⟨g, hg, hs, ht⟩ := tE_callv q
      obtain ⟨y, hy⟩ := G.nf g hg
      obtain ⟨m1, m2, k, fd, ps, F, R, B⟩ := G.fns g y hy
      refine wpAny_Call_Name_kw (thn ((pe_var (pos := np) l1 l2 l3 l4).run pins s σ H (fun v H1 => v = .ref (ws.fa g) ∧ H1 = H) I ⟨.ref (ws.fa g), hs, rfl, rfl⟩) fun u s1 ⟨v, H1, I1, r1, q1⟩ => ?_)
      obtain ⟨rfl, rfl⟩ := q1
      cases r1
      cases args with
      | nil =>
        have : es = [] := List.eq_nil_of_length_eq_zero k3
        subst this
        exact PySem.W.callWith_K0 I1.kIn m2 (run_fnS (us := []) (vs := []) F R B (passAt tk σ) I1 .nil (tEs_nil ht))
      | cons a as =>
        cases k2 with
        | cons s1' s2' => exact PySem.W.callWith_K (h₀ := X.base) I.ok.mod.kin m2 (thn (k1.run pos pins s1 σ _ _ I1 ht) fun us s2 ⟨vs, H2, I2, r, q⟩ => ⟨I2.kIn, run_fnS F R B (passAt tk σ) I2 r q⟩) (star_cons s1') s2'.any
    · cases h
  | comp elt tg src cs own =>
    simp only [ckE] at h
    split at h
    · rename_i x t it ifs k scope pos
      simp only [Bool.and_eq_true] at h
      obtain ⟨⟨⟨⟨⟨⟨⟨h1, h2⟩, h3⟩, h4⟩, h5⟩, h6⟩, h7⟩, h8⟩ := h
      have h1 := of_decide_eq_true h1
      subst h1
      have ok : BlkOk X.N X.env.scope scope (ownOf cx.N own) := by rw [G.N, G.sc]; exact blkOk_by h2
      have G' := fun s H C cl fp => G.blk s H scope C cl fp ok.kind
      refine PE.imp (pe_lc (own := ownOf cx.N own) G.g.calm hpx (S.src G tk h5) ok (fun s H C cl fp => S.tg (G' s H C cl fp) takes0 h6) (fun s H C cl fp => S.cs (G' s H C cl fp) takes0 h7) (fun s H C cl fp => S.e (G' s H C cl fp) takes0 h8) (fold_set h4)) fun σ H Q q => ?_
      rw [ownOf_map]
      exact tE_comp (subL_ok h3) q
    · cases h
  | comp2 elt tg src cs tg1 src1 cs1 own own1 =>
    simp only [ckE] at h
    split at h
    · rename_i x t it ifs k t1 it1 ifs1 k1 scope pos
      simp only [Bool.and_eq_true] at h
      obtain ⟨⟨⟨⟨⟨⟨⟨⟨⟨⟨⟨⟨⟨⟨h1, h1'⟩, h2⟩, h3⟩, h3'⟩, h3''⟩, h4⟩, h4'⟩, h5⟩, h6⟩, h7⟩, h5'⟩, h6'⟩, h7'⟩, h8⟩ := h
      have h1 := of_decide_eq_true h1
      have h1' := of_decide_eq_true h1'
      subst h1
      subst h1'
      have ok : BlkOk X.N X.env.scope scope (ownOf cx.N own) := by rw [G.N, G.sc]; exact blkOk_by h2
      have G' := fun s H C cl fp => G.blk s H scope C cl fp ok.kind
      refine PE.imp (pe_lc2 (own := ownOf cx.N own) (vs1 := own1) G.g.calm hpx (S.src G tk h5) ok (by rw [ownOf_map]; exact subL_ok h3'') (fun s H C cl fp => S.tg (G' s H C cl fp) takes0 h6) (fun s H C cl fp => S.cs (G' s H C cl fp) takes0 h7)
        (fun s H C cl fp => S.src (G' s H C cl fp) takes0 h5') (fun s H C cl fp => S.tg (G' s H C cl fp) takes0 h6') (fun s H C cl fp => S.cs (G' s H C cl fp) takes0 h7') (fun s H C cl fp => S.e (G' s H C cl fp) takes0 h8) (fold_set h4) (fun env => fold_set h4')) fun σ H Q q => ?_
      rw [ownOf_map]
      exact tE_comp2 (subL_ok h3) (subL_ok h3') (subL_ok h3'') q
    · cases h
end
end Mn
/-! Mn14: the check is sound: all of expressions. -/
namespace Mn
open PySem PySem.Spec PyProof.Rows L2
section
variable {ws : Ws} {cf : Cf} {cx : Cc} {X : Cx} {W : WX} {n : Nat}
theorem snd_es (S : Snd ws cf n) {es' : List E} {es : List Expr} (G : Gd ws cf cx X) (tk : Takes X W) (h : ckEs (n + 1) cx es' es = true) : PA X es (tEs ws cf W cx.N.length es') ∧ PlainEs es ∧ es'.length = es.length := by
  simp only [ckEs] at h
  split at h
  · exact ⟨⟨fun pos pins s σ H Q I q => pa_nil.run pos pins s σ H Q I (tEs_nil q)⟩, .nil, rfl⟩
  · simp only [Bool.and_eq_true] at h
    obtain ⟨⟨h1, h2⟩, h3⟩ := h
    obtain ⟨k1, k2, k3⟩ := S.es G tk (W := W) h3
    exact ⟨PA.imp (pa_cons (S.e G tk h2) k1 (star_cons h1)) fun σ H Q q => tEs_cons q, .cons h1 k2, by rw [List.length_cons, List.length_cons, k3]⟩
  · cases h
theorem snd_cmp (S : Snd ws cf n) {e' : E} {e : Expr} (G : Gd ws cf cx X) (tk : Takes X W) (h : ckCmp (n + 1) cx e' e = true) : PE X e (tE ws cf W cx.N.length e') ∧ PT X e (tT ws cf W cx.N.length e') := by
  simp only [ckCmp] at h
  split at h
  · split at h
    · simp only [Bool.and_eq_true] at h
      obtain ⟨⟨⟨h1, h2⟩, h3⟩, h4⟩ := h
      exact ⟨PE.imp (pe_cmpR (cmpP_ok h1 G.g) (S.e G tk h3) (S.e G tk h4) (nomarkS h2)) fun σ H Q q => tE_op q, PT.imp (pt_cmpR (cmpP_ok h1 G.g) (S.e G tk h3) (S.e G tk h4) (nomarkS h2)) fun σ H Q q => tE_op (tT_val q)⟩
    · cases h
  · split at h
    · simp only [Bool.and_eq_true] at h
      obtain ⟨⟨⟨⟨⟨⟨h1, h2⟩, h3⟩, h4⟩, h5⟩, h6⟩, h7⟩ := h
      rename_i p q a' b' c' _ a o o1 b c pos
      have hm : lastMarks [o, o1] [b, c] = false := nomarkS h4
      exact ⟨PE.imp (pe_chain (cmpP_ok h2 G.g) (cmpP_ok h3 G.g) (S.e G tk h5) (S.e G tk h6) (S.e G tk h7) hm) fun σ H Q q => tE_chain h1 q, PT.imp (pt_chain (cmpP_ok h2 G.g) (cmpP_ok h3 G.g) (S.e G tk h5) (S.e G tk h6) (S.e G tk h7) hm) fun σ H Q q => tE_chain h1 (tT_val q)⟩
    · cases h
  · cases h
theorem snd_and (S : Snd ws cf n) {a b : E} {vs : List Expr} {pos : Pos} (G : Gd ws cf cx X) (tk : Takes X W) (h : ckAnd (n + 1) cx a b vs = true) : PE X (.BoolOp .And vs pos) (tE ws cf W cx.N.length (.and a b)) := by
  simp only [ckAnd] at h
  split at h
  · rw [Bool.and_eq_true] at h
    exact PE.imp (pe_and (S.e G tk h.1) (pe_one (S.e G tk h.2))) fun σ H Q q => tE_and q
  · rw [Bool.and_eq_true] at h
    obtain ⟨h1, h2⟩ := h
    split at h2
    · exact PE.imp (pe_and (S.e G tk h1) (S.and G tk h2)) fun σ H Q q => tE_and q
    · cases h2
  · cases h
theorem snd_or (S : Snd ws cf n) {a b : E} {vs : List Expr} {pos : Pos} (G : Gd ws cf cx X) (tk : Takes X W) (h : ckOr (n + 1) cx a b vs = true) : PE X (.BoolOp .Or vs pos) (tE ws cf W cx.N.length (.or a b)) := by
  simp only [ckOr] at h
  split at h
  · rw [Bool.and_eq_true] at h
    exact PE.imp (pe_or (S.e G tk h.1) (pe_one (S.e G tk h.2))) fun σ H Q q => tE_or q
  · rw [Bool.and_eq_true] at h
    obtain ⟨h1, h2⟩ := h
    split at h2
    · exact PE.imp (pe_or (S.e G tk h1) (S.or G tk h2)) fun σ H Q q => tE_or q
    · cases h2
  · cases h
theorem snd_andT (S : Snd ws cf n) {a b : E} {vs : List Expr} {pos : Pos} (G : Gd ws cf cx X) (tk : Takes X W) (h : ckAndT (n + 1) cx a b vs = true) : PW X (.BoolOp .And vs pos) (tT ws cf W cx.N.length (.and a b)) := by
  simp only [ckAndT] at h
  split at h
  · rw [Bool.and_eq_true] at h
    exact PW.imp (pw_and (S.t G tk h.1) (pw_and1 (S.t G tk h.2))) fun σ H Q q => tT_and q
  · rw [Bool.and_eq_true] at h
    obtain ⟨h1, h2⟩ := h
    split at h2
    · exact PW.imp (pw_and (S.t G tk h1) (S.andT G tk h2)) fun σ H Q q => tT_and q
    · cases h2
  · cases h
theorem snd_orT (S : Snd ws cf n) {a b : E} {vs : List Expr} {pos : Pos} (G : Gd ws cf cx X) (tk : Takes X W) (h : ckOrT (n + 1) cx a b vs = true) : PW X (.BoolOp .Or vs pos) (tT ws cf W cx.N.length (.or a b)) := by
  simp only [ckOrT] at h
  split at h
  · rw [Bool.and_eq_true] at h
    exact PW.imp (pw_or (S.t G tk h.1) (pw_or1 (S.t G tk h.2))) fun σ H Q q => tT_or q
  · rw [Bool.and_eq_true] at h
    obtain ⟨h1, h2⟩ := h
    split at h2
    · exact PW.imp (pw_or (S.t G tk h1) (S.orT G tk h2)) fun σ H Q q => tT_or q
    · cases h2
  · cases h
theorem snd_t (S : Snd ws cf n) {e' : E} {e : Expr} (G : Gd ws cf cx X) (tk : Takes X W) (h : ckT (n + 1) cx e' e = true) : PT X e (tT ws cf W cx.N.length e') := by
  simp only [ckT] at h
  split at h
  · exact (S.cmp G tk h).2
  · split at h
    · exact PT.imp (pt_not (S.t G tk h)) fun σ H Q q => tT_not q
    · cases h
  · split at h
    · exact (S.andT G tk h).pt
    · cases h
  · split at h
    · exact (S.orT G tk h).pt
    · cases h
  · rw [Bool.and_eq_true] at h
    exact PT.imp (pt_val (S.e G tk h.2) (plain_test h.1)) fun σ H Q q => tT_val q
theorem snd_cs (S : Snd ws cf n) {cs' : List E} {cs : List Expr} (G : Gd ws cf cx X) (tk : Takes X W0) (h : ckCs (n + 1) cx cs' cs = true) : PTs X cs (tCs ws cf cx.N.length cs') := by
  simp only [ckCs] at h
  split at h
  · refine PTs.imp pts_nil fun σ H Q q => ?_
    obtain ⟨ρ, st, m, hρ, r, hl, q⟩ := q
    unfold evCs at q
    exact q m H true (Step.refl _ _) r rfl
  · refine PTs.imp (pts_one (S.t G tk h)) fun σ H Q q => ?_
    obtain ⟨ρ, st, m, hρ, r, hl, q⟩ := q
    unfold evCs at q
    exact ⟨ρ, st, m, hρ, r, hl, q⟩
  · cases h
theorem snd_tg (S : Snd ws cf n) {t' : Tg} {t : Expr} (G : Gd ws cf cx X) (tk : Takes X W) (h : ckTg (n + 1) cx t' t = true) : PG X t (gT ws cf W cx.N.length t') := by
  simp only [ckTg] at h
  split at h
  · split at h
    · obtain ⟨h1, h2, h3⟩ := G.sto h
      exact PG.imp (pg_name (by rw [G.N]; exact G.nd) h1 h2 h3) fun v σ H Q q => gT_nm q
    · cases h
  · split at h
    · obtain ⟨k1, k2, k3⟩ := S.tgs G tk (W := W) h
      refine PG.imp (PG.or (pg_tup G.g.calm k1 (by rw [asg_len, ← k3]) k2.find) (pg_lst G.g.calm k1 (by rw [asg_len, ← k3]) k2.find)) fun v σ H Q q => ?_
      rw [G.g.K]
      exact gT_tp q
    · cases h
  · split at h
    · simp only [Bool.and_eq_true] at h
      obtain ⟨⟨h1, h2⟩, h3⟩ := h
      exact PG.imp (pg_sub (S.e G tk h2) (S.e G tk h3) set_any (asg_sub h1)) fun v σ H Q q => gT_sb q
    · cases h
theorem snd_tgs (S : Snd ws cf n) {ts' : List Tg} {ts : List Expr} (G : Gd ws cf cx X) (tk : Takes X W) (h : ckTgs (n + 1) cx ts' ts = true) : PGs X ts (gTs ws cf W cx.N.length ts') ∧ PlainEs ts ∧ ts'.length = ts.length := by
  simp only [ckTgs] at h
  split at h
  · exact ⟨PGs.imp pgs_nil fun v σ H Q q => gTs_nil q, .nil, rfl⟩
  · simp only [Bool.and_eq_true] at h
    obtain ⟨⟨h1, h2⟩, h3⟩ := h
    obtain ⟨k1, k2, k3⟩ := S.tgs G tk (W := W) h3
    refine ⟨PGs.imp (pgs_cons (S.tg G tk h2) k1 ?_) fun v σ H Q q => gTs_cons q, .cons h1 k2, by rw [List.length_cons, List.length_cons, k3]⟩
    rw [asg_cons h1]
    rfl
  · cases h
theorem snd_src (S : Snd ws cf n) {s' : Src} {t e : Expr} (G : Gd ws cf cx X) (tk : Takes X W) (h : ckSrc (n + 1) cx s' t e = true) : PI X t e (iS ws cf W cx.N.length s') := by
  simp only [ckSrc] at h
  split at h
  · exact iS_ex G.g.K (S.e G tk h)
  · split at h
    · rename_i es _ x np args pos
      simp only [Bool.and_eq_true] at h
      obtain ⟨⟨⟨⟨h1, h2⟩, h3⟩, h4⟩, h5⟩ := h
      have h1 := of_decide_eq_true h1
      subst h1
      obtain ⟨g1, g2, g3⟩ := G.blt h2
      obtain ⟨k1, k2, k3⟩ := S.es G tk (W := W) h5
      match args, es, k1, k2, k3, h3, h4 with
      | [a], [a'], k1, .cons s1 .nil, _, _, _ => exact iS_rng1 g1 g2 k1 (star_cons s1)
      | [a, b], [a', b'], k1, .cons s1 (.cons s2 .nil), _, _, _ => exact iS_rng2 g1 g2 k1 (by rw [star_cons s1, star_cons s2]; rfl) (star_cons s2)
      | [a, b, c], [a', b', c'], k1, .cons s1 s2, _, _, _ => exact iS_rng3 g1 g2 k1 (star_cons s1) s2.any
      | _ :: _ :: _ :: _ :: _, _, _, _, _, _, h4 => simp [Nat.ble] at h4
    · cases h
  · split at h
    · simp only [Bool.and_eq_true] at h
      obtain ⟨⟨h1, h2⟩, h3⟩ := h
      have h1 := of_decide_eq_true h1
      subst h1
      obtain ⟨g1, g2, g3⟩ := G.blt h2
      obtain ⟨k1, k2, k3⟩ := S.es G tk (W := W) h3
      cases k2 with
      | cons s1 s2 => exact iS_enu G.g.K g1 g2 k1 (star_cons s1)
    · cases h
  · split at h
    · simp only [Bool.and_eq_true] at h
      obtain ⟨⟨h1, h2⟩, h3⟩ := h
      have h1 := of_decide_eq_true h1
      subst h1
      obtain ⟨g1, g2, g3⟩ := G.blt h2
      obtain ⟨k1, k2, k3⟩ := S.es G tk (W := W) h3
      cases k2 with
      | cons s1 s2 => exact iS_zip G.g.K g1 g2 k1 (star_cons s1) s2.any
    · cases h
end
theorem snd (ws : Ws) (cf : Cf) : ∀ n, Snd ws cf n
  | 0 => ⟨fun _ _ h => (by simp [ckE] at h), fun _ _ h => (by simp [ckEs] at h), fun _ _ h => (by simp [ckCmp] at h), fun _ _ h => (by simp [ckAnd] at h), fun _ _ h => (by simp [ckOr] at h), fun _ _ h => (by simp [ckT] at h), fun _ _ h => (by simp [ckAndT] at h),
      fun _ _ h => (by simp [ckOrT] at h), fun _ _ h => (by simp [ckCs] at h), fun _ _ h => (by simp [ckTg] at h), fun _ _ h => (by simp [ckTgs] at h), fun _ _ h => (by simp [ckSrc] at h)⟩
  | n + 1 =>
    have S := snd ws cf n
    ⟨snd_e S, snd_es S, snd_cmp S, snd_and S, snd_or S, snd_t S, snd_andT S, snd_orT S, snd_cs S, snd_tg S, snd_tgs S, snd_src S⟩
end Mn
/-! Mn15: the check is sound: statements. -/
namespace Mn
open PySem PySem.Spec PyProof.Rows L2
section
variable {ws : Ws} {cf : Cf} {cx : Cc} {X : Cx} {W : WX} {n : Nat}
theorem Gd.kindF (G : Gd ws cf cx X) : X.env.blockKind = .function := by
  unfold Env.blockKind
  rw [G.sc, G.kd]
  rfl
theorem Gd.sw (G : Gd ws cf cx X) {elt : Expr} {gs : List Comprehension} {s : Scope} {p pos : Pos} {t : Str} {l : Nat} : swapsWith (.ListComp elt gs s p) (some (.Name t pos)) l X.env = pure (swB cx (.ListComp elt gs s p) (.Name t pos)) := by
  unfold swapsWith swB
  have h2 : X.env.kindOf t = cx.sc.names.lookup t := by show X.env.scope.names.lookup t = _; rw [G.sc]
  simp only [G.kindF, h2, G.kd]
  rfl
theorem Gd.swS (G : Gd ws cf cx X) {ts vs : List Expr} {k k2 : Nat} {p p2 : Pos} {r : Option (List Str)} (h : Mn.swS cx.sc ts vs = some r) : swappedStores [.Tuple ts k p] (.Tuple vs k2 p2) X.env = pure r := by
  have hb : X.env.blockKind = bkS cx.sc := by unfold Env.blockKind bkS; rw [G.sc]
  have hn : ∀ t, X.env.kindOf t = cx.sc.names.lookup t := fun t => by show X.env.scope.names.lookup t = _; rw [G.sc]
  unfold swappedStores
  unfold Mn.swS at h
  simp only [hb, hn]
  split at h
  · rename_i h1
    cases h
    exact if_pos h1
  · rename_i h1
    refine (if_neg h1).trans ?_
    split at h
    · rename_i h2
      cases h
      exact if_pos h2
    · rename_i h2
      refine (if_neg h2).trans ?_
      dsimp only at h
      split at h
      · rename_i h3
        cases h
        exact if_pos h3
      · rename_i h3
        refine (if_neg h3).trans ?_
        split at h
        · rename_i h4
          cases h
          exact if_pos h4
        · rename_i h4
          refine (if_neg h4).trans ?_
          split at h
          · cases h
          · rename_i h5
            cases h
            exact if_neg h5
/-- name = [..] on one line -/
theorem snd_lcS {e' : E} {elt : Expr} {gs : List Comprehension} {scope : Scope} {lp np sp : Pos} {y : Str} {i : Nat} (G : Gd ws cf cx X) (tk : Takes X W) (hi : X.N[i]? = some y) (hl : X.env.scope.names.lookup y = some .local)
    (hsw : swB cx (.ListComp elt gs scope lp) (.Name y np) = true) (h : ckE n cx e' (.ListComp elt gs scope lp) = true) :
    PS X (.Assign [.Name y np] (.ListComp elt gs scope lp) sp) (tAsg (tE ws cf W cx.N.length e') (gName i)) := by
  have hpx : X.N.Nodup := by rw [G.N]; exact G.nd
  have hw : swapsWith (.ListComp elt gs scope lp) (some (.Name y np)) sp.line X.env = pure true := by rw [G.sw, hsw]
  cases n with
  | zero => simp [ckE] at h
  | succ n =>
  have S := snd ws cf n
  cases e' with
  | comp elt' tg src cs own =>
    simp only [ckE] at h
    split at h
    · rename_i x t it ifs k scope pos heq
      cases heq
      simp only [Bool.and_eq_true] at h
      obtain ⟨⟨⟨⟨⟨⟨⟨h1, h2⟩, h3⟩, h4⟩, h5⟩, h6⟩, h7⟩, h8⟩ := h
      have h1 := of_decide_eq_true h1
      subst h1
      have ok : BlkOk X.N X.env.scope scope (ownOf cx.N own) := by rw [G.N, G.sc]; exact blkOk_by h2
      have G' := fun s H C cl fp => G.blk s H scope C cl fp ok.kind
      refine PS.imp (ps_setLc (own := ownOf cx.N own) G.g.calm hpx hi hl hw (S.src (W := W) G tk h5) ok (fun s H C cl fp => S.tg (G' s H C cl fp) takes0 h6) (fun s H C cl fp => S.cs (G' s H C cl fp) takes0 h7) (fun s H C cl fp => S.e (G' s H C cl fp) takes0 h8) (fold_set h4)) fun De σ H q => ?_
      rw [ownOf_map]
      exact tE_comp (subL_ok h3) q
    · cases h
  | comp2 elt' tg src cs tg1 src1 cs1 own own1 =>
    simp only [ckE] at h
    split at h
    · rename_i x t it ifs k t1 it1 ifs1 k1 scope pos heq
      cases heq
      simp only [Bool.and_eq_true] at h
      obtain ⟨⟨⟨⟨⟨⟨⟨⟨⟨⟨⟨⟨⟨⟨h1, h1'⟩, h2⟩, h3⟩, h3'⟩, h3''⟩, h4⟩, h4'⟩, h5⟩, h6⟩, h7⟩, h5'⟩, h6'⟩, h7'⟩, h8⟩ := h
      have h1 := of_decide_eq_true h1
      have h1' := of_decide_eq_true h1'
      subst h1
      subst h1'
      have ok : BlkOk X.N X.env.scope scope (ownOf cx.N own) := by rw [G.N, G.sc]; exact blkOk_by h2
      have G' := fun s H C cl fp => G.blk s H scope C cl fp ok.kind
      refine PS.imp (ps_setLc2 (own := ownOf cx.N own) (vs1 := own1) G.g.calm hpx hi hl hw (S.src (W := W) G tk h5) ok (by rw [ownOf_map]; exact subL_ok h3'') (fun s H C cl fp => S.tg (G' s H C cl fp) takes0 h6) (fun s H C cl fp => S.cs (G' s H C cl fp) takes0 h7)
        (fun s H C cl fp => S.src (G' s H C cl fp) takes0 h5') (fun s H C cl fp => S.tg (G' s H C cl fp) takes0 h6') (fun s H C cl fp => S.cs (G' s H C cl fp) takes0 h7') (fun s H C cl fp => S.e (G' s H C cl fp) takes0 h8) (fold_set h4) (fun env => fold_set h4')) fun De σ H q => ?_
      rw [ownOf_map]
      exact tE_comp2 (subL_ok h3) (subL_ok h3') (subL_ok h3'') q
    · cases h
  | prim p es => simp [ckE] at h
  | var i => simp [ckE] at h
  | cst d => simp [ckE] at h
  | tupE es => simp [ckE] at h
  | lstE es => simp [ckE] at h
  | meth p o es => simp [ckE] at h
  | and a b => simp [ckE] at h
  | or a b => simp [ckE] at h
  | not a => simp [ckE] at h
  | ite a b c => simp [ckE] at h
  | chain p q a b c =>
    simp only [ckE] at h
    cases n <;> simp [ckCmp] at h
  | sl3 a b c => simp [ckE] at h
  | call g es => simp [ckE] at h
  | callv i es => simp [ckE] at h
/-! ### suites of except clauses -/
variable {a : Addr} {oe : Obj} {pn : List (Addr × Obj)} {cls : Value} {dx : Option Addr}
variable (ws) in
def oT (C : Addr) (c : Nat) (nm : Option Nat) (o : Option D) (a : Addr) (cls : Value) (dx : Option Addr) : TE := fun σ H Q => ∃ m p d, cls = .ref C ∧ ExV ws m H c p cls dx ∧ suD p o = some d ∧ (∀ i, nm = some i → i < σ.length → σ[i]? = some (some (.ref a))) ∧ ∀ v, DV ws m H d v → notl d = true → Q v H
variable (ws) in
def osT (C : Addr) (c : Nat) (nm : Option Nat) (os : List (Option D)) (a : Addr) (cls : Value) (dx : Option Addr) : TA := fun σ H Q => ∃ m p ds, cls = .ref C ∧ ExV ws m H c p cls dx ∧ mapO (suD p) os = some ds ∧ (∀ i, nm = some i → i < σ.length → σ[i]? = some (some (.ref a))) ∧ ∀ vs, DVs ws m H ds vs → Q vs H
def slotN (N : List Str) : Option Str → Option Nat := Option.map fun y => N.idxOf y
theorem pe_o (E : EcOk ws) (G : Gd ws cf cx X) {C : Addr} {c : Nat} {nm an : Option Str} {o : Option D} {e : Expr} (hc : ws.ec c = some (C, an)) (hs : slotB cx nm = true) (hz : Zc cls dx oe) (hf : ∃ vs, oe.data = .fields vs) (h : ckO cx nm an o e = true) :
    PE (X.suite a ((a, oe) :: pn)) e (oT ws C c (slotN cx.N nm) o a cls dx) := by
  unfold ckO at h
  split at h
  · rename_i d cn j pos
    obtain ⟨v, h1, h2, h3⟩ := ckC_ok (ws := ws) (X := X.suite a ((a, oe) :: pn)) (j := j) (pos := pos) h
    refine PE.imp h1 fun σ H Q q => ?_
    obtain ⟨m, p, d', _, _, e1, _, k⟩ := q
    have e1 : some d = some d' := e1
    cases e1
    exact k v (h2 m H) h3
  · rename_i y yp f fp
    simp only [Bool.and_eq_true, decide_eq_true_eq, Bool.not_eq_true'] at h
    obtain ⟨⟨⟨h1, h2⟩, h3⟩, h4⟩ := h
    subst h1
    subst h2
    unfold slotB at hs
    simp only [Bool.and_eq_true] at hs
    have hm : y ∈ cx.N := by simpa using hs.1
    have hlt : cx.N.idxOf y < cx.N.length := List.idxOf_lt_length_of_mem hm
    have hi : cx.N[cx.N.idxOf y]? = some y := by
      rw [List.getElem?_eq_getElem hlt]
      simp
    have hl : cx.sc.names.lookup y = some .local := by simpa using hs.2
    obtain ⟨T, hno⟩ := E.fld c C f hc
    have T' : XfC X.K C := by rw [G.g.K]; exact T
    have he : PE (X.suite a ((a, oe) :: pn)) (.Name y yp) (tVar (cx.N.idxOf y)) := pe_var (X := X.suite a ((a, oe) :: pn)) (by show X.N[_]? = _; rw [G.N]; exact hi) (.inl (by show X.env.scope.names.lookup y = _; rw [G.sc]; exact hl)) h3 h4
    have main := pe_xf (X := X) (pos := fp) T' (by rw [G.g.K]; exact hno) hz hf he (attr_base rfl _)
    refine ⟨fun pins s σ H Q I q => main.run pins s σ H Q I ?_⟩
    obtain ⟨m, p, d', e0, ev, e1, sl, k⟩ := q
    have hlen : cx.N.idxOf y < σ.length := by
      have := I.len
      rw [this]
      show _ < X.N.length
      rw [G.N]
      exact hlt
    refine ⟨.ref a, sl _ rfl hlen, rfl, e0, ?_⟩
    obtain ⟨C', an', e2, e3, e4⟩ := ev
    rw [hc] at e2
    cases e2
    obtain ⟨dd, v, pd, rfl, rfl, e5, e6, e7⟩ := e4
    have e1 : some pd = some d' := e1
    cases e1
    exact ⟨dd, [(f, v)], v, rfl, e5, by simp [List.lookup], k v e6 e7⟩
  · cases h
theorem pa_os (E : EcOk ws) (G : Gd ws cf cx X) {C : Addr} {c : Nat} {nm an : Option Str} (hc : ws.ec c = some (C, an)) (hs : slotB cx nm = true) (hz : Zc cls dx oe) (hf : ∃ vs, oe.data = .fields vs) : ∀ {os : List (Option D)} {es : List Expr}, ckOs cx nm an os es = true →
    PA (X.suite a ((a, oe) :: pn)) es (osT ws C c (slotN cx.N nm) os a cls dx) ∧ os.length = es.length
  | [], [], _ => ⟨PA.imp pa_nil fun σ H Q q => by
      obtain ⟨m, p, ds, _, _, e1, _, k⟩ := q
      cases e1
      exact k [] .nil, rfl⟩
  | o :: os, e :: es, h => by
    have h' : (noStar e = true ∧ ckO cx nm an o e = true) ∧ ckOs cx nm an os es = true := by simpa [ckOs, and_assoc] using h
    obtain ⟨h1, h2⟩ := pa_os E G hc hs hz hf h'.2
    refine ⟨PA.imp (pa_cons (pe_o E G hc hs hz hf h'.1.2) h1 (star_cons h'.1.1)) fun σ H Q q => ?_, by rw [List.length_cons, List.length_cons, h2]⟩
    obtain ⟨m, p, ds, e0, ev, e1, sl, k⟩ := q
    unfold mapO at e1
    split at e1
    · rename_i d ds' e2 e3
      cases e1
      exact ⟨m, p, d, e0, ev, e2, sl, fun v hv nv => ⟨m, p, ds', e0, ev, e3, sl, fun vs hvs => k (v :: vs) (.cons hv nv hvs)⟩⟩
    · cases e1
theorem mapO_len {α β : Type} {f : α → Option β} : ∀ {xs : List α} {ys : List β}, mapO f xs = some ys → ys.length = xs.length
  | [], ys, e => by cases e; rfl
  | x :: xs, ys, e => by
    unfold mapO at e
    split at e
    · rename_i e2
      cases e
      rw [List.length_cons, List.length_cons, mapO_len e2]
    · cases e
/-- one clause's suite -/
theorem pss_su (E : EcOk ws) (G : Gd ws cf cx X) {C : Addr} {c : Nat} {nm an : Option Str} {su : Su} {e : Expr} {pos : Pos} (hc : ws.ec c = some (C, an)) (hs : slotB cx nm = true) (hz : Zc cls dx oe) (hf : ∃ vs, oe.data = .fields vs)
    (h : (match su with
      | .one o => ckO cx nm an o e
      | .tup os => (match e with
        | .Tuple es _ _ => Nat.ble os.length 1000 && ckOs cx nm an os es
        | _ => false)) = true) :
    PSs (X.suite a ((a, oe) :: pn)) [.Return (some e) pos] (fun De σ H => cls = .ref C ∧ tSu ws c (slotN cx.N nm) su a cls dx De σ H) := by
  cases su with
  | one o =>
    refine PSs.imp (pss_one (ps_ret (pe_o E G hc hs hz hf h))) fun De σ H q => ?_
    obtain ⟨e0, m, st, p, d, r, ev, e1, sl, k⟩ := q
    exact ⟨m, p, d, e0, ev, e1, sl, fun v hv nv => k m H v (Step.refl _ _) r ⟨hv, fr_of nv⟩⟩
  | tup os =>
    dsimp only at h
    split at h
    · rw [Bool.and_eq_true] at h
      obtain ⟨h1, h2⟩ := pa_os (a := a) (pn := pn) E G hc hs hz hf h.2
      refine PSs.imp (pss_one (ps_ret (pe_tup h1))) fun De σ H q => ?_
      obtain ⟨e0, m, st, p, d, r, ev, e1, sl, k⟩ := q
      cases e2 : mapO (suD p) os with
      | none =>
        simp [suRet, e2] at e1
      | some ds =>
        have e1 : some (D.tup ds) = some d := by simpa [suRet, e2] using e1
        cases e1
        refine ⟨m, p, ds, e0, ev, e2, sl, fun vs hvs => ⟨?_, fun q hq => k m _ _ (Step.alloc hq) (r.alloc hq) ⟨.tup (SqT.of upd_same) (hvs.mono (Step.alloc hq)), fr_of rfl⟩⟩⟩
        rw [← hvs.length, mapO_len e2]
        exact Nat.le_trans (Nat.le_of_ble_eq_true h.1) (by decide)
    · cases h
end
end Mn
/-! Mn16: the check is sound: statements, blocks. -/
namespace Mn
open PySem PySem.Spec PyProof.Rows L2
section
variable {ws : Ws} {cf : Cf} {cx : Cc} {X : Cx} {W : WX} {n : Nat}
theorem ckHs_ok (EO : EcOk ws) (G : Gd ws cf cx X) : ∀ {hs : List (Nat × Su)} {es : List ExceptHandler}, ckHs cx hs es = true →
    ∃ l : List Hd, l.map (fun h => (h.k, h.su)) = hs ∧ (∀ h ∈ l, ws.ec h.k = some (h.C, h.an)) ∧ (∀ h ∈ l, ∀ i, h.nm = some i → i < cx.N.length) ∧ ClsOk X es (l.map (Hd.cl ws))
  | [], [], _ => ⟨[], rfl, fun _ z => (by cases z), fun _ z => (by cases z), .nil⟩
  | (k, su) :: hs, e :: es, h => by
    have h' : ckH cx (k, su) e = true ∧ ckHs cx hs es = true := by simpa [ckHs] using h
    obtain ⟨l, l1, l2, l3, l4⟩ := ckHs_ok EO G h'.2
    have hh := h'.1
    unfold ckH at hh
    split at hh
    · rename_i x np nm ev rp pos'
      simp only [Bool.and_eq_true] at hh
      obtain ⟨⟨h1, h2⟩, h3⟩ := hh
      split at h3
      · rename_i k' an e1
        rw [Bool.and_eq_true] at h3
        obtain ⟨h4, h5⟩ := h3
        have h4 := of_decide_eq_true h4
        subst h4
        obtain ⟨C, c1, c2⟩ := G.cls x k' an e1
        obtain ⟨g1, g2⟩ := G.glob h1
        have nmx : Names X x (.ref C) := ⟨g1, g2, .inl c2⟩
        refine ⟨⟨k', C, an, slotN cx.N nm, su⟩ :: l, by rw [List.map_cons, l1], fun h hm => ?_, fun h hm => ?_, ?_⟩
        · rcases List.mem_cons.mp hm with rfl | hm
          · exact c1
          · exact l2 h hm
        · rcases List.mem_cons.mp hm with rfl | hm
          · intro i hi
            cases nm with
            | none => cases hi
            | some y =>
              cases hi
              unfold slotB at h2
              simp only [Bool.and_eq_true] at h2
              exact List.idxOf_lt_length_of_mem (by simpa using h2.1)
          · exact l3 h hm
        · rw [List.map_cons]
          cases nm with
          | none => exact .one nmx (fun a oe cls d pn hz hf => pss_su (pos := rp) (nm := none) EO G c1 h2 hz hf h5) l4
          | some y =>
            have h2' := h2
            unfold slotB at h2'
            simp only [Bool.and_eq_true] at h2'
            have hm : y ∈ cx.N := by simpa using h2'.1
            have hlt : cx.N.idxOf y < cx.N.length := List.idxOf_lt_length_of_mem hm
            exact .named (by rw [G.N]; exact G.nd) (by rw [G.N, List.getElem?_eq_getElem hlt]; simp) (by show X.env.scope.names.lookup y = _; rw [G.sc]; simpa using h2'.2) nmx
              (fun a oe cls d pn hz hf => pss_su (pos := rp) (nm := some y) EO G c1 h2 hz hf h5) l4
      · cases h3
    · cases hh
theorem tS_rse {c : Nat} {C : Addr} {σ : L2.St} {H : Hp} {De : Ends} (hc : ws.ec c = some (C, none)) (h : tS ws cf W n (.rse c []) De σ H) : W (.ref C) none σ H := by
  obtain ⟨ρ, st, m, hρ, r, hl, h⟩ := h
  unfold exS evEs at h
  exact h m H (.ref C) none σ (Step.refl _ _) r ⟨C, none, hc, rfl, rfl, rfl⟩ hl
theorem get_any (G : Gp ws X) : PGet X (rP2 ws .ix) := by
  intro pins s σ H x y v u Q I rx ry h
  obtain ⟨H0, m0, m, st, ds, d, st', s0, r, ra, e, k⟩ := h
  obtain ⟨a, b, rfl, ha, hb⟩ := ra.as.two
  simp only [semP, sem2] at e
  split at e
  · rename_i i
    cases hb
    obtain ⟨tk, rfl⟩ := ry
    split at e
    · rename_i xs hx
      split at e
      · rename_i c hc
        cases e
        obtain ⟨p, vs, rfl, q, t⟩ := seq_ok r ha hx
        obtain ⟨z, h1, h2, h3⟩ := atI_ok t hc
        cases rx
        have fin : ∀ {w : Value}, RelV z w → EP X pins σ Q w s := fun rw' => ⟨z, H, I, rw', end_sc s0 r h2 h3 k⟩
        obtain ⟨j, g1, g2, g3, g4, g5⟩ := atI_get h1
        have hn := line63
        rcases q with q | q
        · obtain ⟨its, rv, pl, hz⟩ := I.list (toL G.K q.1)
          obtain ⟨w, ew, rw'⟩ := rv.get g2
          have hl := rv.length
          by_cases h0 : 0 ≤ i
          · have hj : i.toNat = j := by
              rw [seqIndex_of h0 g5] at g1
              exact Option.some.inj g1
            exact wpAny_getItem_list pl.isList h0 (by omega) (by rw [hj]; simpa using ew) (fin rw')
          · have hj : (i + (its.toArray.size : Int)).toNat = j := by
              rw [seqIndex_neg (by omega) g4] at g1
              rw [List.size_toArray, ← hl]
              exact Option.some.inj g1
            exact wpAny_getItem_list_neg pl.isList (by omega) (by rw [List.size_toArray] <;> omega) (by omega) (by rw [hj]; simpa using ew) (fin rw')
        · obtain ⟨its, rv, pl, hz⟩ := I.tuple (toT G.K q.1)
          obtain ⟨w, ew, rw'⟩ := rv.get g2
          have hl := rv.length
          exact PyProof.Rows.getItem_tuple (j := j) pl (by omega) (by omega) (by rw [List.size_toArray, ← hl]; exact g1) (by simpa using ew) (fin rw')
      · cases e
    · cases e
  · cases e
structure SndS (ws : Ws) (cf : Cf) (n : Nat) : Prop where
  s : ∀ {cx : Cc} {X : Cx} {W : WX} {s' : S} {s : Stmt}, EcOk ws → Gd ws cf cx X → Takes X W → PassesOwn (model X.prog X.w) X.A X.env X.xe → X.stack = X.env :: X.outer → X.env.frame = some X.env.locals → ckS n cx s' s = true → PS X s (tS ws cf W cx.N.length s')
  ss : ∀ {cx : Cc} {X : Cx} {W : WX} {s' : List S} {s : List Stmt}, EcOk ws → Gd ws cf cx X → Takes X W → PassesOwn (model X.prog X.w) X.A X.env X.xe → X.stack = X.env :: X.outer → X.env.frame = some X.env.locals → ckSs n cx s' s = true → PSs X s (tSs ws cf W cx.N.length s')
theorem asg_one {t : Expr} {env : Env} (h : noStar t = true) : (assignEach [t] env).map (·.2) = [assign t env] := by rw [asg_cons h]; rfl
theorem sws_no {t e : Expr} {env : Env} (h : noTpl e = true) : swappedStores [t] e env = pure none := by
  cases e <;> first | (cases t <;> rfl) | cases h
theorem sws_noT {t e : Expr} {env : Env} (h : noTup t = true) : swappedStores [t] e env = pure none := by
  cases t <;> first | rfl | cases h
theorem snd_s (SS : SndS ws cf n) (EO : EcOk ws) {s' : S} {s : Stmt} (G : Gd ws cf cx X) (tk : Takes X W) (hp : PassesOwn (model X.prog X.w) X.A X.env X.xe) (hs : X.stack = X.env :: X.outer) (hf : X.env.frame = some X.env.locals) (h : ckS (n + 1) cx s' s = true) :
    PS X s (tS ws cf W cx.N.length s') := by
  have hpx : X.N.Nodup := by rw [G.N]; exact G.nd
  have S := snd ws cf n
  have asg : ∀ {t e : Expr} {t' : Tg} {e' : E} {pos : Pos}, noStar t = true → ckTg n cx t' t = true → ckE n cx e' e = true → swapsWithSole [t] e pos.line X.env = pure false → swappedStores [t] e X.env = pure none → PS X (.Assign [t] e pos) (tS ws cf W cx.N.length (.asg t' e')) :=
    fun h1 h2 h3 h4 h5 => PS.imp (ps_asg (S.e G tk h3) (S.tg (W := W) G tk h2) h4 h5 (asg_one h1)) fun De σ H q => tS_asg q
  cases s' with
  | ex e' =>
    simp only [ckS] at h
    split at h
    · rw [Bool.and_eq_true] at h
      exact PS.imp (ps_expr (S.e G tk h.2) (swaps_no h.1)) fun De σ H q => tS_ex q
    · cases h
  | ret e' =>
    simp only [ckS] at h
    split at h
    · exact PS.imp (ps_ret (S.e G tk h)) fun De σ H q => tS_ret q
    · cases h
  | ret0 =>
    simp only [ckS] at h
    split at h
    · exact PS.imp ps_retN fun De σ H q => tS_ret0 q
    · cases h
  | pas =>
    simp only [ckS] at h
    split at h
    · exact PS.imp ps_pass fun De σ H q => tS_pas q
    · cases h
  | brk =>
    simp only [ckS] at h
    split at h
    · exact PS.imp ps_break fun De σ H q => tS_brk q
    · cases h
  | cnt =>
    simp only [ckS] at h
    split at h
    · exact PS.imp ps_continue fun De σ H q => tS_cnt q
    · cases h
  | asg t' e' =>
    simp only [ckS] at h
    split at h
    · rename_i t e pos
      rw [Bool.and_eq_true] at h
      obtain ⟨hst, h⟩ := h
      split at h
      · -- a list comprehension
        rename_i elt gs sc lp
        split at h
        · rename_i x np i
          rw [Bool.and_eq_true] at h
          obtain ⟨h1, h2⟩ := h
          split at h1
          · rename_i hsw
            obtain ⟨k1, k2⟩ := G.locl h1
            refine PS.imp (snd_lcS (sp := pos) G tk k1 k2 hsw h2) fun De σ H q => ?_
            exact tE_mono (tS_asg q) fun v H1 k => gT_nm k
          · rename_i hsw
            exact asg hst h1 h2 (by
              exact (show swapsWith (.ListComp elt gs sc lp) (some (.Name x np)) pos.line X.env = pure false from by rw [G.sw, Bool.eq_false_iff.mpr hsw])) (sws_no rfl)
        · cases h
      · -- a tuple
        rename_i vs k2 p2
        split at h
        · rename_i ts k1 p1
          split at h
          · rename_i hsw
            rw [Bool.and_eq_true] at h
            exact asg hst h.1 h.2 rfl (G.swS hsw)
          · rename_i names hsw
            split at h
            · rename_i x px y py a b i j es
              simp only [Bool.and_eq_true] at h
              obtain ⟨⟨⟨⟨h1, h2⟩, h3⟩, h4⟩, h5⟩ := h
              have h1 := of_decide_eq_true h1
              subst h1
              obtain ⟨a1, a2⟩ := G.locl h3
              obtain ⟨b1, b2⟩ := G.locl h4
              obtain ⟨c1, c2, c3⟩ := S.es G tk (W := W) h5
              match es, c3 with
              | [a', b'], _ => exact PS.imp (ps_par G.g.calm hpx a1 b1 (by simpa using h2) a2 b2 c1 (G.swS hsw) rfl) fun De σ H q => tS_par q
            · rename_i x px y py z pz a b c i j l es
              simp only [Bool.and_eq_true] at h
              obtain ⟨⟨⟨⟨⟨⟨⟨h1, h2⟩, h2'⟩, h2''⟩, h3⟩, h4⟩, h4'⟩, h5⟩ := h
              have h1 := of_decide_eq_true h1
              subst h1
              obtain ⟨a1, a2⟩ := G.locl h3
              obtain ⟨b1, b2⟩ := G.locl h4
              obtain ⟨d1, d2⟩ := G.locl h4'
              obtain ⟨c1, c2, c3⟩ := S.es G tk (W := W) h5
              match es, c3 with
              | [a', b', c'], _ => exact PS.imp (ps_par3 G.g.calm hpx a1 b1 d1 (by simpa using h2) (by simpa using h2') (by simpa using h2'') a2 b2 d2 c1 (G.swS hsw) rfl) fun De σ H q => tS_par3 q
            · cases h
          · cases h
        · cases h
        · simp only [Bool.and_eq_true] at h
          exact asg hst h.1.2 h.2 rfl (sws_noT h.1.1)
      · simp only [Bool.and_eq_true] at h
        obtain ⟨⟨⟨h1, h2⟩, h3⟩, h4⟩ := h
        exact asg hst h3 h4 (swaps_no h1) (sws_no h2)
    · cases h
  | aug i p e' =>
    simp only [ckS] at h
    split at h
    · simp only [Bool.and_eq_true] at h
      obtain ⟨⟨h1, h2⟩, h3⟩ := h
      obtain ⟨k1, k2, k3⟩ := G.sto h2
      obtain ⟨o1, o2⟩ := ipP_ok (X := X) h1
      exact PS.imp (ps_aug hpx k1 k2 (S.e G tk h3) o1 k3) fun De σ H q => tS_aug o2 q
    · cases h
  | augS o i p e' =>
    simp only [ckS] at h
    split at h
    · simp only [Bool.and_eq_true] at h
      obtain ⟨⟨⟨⟨h1, h2⟩, h3⟩, h4⟩, h5⟩ := h
      obtain ⟨o1, o2⟩ := ipP_ok (X := X) h1
      exact PS.imp (ps_augS (S.e G tk h3) (S.e G tk h4) (get_any G.g) (S.e G tk h5) o1 set_any (aug_sub h2)) fun De σ H q => tS_augS o2 q
    · cases h
  | ifS c a b =>
    simp only [ckS] at h
    split at h
    · simp only [Bool.and_eq_true] at h
      exact PS.imp (ps_if (S.t G tk h.1.1) (SS.ss (W := W) EO G tk hp hs hf h.1.2) (SS.ss (W := W) EO G tk hp hs hf h.2)) fun De σ H q => tS_if q
    · cases h
  | whl c b =>
    simp only [ckS] at h
    split at h
    · simp only [Bool.and_eq_true] at h
      exact PS.imp (ps_while hp (S.t G tk h.1) (SS.ss (W := W) EO G tk hp hs hf h.2)) fun De σ H q => tS_whl q
    · cases h
  | «for» t' src b =>
    simp only [ckS] at h
    split at h
    · simp only [Bool.and_eq_true] at h
      obtain ⟨⟨⟨h1, h2⟩, h3⟩, h4⟩ := h
      exact PS.imp (ps_for hp G.g.calm (S.src (W := W) G tk h2) (S.tg (W := W) G tk h3) (SS.ss (W := W) EO G tk hp hs hf h4) (fold_set h1)) fun De σ H q => tS_for q
    · cases h
  | rse c es =>
    simp only [ckS] at h
    split at h
    · simp only [Bool.and_eq_true] at h
      obtain ⟨⟨h1, h2⟩, h3⟩ := h
      have : es = [] := by simpa using h2
      subst this
      split at h3
      · rename_i k e1
        have h3 := of_decide_eq_true h3
        subst h3
        obtain ⟨C, c1, c2⟩ := G.cls _ _ _ e1
        obtain ⟨B, newId, initId, bmB, F, q, kC, r⟩ := G.rse _ _ C e1 c1
        obtain ⟨g1, g2⟩ := G.glob h1
        exact PS.imp (ps_raise G.g.calm tk (pmk_own F q c2 kC r g1 g2)) fun De σ H q => tS_rse c1 q
      · cases h3
    · cases h
  | tryS b hds =>
    simp only [ckS] at h
    split at h
    · rename_i x h0 hdsx pos
      rw [Bool.and_eq_true] at h
      obtain ⟨l, l1, l2, l3, l4⟩ := ckHs_ok EO G h.2
      subst l1
      refine PS.imp (ps_tryU (tb := fun W' => tSs ws cf W' cx.N.length b) hs hf tk (fun W' pn xe tk' hp' => SS.ss (X := X.tr pn xe) EO (G.tr pn xe) tk' hp' hs hf h.1) l4) fun De σ H q => ?_
      rw [G.g.K]
      exact tS_try EO l2 l3 q
    · cases h
theorem snd_ss (SS : SndS ws cf n) (EO : EcOk ws) {s' : List S} {s : List Stmt} (G : Gd ws cf cx X) (tk : Takes X W) (hp : PassesOwn (model X.prog X.w) X.A X.env X.xe) (hs : X.stack = X.env :: X.outer) (hf : X.env.frame = some X.env.locals) (h : ckSs (n + 1) cx s' s = true) :
    PSs X s (tSs ws cf W cx.N.length s') := by
  simp only [ckSs] at h
  split at h
  · exact PSs.imp pss_nil fun De σ H q => tSs_nil q
  · rw [Bool.and_eq_true] at h
    exact PSs.imp (pss_cons (SS.s EO G tk hp hs hf h.1) (SS.ss (W := W) EO G tk hp hs hf h.2)) fun De σ H q => tSs_cons q
  · cases h
end
theorem sndS (ws : Ws) (cf : Cf) : ∀ n, SndS ws cf n
  | 0 => ⟨fun _ _ _ _ _ _ h => (by simp [ckS] at h), fun _ _ _ _ _ _ h => (by simp [ckSs] at h)⟩
  | n + 1 =>
    have S := sndS ws cf n
    ⟨fun EO => snd_s S EO, fun EO => snd_ss S EO⟩
end Mn
/-! Mn17: defs by the small run; the whole text by levels. -/
namespace Mn
open PySem PySem.Spec PyProof.Rows L2
section
variable {ws : Ws} {m m' l : List Addr} {H : Hp} {n : Nat}
mutual
/-- what names lists below n alone stands over the first n -/
theorem DV.down (hn : m.length = n) : ∀ {d : D} {v : V}, below n d = true → DV ws (m ++ l) H d v → DV ws m H d v
  | _, _, _, .non => .non
  | _, _, _, .bl b => .bl b
  | _, _, _, .int i => .int i
  | _, _, _, .str x => .str x
  | _, _, h, .tup q r => .tup q (DVs.down hn (by simpa [below] using h) r)
  | _, _, h, .tl nm q r => .tl (fun z => nm (List.mem_append_left _ z)) q (DVs.down hn (by simpa [below] using h) r)
  | _, _, h, .kl q r => .kl q (DVs.down hn (by simpa [below] using h) r)
  | _, _, h, .lr q => .lr (by
      have hk := Nat.blt_eq.mp (show Nat.blt _ n = true by simpa only [below] using h)
      rw [List.getElem?_append_left (by omega)] at q
      exact q)
  | _, _, _, .fn g => .fn g
theorem DVs.down (hn : m.length = n) : ∀ {ds : List D} {vs : List V}, belows n ds = true → DVs ws (m ++ l) H ds vs → DVs ws m H ds vs
  | _, _, _, .nil => .nil
  | d :: ds, _, h, .cons q k r => by
    have h' : below n d = true ∧ belows n ds = true := by simpa [belows] using h
    exact .cons (DV.down hn h'.1 q) k (DVs.down hn h'.2 r)
end
theorem Rl.cut {st : Sto} (r : Rl ws (m ++ l) st H) (hn : m.length = n) (hc : clean n st = true) : Rl ws m (st.take n) H := by
  have hl := r.len
  rw [List.length_append] at hl
  refine ⟨by rw [List.length_take]; omega, (List.nodup_append.mp r.nd).1, fun k o a e1 e2 => ?_⟩
  have hk : k < m.length := (List.getElem?_eq_some_iff.mp e2).1
  have e3 : st[k]? = some o := by
    rw [List.getElem?_take] at e1
    split at e1
    · exact e1
    · cases e1
  have q := r.obj k o a e3 (by rw [List.getElem?_append_left hk]; exact e2)
  unfold clean at hc
  have hb := List.all_eq_true.mp hc o (List.mem_of_getElem? e1)
  cases o with
  | lst xs =>
    obtain ⟨vs, h1, h2⟩ := q
    exact ⟨vs, h1, h2.down hn hb⟩
/-- from a run's end to a call's end -/
theorem Step.cut {H' : Hp} (s : Step m H (m ++ l) H') : Step m H m H' := ⟨⟨[], by simp⟩, fun a h k => absurd h k, s.keep, s.tups, s.frz, s.there⟩
theorem aft_retn {W : WX} {k : Nat} {st : Sto} {d : D} {Q : VK} (hm : m.length = n) (h : Aft ws W k m H (RD ws) Q (retn n d st)) : ∀ m' H' v, Step m H m' H' → Rl ws m' st H' → RD ws H m' H' d v → Q v H' := by
  intro m' H' v s r q
  obtain ⟨l, rfl⟩ := s.pre
  unfold retn at h
  split at h
  · rename_i hc
    have rc := r.cut hm hc
    split at h
    · rename_i j
      split at h
      · rename_i hj
        exact h m H' v s.cut rc ⟨q.1.down hm (by simpa only [below] using hj), q.2⟩
      · rename_i hj
        have hj : n ≤ j := by
          rcases Nat.lt_or_ge j n with z | z
          · exact absurd (Nat.blt_eq.mpr z) hj
          · exact z
        split at h
        · rename_i xs hx
          split at h
          · rename_i hb
            cases q.1 with
            | lr e =>
              rename_i a
              obtain ⟨vs, h1, h2⟩ := r.obj j _ a hx e
              have na : a ∉ m := fun z => by
                obtain ⟨i, hi⟩ := List.mem_iff_getElem?.mp z
                have : i < m.length := (List.getElem?_eq_some_iff.mp hi).1
                have hi' : (m ++ l)[i]? = some a := by rw [List.getElem?_append_left this]; exact hi
                have := nodup_eq r.nd hi' e
                omega
              exact h m H' _ s.cut rc ⟨.tl na h1 (h2.down hm hb), fun _ b e' => by cases e'; exact s.new a (List.mem_of_getElem? e) na⟩
          · exact h _ H' v s r q
        · exact h _ H' v s r q
    · split at h
      · rename_i hb
        exact h m H' v s.cut rc ⟨q.1.down hm hb, q.2⟩
      · exact h _ H' v s r q
  · exact h _ H' v s r q
theorem aft_fin {W W' : WX} {k j : Nat} {Q : VK} {x : Out (Fl × Rho)} {st : Sto} (hl : st.length = n) (r0 : Rl ws m st H) (hW : ∀ cls dx σ σ' H', W cls dx σ H' → W' cls dx σ' H') (hk : ∃ σ : L2.St, σ.length = k) (h : Aft ws W k m H (RD ws) Q (fin n x)) :
    Aft ws W' j m H (RF ws j) (QE { nx := fun _ H' => Q .non H', rt := Q }) x := by
  have hm : m.length = n := by rw [r0.len, hl]
  cases x with
  | ok fr st' =>
    obtain ⟨fl, ρ⟩ := fr
    cases fl with
    | nx =>
      intro m' H' ev s r q
      cases ev with
      | nx σ => exact aft_retn hm (show Aft ws W k m H (RD ws) Q (retn n .non st') from h) m' H' .non s r ⟨.non, fr_of rfl⟩
      | _ => exact q.elim
    | ret d =>
      intro m' H' ev s r q
      cases ev with
      | rt v => exact aft_retn hm (show Aft ws W k m H (RD ws) Q (retn n d st') from h) m' H' v s r q
      | _ => exact q.elim
    | brk => exact h.elim
    | cnt => exact h.elim
  | ex c p st' =>
    intro m' H' cls dx σ' s r q _
    obtain ⟨σ0, hσ0⟩ := hk
    obtain ⟨l, rfl⟩ := s.pre
    have h' : Aft ws W k m H (RD ws) Q (if clean n st' && belows n p then .ex c p (st'.take n) else .ex c p st') := h
    split at h'
    · rename_i hc
      rw [Bool.and_eq_true] at hc
      refine hW _ _ σ0 _ _ (h' m H' cls dx σ0 s.cut (r.cut hm hc.1) ?_ hσ0)
      obtain ⟨C, an, e1, e2, e3⟩ := q
      refine ⟨C, an, e1, e2, ?_⟩
      cases an with
      | none => exact e3
      | some f =>
        obtain ⟨dd, v, pd, f1, f2, f3, f4, f5⟩ := e3
        subst f2
        have hb : below n pd = true := by
          have := hc.2
          simpa [belows] using this
        exact ⟨dd, v, pd, f1, rfl, f3, f4.down hm hb, f5⟩
    · exact hW _ _ σ0 _ _ (h' _ H' cls dx σ0 s r q hσ0)
  | no => exact h.elim
/-- the slots at a def's start -/
theorem rl_start {N : List Str} {ds : List D} {vs : List V} (t : DVs ws m H ds vs) (k : Nat) (hk : k = N.length - vs.length) : RlE ws m H (ds.map some ++ List.replicate k none) (L2.start N vs) := by
  subst hk
  unfold L2.start
  refine ⟨by simp [t.length], fun i d e => ?_⟩
  have hl := t.length
  by_cases hi : i < ds.length
  · rw [List.getElem?_append_left (by simpa using hi)] at e
    rw [List.getElem?_append_left (by simp; omega)]
    rw [List.getElem?_map] at e
    cases e' : ds[i]? with
    | none => rw [e'] at e; cases e
    | some d' =>
      rw [e'] at e
      cases e
      obtain ⟨v, h1, h2, h3⟩ := t.get e'
      exact ⟨v, by rw [List.getElem?_map, h1]; rfl, h2, h3⟩
  · rw [List.getElem?_append_right (by simp; omega)] at e
    rw [List.getElem?_replicate] at e
    split at e <;> cases e
end
/-! ### the text -/
/-- a def of the text against one of the small language -/
structure DefOk (K : PySem.W.Frag) (ws : Ws) (md : Md) (g : Nat) (f : Fn) (N : List Str) (x : Str) (st : Stmt) : Prop where
  fd : ∃ fd, Fun K x x st (ws.fa g) fd ∧ Binds K fd (N.take f.np) []
  sc : FnScope N (N.take f.np) (defScope st)
  nl : f.nl = N.length
  np : f.np ≤ N.length
  ck : ∃ n, ckSs n ⟨N, defScope st, none, md⟩ f.body (defBody st) = true
structure TextOk (P : Program) (w : World) (K : PySem.W.Frag) (mg : Str → Option Value) (ws : Ws) (md : Md) (T : List Fn) (NN : List (List Str)) (sts : List Stmt) : Prop where
  kk : ws.K = K
  len : T.length = md.fns.length
  defs : ∀ (g : Nat) (f : Fn) (x : Str), T[g]? = some f → md.fns[g]? = some x → ∃ N st, NN[g]? = some N ∧ sts[g]? = some st ∧ DefOk K ws md g f N x st ∧ mg x = some (.ref (ws.fa g))
  bl : ∀ x ∈ md.bl, mg x = none
  con : ∀ x d, md.con.lookup x = some d → ∃ u v, mg x = some u ∧ RelV v u ∧ (∀ m H, DV ws m H d v) ∧ notl d = true
  cls : ∀ x k an, md.cls.lookup x = some (k, an) → ∃ C, ws.ec k = some (C, an) ∧ mg x = some (.ref C)
  rse : ∀ x k C, md.cls.lookup x = some (k, none) → ws.ec k = some (C, none) → ∃ B newId initId bmB, ExcBaseFacts B newId initId bmB ∧ PySem.W.excIn K C bmB newId = true ∧ PySem.W.keepIn K (.ref C) = true ∧ (∀ X : Cx, X.K = K → Raises X (.ref C))
  ec : EcOk ws
section
variable {P : Program} {w : World} {K : PySem.W.Frag} {mg : Str → Option Value} {base : Heap} {ws : Ws} {md : Md} {T : List Fn} {NN : List (List Str)} {sts : List Stmt}
theorem textRun (O : TextOk P w K mg ws md T NN sts) (wf : Nat) : ∀ (k g : Nat) (f : Fn) (x : Str) (N : List Str) (st : Stmt) (fd : FuncData), T[g]? = some f → md.fns[g]? = some x → Fun K x x st (ws.fa g) fd → DefOk K ws md g f N x st →
    FnOk P w K mg base (L2.CX P w) k (ws.fa g) fd (N.take f.np) (spF ws ⟨callF T wf k, wf, T.length⟩ g) := by
  intro k
  induction k with
  | zero =>
    intro g f x N st fd hf hx F Dk
    refine ⟨fun vs H Q E h => ?_, fun A outer s H args us vs Q E _ _ _ _ h => ?_⟩
    · obtain ⟨m, st', ds, _, _, h⟩ := h
      exact h.elim
    · obtain ⟨m, st', ds, _, _, h⟩ := h
      exact h.elim
  | succ k ih =>
    intro g f x N st fd hf hx F Dk
    have unf : ∀ ds st', callF T wf (k + 1) g ds st' = if ds.length = f.np then fin st'.length (exSs ⟨callF T wf k, wf, T.length⟩ f.body (ds.map some ++ List.replicate (f.nl - f.np) none) st') else .no := fun ds st' => by
      rw [callF, hf]
    have hpl : (N.take f.np).length = f.np := by rw [List.length_take]; have := Dk.np; omega
    refine F.okX Dk.sc (fun vs H Q E h => ?_) (fun cdv A outer s H vs Q E hr h => ?_)
    · obtain ⟨m, st', ds, r, t, h⟩ := h
      have h : Aft ws _ 0 m H (RD ws) Q (callF T wf (k + 1) g ds st') := h
      rw [unf] at h
      split at h
      · rename_i hl
        rw [← t.length, hl, hpl]
      · exact h.elim
    · obtain ⟨m, st', ds, r, t, h⟩ := h
      have h : Aft ws (fun cls d _ H' => E cls d H') 0 m H (RD ws) Q (callF T wf (k + 1) g ds st') := h
      rw [unf] at h
      have hl : ds.length = f.np := by
        by_cases hl : ds.length = f.np
        · exact hl
        · rw [if_neg hl] at h
          exact h.elim
      rw [if_pos hl] at h
      obtain ⟨nn, hck⟩ := Dk.ck
      let X := cxOf (L2.CX P w) P w K mg base N x (defScope st) (ws.fa g) cdv A outer s H E
      let cx : Cc := ⟨N, defScope st, none, md⟩
      have hrA : Room k X.A := hr
      have G : Gd ws ⟨callF T wf k, wf, T.length⟩ cx X := by
        refine ⟨⟨O.kk.symm, rfl, by have := hrA.un; omega⟩, rfl, Dk.sc.nd, rfl, Dk.sc.kind, fun _ _ => rfl, O.bl, O.con, O.cls, fun y j C h1 h2 => ?_, fun j y hy => ?_, fun j hj => ?_⟩
        · obtain ⟨B', n', i', b', h3, h4, h5, h6⟩ := O.rse y j C h1 h2
          exact ⟨B', n', i', b', h3, h4, h5, h6 X rfl⟩
        · have hj : j < T.length := by rw [O.len]; exact (List.getElem?_eq_some_iff.mp hy).1
          obtain ⟨N', st2, _, _, Dk', e4⟩ := O.defs j T[j] y (List.getElem?_eq_getElem hj) hy
          obtain ⟨fd', F', B'⟩ := Dk'.fd
          exact ⟨e4, F'.kp, k, fd', _, ih j T[j] y N' st2 fd' (List.getElem?_eq_getElem hj) hy F' Dk', hrA, B'⟩
        · have hj' : j < md.fns.length := by rw [← O.len]; exact hj
          exact ⟨md.fns[j], List.getElem?_eq_getElem hj'⟩
      have tk : Takes X (fun cls d _ H' => E cls d H') := takes_of rfl rfl rfl rfl
      have hp : PassesOwn (model X.prog X.w) X.A X.env X.xe := passes_of rfl
      refine ⟨_, (sndS ws _ nn).ss O.ec G tk hp rfl rfl hck, ?_⟩
      have hvl : vs.length = f.np := by rw [← t.length, hl]
      have hNl : (L2.start N vs).length = N.length := by
        unfold L2.start
        have := Dk.np
        simp
        omega
      refine ⟨_, st', m, rl_start t (f.nl - f.np) (by rw [Dk.nl, hvl]), r, hNl, ?_⟩
      exact aft_fin (W' := fun cls d _ H' => E cls d H') rfl r (fun _ _ _ _ _ h => h) ⟨[], rfl⟩ h
end
end Mn
/-! Mn18: from what the head tells to the text's facts; a law by its small run. -/
namespace Mn
open PySem PySem.Spec PyProof.Rows L2
theorem zip_lookup : ∀ (ps : List Str) (us : List Value), ps.Nodup → us.length = ps.length → (∀ l : List (Str × Value), (∀ p ∈ l, p.1 ∉ ps) → ps.filterMap (fun n => ((l ++ ps.zip us).lookup n).map (n, ·)) = ps.zip us)
  | [], _, _, _ => fun _ _ => rfl
  | p :: ps, [], _, h => by cases h
  | p :: ps, u :: us, nd, h => fun l hl => by
    obtain ⟨h1, h2⟩ := List.nodup_cons.mp nd
    have ll : (l ++ (p, u) :: ps.zip us).lookup p = some u := by
      have : ∀ l : List (Str × Value), (∀ q ∈ l, q.1 ∉ p :: ps) → (l ++ (p, u) :: ps.zip us).lookup p = some u := by
        intro l
        induction l with
        | nil => intro _; simp [List.lookup]
        | cons q l ih =>
          intro hq
          have hne : (p == q.1) = false := by
            have := hq q List.mem_cons_self
            simp at this
            simp [Ne.symm this.1]
          rw [List.cons_append, List.lookup_cons, hne]
          exact ih fun z hz => hq z (List.mem_cons_of_mem _ hz)
      exact this l hl
    rw [List.zip_cons_cons, List.filterMap_cons, ll]
    show (p, u) :: _ = _
    congr 1
    have e : l ++ (p, u) :: ps.zip us = (l ++ [(p, u)]) ++ ps.zip us := by simp
    rw [e]
    refine zip_lookup ps us h2 (by simpa using h) _ fun q hq => ?_
    rcases List.mem_append.mp hq with hq | hq
    · exact fun z => hl q hq (List.mem_cons_of_mem _ z)
    · have : q = (p, u) := by simpa using hq
      rw [this]
      exact h1
theorem zip_none : ∀ (ps : List Str) (us : List Value), us.length = ps.length → ps.filter (fun n => ((ps.zip us).lookup n).isNone) = [] := by
  intro ps us h
  rw [List.filter_eq_nil_iff]
  intro n hn hh
  have : ∀ (ps : List Str) (us : List Value), us.length = ps.length → n ∈ ps → (List.lookup n (ps.zip us)).isSome = true := by
    intro ps
    induction ps with
    | nil => intro us _ h; cases h
    | cons p ps ih =>
      intro us hl hm
      cases us with
      | nil => cases hl
      | cons u us =>
        rw [List.zip_cons_cons, List.lookup_cons]
        by_cases e : n = p
        · simp [e]
        · have : (n == p) = false := by simp [e]
          rw [this]
          exact ih us (by simpa using hl) ((List.mem_cons.mp hm).resolve_left e)
  have := this ps us h hn
  rw [Option.isNone_iff_eq_none] at hh
  rw [hh] at this
  cases this
theorem bind_gen {x qual : Str} {ps : List Str} {as : List Arg} {body : List Stmt} {scope : Scope} {kV doc pm : Value} {an : Option Addr} {cdv ct : Value} (hp : as.map (·.arg) = ps) (nd : ps.Nodup) (us : List Value) (hl : us.length = ps.length) :
    bindArgs (PySem.W.fnOf x qual ⟨[], as, none, [], [], none, []⟩ body scope .none kV doc pm an cdv ct) ⟨us, []⟩ = pure (ps.zip us) := by
  subst hp
  have h1 := zip_lookup _ us nd hl [] (fun _ h => by cases h)
  have h2 := zip_none _ us hl
  rw [List.nil_append] at h1
  unfold bindArgs
  dsimp only [PySem.W.fnOf]
  generalize List.map (fun x : Arg => x.arg) as = ps at *
  have e0 : seqItems? Value.none = pure none := by rfl
  have e1 : List.take ps.length ps = ps := List.take_length
  have e2 : ¬ us.length > ps.length := by omega
  simp [e0, e1, h1, h2, hl]

/-! ### the text's own facts -/
def argsB (a : Arguments) (ps : List Str) : Bool := a.posonlyargs.isEmpty && a.vararg.isNone && a.kwonlyargs.isEmpty && a.kw_defaults.isEmpty && a.kwarg.isNone && a.defaults.isEmpty && decide (a.args.map (·.arg) = ps)
def scopeB (N ps : List Str) (sc : Scope) : Bool := (match sc.kind with | .function => true | _ => false) && !sc.isCoroutine && !sc.isGenerator && decide N.Nodup && decide (N.take ps.length = ps) &&
  (ps.all fun x => sc.names.lookup x == some .local || sc.names.lookup x == some .cell) && sc.names.all fun y => !(y.2 == .free)
def defB (md : Md) (f : Fn) (N : List Str) (st : Stmt) : Bool := argsB (defArgs st) (N.take f.np) && scopeB N (N.take f.np) (defScope st) && decide (f.nl = N.length) && Nat.ble f.np N.length && ckSs 300 ⟨N, defScope st, none, md⟩ f.body (defBody st)
def defsB (md : Md) : List Fn → List (List Str) → List Stmt → Bool
  | [], [], [] => true
  | f :: fs, N :: Ns, st :: sts => defB md f N st && defsB md fs Ns sts
  | _, _, _ => false
def clsB (md : Md) : Bool := md.cls.all fun c => decide ((md.cls.find? fun c' => c'.2.1 == c.2.1) = some c)
def textB (md : Md) (T : List Fn) (NN : List (List Str)) (sts : List Stmt) : Bool := defsB md T NN sts && decide (T.length = md.fns.length) && clsB md
/-! ### what the head is asked -/
def ddOf (x : Str) (st : Stmt) : He.DefD := ⟨(x, none), x, x, defArgs st, defBody st, defScope st, [], []⟩
def ddsOf (xs : List Str) (sts : List Stmt) : List He.DefD := List.zipWith ddOf xs sts
def faOf (md : Md) : List He.Fa := md.fns.map .glo ++ md.bl.map .free ++ md.cls.map (fun c => .glo c.1) ++ (md.cls.filter fun c => c.2.2.isNone).map (fun c => .exc c.1) ++
  md.cls.flatMap fun c => md.cls.map fun c' => .exm c.1 c'.1 (decide (c'.2.1 = c.2.1))
mutual
/-- a value of the written part -/
def relD (K : PySem.W.Frag) : D → Value → Bool
  | .non, .none => true
  | .bl a, .bool b => a == b
  | .int a, .int b _ => decide (a = b)
  | .str a, .str b _ => decide (b = (⟨a.toArray⟩ : Str))
  | .tup xs, .ref a => (match K.lookup a with
    | some ⟨.type c, _, .seq its _, _⟩ => decide (c = "tuple") && decide (its.size ≤ sizeLine) && relDs K xs its.toList
    | _ => false)
  | _, _ => false
def relDs (K : PySem.W.Frag) : List D → List Value → Bool
  | [], [] => true
  | d :: ds, v :: vs => relD K d v && relDs K ds vs
  | _, _ => false
end
def conB (K : PySem.W.Frag) (c : Str × D) : Bool := match PySem.W.nsIn K mainGlobals c.1 with
  | some (some u) => relD K c.2 u
  | _ => false
def exB (md : Md) (K : PySem.W.Frag) : Bool := md.con.all (conB K) && md.cls.all fun c => match c.2.2 with
  | some f => xfB K (He.ga K c.1) && decide (PySem.W.findIn K (.ref (He.ga K c.1)) f = some none)
  | none => true
def wsOf (K : PySem.W.Frag) (md : Md) : Ws := ⟨K, fun g => He.ga K (md.fns.getD g ""), fun k => (md.cls.find? fun c => c.2.1 == k).map fun c => (He.ga K c.1, c.2.2)⟩
/-! ### sound -/
theorem argsB_ok {a : Arguments} {ps : List Str} (h : argsB a ps = true) : ∃ as : List Arg, a = ⟨[], as, none, [], [], none, []⟩ ∧ as.map (·.arg) = ps := by
  obtain ⟨p, as, v, ko, kd, kw, df⟩ := a
  unfold argsB at h
  simp only [Bool.and_eq_true, decide_eq_true_eq, List.isEmpty_iff, Option.isNone_iff_eq_none] at h
  obtain ⟨⟨⟨⟨⟨⟨rfl, rfl⟩, rfl⟩, rfl⟩, rfl⟩, rfl⟩, h⟩ := h
  exact ⟨as, rfl, h⟩
theorem scopeB_ok {N ps : List Str} {sc : Scope} (h : scopeB N ps sc = true) : FnScope N ps sc := by
  unfold scopeB at h
  simp only [Bool.and_eq_true, decide_eq_true_eq, Bool.not_eq_true', List.all_eq_true, Bool.or_eq_true] at h
  obtain ⟨⟨⟨⟨⟨⟨h1, h2⟩, h3⟩, h4⟩, h5⟩, h6⟩, h7⟩ := h
  refine ⟨?_, h2, h3, h4, h5, fun x hx => ?_, fun y hy e => ?_⟩
  · split at h1
    · rename_i e; exact e
    · cases h1
  · rcases h6 x hx with z | z
    · exact .inl (by simpa using z)
    · exact .inr (by simpa using z)
  · have := h7 y hy
    rw [e] at this
    cases this
theorem defsB_get {md : Md} : ∀ {fs : List Fn} {Ns : List (List Str)} {sts : List Stmt}, defsB md fs Ns sts = true → ∀ {g : Nat} {f : Fn}, fs[g]? = some f → ∃ N st, Ns[g]? = some N ∧ sts[g]? = some st ∧ defB md f N st = true
  | [], [], [], _, g, f, e => by simp at e
  | f' :: fs, N :: Ns, st :: sts, h, g, f, e => by
    have h' : defB md f' N st = true ∧ defsB md fs Ns sts = true := by simpa [defsB] using h
    cases g with
    | zero =>
      have : f' = f := by simpa using e
      subst this
      exact ⟨N, st, rfl, rfl, h'.1⟩
    | succ g => exact defsB_get h'.2 (g := g) (by simpa using e)
mutual
theorem relD_ok {ws : Ws} {K : PySem.W.Frag} (hK : ws.K = K) : ∀ {d : D} {u : Value}, relD K d u = true → ∃ v, RelV v u ∧ (∀ m H, DV ws m H d v) ∧ notl d = true
  | .non, .none, _ => ⟨.non, rfl, fun _ _ => .non, rfl⟩
  | .bl a, .bool b, h => by
    have : a = b := by simpa [relD] using h
    subst this
    exact ⟨.bl a, rfl, fun _ _ => .bl a, rfl⟩
  | .int a, .int b t, h => by
    have : a = b := by simpa [relD] using h
    subst this
    exact ⟨.int a, ⟨t, rfl⟩, fun _ _ => .int a, rfl⟩
  | .str a, .str b t, h => by
    have : b = (⟨a.toArray⟩ : Str) := by simpa [relD] using h
    subst this
    exact ⟨.str _, ⟨t, rfl⟩, fun _ _ => .str a, rfl⟩
  | .tup xs, .ref a, h => by
    unfold relD at h
    split at h
    · rename_i c dx its n sl e
      simp only [Bool.and_eq_true, decide_eq_true_eq] at h
      obtain ⟨⟨h1, h2⟩, h3⟩ := h
      subst h1
      obtain ⟨vs, r, t⟩ := relDs_ok hK h3
      refine ⟨.ref a, rfl, fun m H => .tup (vs := vs) (.inr ⟨_, its, n, by rw [hK]; exact e, rfl, rfl, h2, r⟩) (t m H), rfl⟩
    · cases h
theorem relDs_ok {ws : Ws} {K : PySem.W.Frag} (hK : ws.K = K) : ∀ {ds : List D} {us : List Value}, relDs K ds us = true → ∃ vs, Vals vs us ∧ ∀ m H, DVs ws m H ds vs
  | [], [], _ => ⟨[], .nil, fun _ _ => .nil⟩
  | d :: ds, u :: us, h => by
    have h' : relD K d u = true ∧ relDs K ds us = true := by simpa [relDs] using h
    obtain ⟨v, r, t, n⟩ := relD_ok hK h'.1
    obtain ⟨vs, rs, ts⟩ := relDs_ok hK h'.2
    exact ⟨v :: vs, .cons r rs, fun m H => .cons (t m H) n (ts m H)⟩
end
theorem lookup_mem {α : Type} {x : Str} {a : α} : ∀ {l : List (Str × α)}, l.lookup x = some a → (x, a) ∈ l
  | [], h => by simp at h
  | p :: l, h => by
    rw [List.lookup_cons] at h
    split at h
    · rename_i e
      cases h
      have : x = p.1 := by simpa using e
      subst this
      exact List.mem_cons_self
    · exact List.mem_cons_of_mem _ (lookup_mem h)
section
variable {P : Program} {w : World} {K : PySem.W.Frag} {h : Heap} {mg : Str → Option Value} {md : Md} {T : List Fn} {NN : List (List Str)} {sts : List Stmt}
theorem ec_mem {k : Nat} {C : Addr} {an : Option Str} (e : (wsOf K md).ec k = some (C, an)) : ∃ x, (x, k, an) ∈ md.cls ∧ C = He.ga K x := by
  have e' : ((md.cls.find? fun c => c.2.1 == k).map fun c => (He.ga K c.1, c.2.2)) = some (C, an) := e
  cases q : md.cls.find? fun c => c.2.1 == k with
  | none => rw [q] at e'; cases e'
  | some c =>
    rw [q] at e'
    have hk := List.find?_some q
    have hm := List.mem_of_find?_eq_some q
    obtain ⟨x, k', an'⟩ := c
    have : k' = k := by simpa using hk
    subst this
    cases e'
    exact ⟨x, hm, rfl⟩
theorem text_ok (X : K.In h) (G : h.Ns mainGlobals mg) (c : He.SaysX (faOf md) (ddsOf md.fns sts) [] [] (exB md) w h K) (t : textB md T NN sts = true) : TextOk P w K mg (wsOf K md) md T NN sts := by
  have cd := c.t.d
  have more := c.more
  unfold exB at more
  rw [Bool.and_eq_true] at more
  unfold textB at t
  simp only [Bool.and_eq_true, decide_eq_true_eq] at t
  obtain ⟨⟨t1, t2⟩, t3⟩ := t
  have fns : ∀ x ∈ md.fns, mg x = some (.ref (He.ga K x)) := fun x hx => He.glo_ok X G (cd.facts (f := .glo x) (by simp [faOf, hx]))
  have clsG : ∀ e ∈ md.cls, mg e.1 = some (.ref (He.ga K e.1)) := fun e he => He.glo_ok X G (cd.facts (f := .glo e.1) (by
    unfold faOf
    refine List.mem_append_left _ (List.mem_append_left _ (List.mem_append_right _ ?_))
    exact List.mem_map.mpr ⟨e, he, rfl⟩))
  refine ⟨rfl, t2, fun g f x hf hx => ?_, fun x hx => ?_, fun x d e => ?_, fun x k an e => ?_, fun x k C e1 e2 => ?_, ?_⟩
  · obtain ⟨N, st, e1, e2, hd⟩ := defsB_get t1 hf
    have hfa : (wsOf K md).fa g = He.ga K x := by
      show He.ga K (md.fns.getD g "") = _
      rw [List.getD_eq_getElem?_getD, hx]
      rfl
    refine ⟨N, st, e1, e2, ?_, by rw [hfa]; exact fns x (List.mem_of_getElem? hx)⟩
    unfold defB at hd
    simp only [Bool.and_eq_true, decide_eq_true_eq] at hd
    obtain ⟨⟨⟨⟨h1, h2⟩, h3⟩, h4⟩, h5⟩ := hd
    have S := scopeB_ok h2
    have hm : ddOf x st ∈ ddsOf md.fns sts := by
      refine List.mem_iff_getElem?.mpr ⟨g, ?_⟩
      unfold ddsOf
      rw [List.getElem?_zipWith, hx, e2]
    obtain ⟨fd, F⟩ := cd.defs hm
    have F' : FunD K x x (defArgs st) (defBody st) (defScope st) [] [] (He.ga K x) fd := F
    have ndP : (N.take f.np).Nodup := S.nd.sublist (List.take_sublist _ _)
    obtain ⟨as, ha, hps⟩ := argsB_ok h1
    have B : Binds K fd (N.take f.np) [] := F'.bindsN fun kV doc pm an cdv ct us hl => by
      rw [ha]
      exact bind_gen hps ndP us hl
    refine ⟨⟨fd, ⟨?_, ?_⟩, B⟩, S, h3, Nat.le_of_ble_eq_true h4, 300, h5⟩
    · obtain ⟨oc, od, dV, kV, doc, pm, an, cdv, ct, osl, e1, e2, e3, e4, _⟩ := F'.ex
      rcases e4 with ⟨_, rfl⟩ | ⟨z, _⟩
      · exact ⟨oc, od, kV, doc, pm, an, cdv, ct, osl, e1, by rw [hfa]; exact e2, e3⟩
      · exact absurd rfl z
    · rw [hfa]
      exact F'.kp
  · exact He.free_ok X G (cd.facts (f := .free x) (by simp [faOf, hx]))
  · have hc := List.all_eq_true.mp more.1 _ (lookup_mem e)
    unfold conB at hc
    split at hc
    · rename_i u hu
      obtain ⟨v, h1, h2, h3⟩ := relD_ok (ws := wsOf K md) rfl hc
      exact ⟨u, v, PySem.W.mg_of X G hu, h1, h2, h3⟩
    · cases hc
  · have hm := lookup_mem e
    refine ⟨He.ga K x, ?_, clsG _ hm⟩
    have hf := List.all_eq_true.mp t3 _ hm
    have hf := of_decide_eq_true hf
    show ((md.cls.find? fun c => c.2.1 == k).map fun c => (He.ga K c.1, c.2.2)) = _
    rw [hf]
    rfl
  · have hm := lookup_mem e1
    have hf := List.all_eq_true.mp t3 _ hm
    have hf := of_decide_eq_true hf
    have e2' : ((md.cls.find? fun c => c.2.1 == k).map fun c => (He.ga K c.1, c.2.2)) = some (C, none) := e2
    rw [hf] at e2'
    cases e2'
    obtain ⟨h1, h2, h3, h4⟩ := He.exc_ok (cd.facts (f := .exc x) (by
      unfold faOf
      refine List.mem_append_left _ (List.mem_append_right _ (List.mem_map.mpr ⟨(x, k, none), List.mem_filter.mpr ⟨hm, rfl⟩, rfl⟩))))
    exact ⟨_, _, _, _, PySem.F.excBase_ValueError, h1, h2, fun X hX => raises_own (by rw [hX]; exact h3) (by rw [hX]; exact h4)⟩
  · refine ⟨fun cI C an k C' an' e1 e2 => ?_, fun cI C f e1 => ?_⟩
    · obtain ⟨x, hx, rfl⟩ := ec_mem e1
      obtain ⟨y, hy, rfl⟩ := ec_mem e2
      exact He.exm_ok (cd.facts (f := .exm x y (decide (k = cI))) (by
        unfold faOf
        refine List.mem_append_right _ (List.mem_flatMap.mpr ⟨_, hx, List.mem_map.mpr ⟨_, hy, rfl⟩⟩)))
    · obtain ⟨x, hx, rfl⟩ := ec_mem e1
      have hh := List.all_eq_true.mp more.2 _ hx
      dsimp only at hh
      rw [Bool.and_eq_true] at hh
      exact ⟨xfB_ok hh.1, of_decide_eq_true hh.2⟩
end
end Mn
/-! Mn19: a law holds if its small run gives True at every script. -/
namespace Mn
open PySem PySem.Spec PyProof.Rows L2
/-- the law's promise of the small run -/
def Plain (T : List Fn) (k g : Nat) : Prop := ∀ ns : List Int, ns.length ≤ 63 → (∀ z ∈ ns, Builtin.Int.intBits z ≤ 1048576) → ∃ wf st', callF T wf k g [.kl (ns.map D.int)] [] = .ok (.bl true) st'
theorem dvs_ints {ws : Ws} {H : Hp} : ∀ ns : List Int, DVs ws [] H (ns.map D.int) (ns.map V.int)
  | [] => .nil
  | n :: ns => .cons (.int n) rfl (dvs_ints ns)
theorem law_walk {l : PySem.W.OpenLaw} {q : Program} {loose : List Str} {XP : (Str → Option Value) → Heap → Prop} {d : DefRec} {md : Md} {T : List Fn} {NN : List (List Str)} {sts : List Stmt} {k g : Nat} {f : Fn} {x : Str}
    (hn : l.most = some 63) (hdf : d.params.defaults = []) (hr : Room k callerA) (t : textB md T NN sts = true) (hf : T[g]? = some f) (hx : md.fns[g]? = some d.name) (hps : ∀ N, NN[g]? = some N → N.take f.np = [x]) (plain : Plain T k g) :
    PySem.W.WalkO q loose XP (He.hookX 4 (faOf md) (ddsOf md.fns sts) [] [] (exB md)).says l.row.toRowW d [] (fun f vs => PySem.call f vs) := by
  refine Att.attach_callB hn hdf fun w s₀ s₁ mg mb fa o pm cd doc a vs ns G Y ho hd hcd hmg hobj hints hlen hbits hg => ?_
  obtain ⟨K, KX, c⟩ := Y
  have O := text_ok (P := l.prog) KX G.T.g c t
  obtain ⟨N, st, e1, e2, Dk, e4⟩ := O.defs g f d.name hf hx
  obtain ⟨fd, F, B⟩ := Dk.fd
  have hfa : (wsOf K md).fa g = fa := by
    rw [hmg] at e4
    cases e4
    rfl
  rw [hfa] at F
  have hpx : N.take f.np = [x] := hps N e1
  have run : ∀ (base : Heap) (wf : Nat), FnOk l.prog w K mg base (L2.CX l.prog w) k fa fd [x] (spF (wsOf K md) ⟨callF T wf k, wf, T.length⟩ g) := fun base wf => by
    have := textRun (base := base) O wf k g f d.name N st fd hf hx (by rw [hfa]; exact F) Dk
    rw [hfa, hpx] at this
    exact this
  have hF : FnOk l.prog w K mg s₁.heap (L2.CX l.prog w) k fa fd [x] (fun vs H Q E => ∃ wf, spF (wsOf K md) ⟨callF T wf k, wf, T.length⟩ g vs H Q E) → True := fun _ => trivial
  have hb : ∀ (s : Shared) (u : Value), BindsTo s fd ⟨[u], []⟩ [(x, u)] := fun s u => by
    obtain ⟨N', st', e1', e2', hd'⟩ := defsB_get (by
      unfold textB at t
      simp only [Bool.and_eq_true] at t
      exact t.1.1) hf
    rw [e1] at e1'
    cases e1'
    rw [e2] at e2'
    cases e2'
    unfold defB at hd'
    simp only [Bool.and_eq_true, decide_eq_true_eq] at hd'
    obtain ⟨as, ha, hps'⟩ := argsB_ok hd'.1.1.1.1
    obtain ⟨oc, od, kV, doc', pm', an, cdv, ct, osl, rfl, lk, hc⟩ := F.ex
    refine .of_eq ?_
    rw [ha]
    have := bind_gen (x := d.name) (qual := d.name) (body := defBody st) (scope := defScope st) (kV := kV) (doc := doc') (pm := pm') (an := an) (cdv := cdv) (ct := ct) (as := as) (ps := [x]) (by rw [hps', hpx]) (by simp) [u] rfl
    simpa using this
  refine law_call (CX := L2.CX l.prog w) (k := k) (fd := fd) (x := x) (sp := fun vs H Q E => ∃ wf, spF (wsOf K md) ⟨callF T wf k, wf, T.length⟩ g vs H Q E) KX G.T.g G.T.b G.T.builtins G.T.nolimit hg hobj hints (Nat.le_trans hlen (by decide)) hr
    (fun base _ _ => ⟨fun vs H Q E ⟨wf, h⟩ => (run base wf).len _ _ _ _ h, fun A outer s H args us vs Q E r e b v ⟨wf, h⟩ => (run base wf).run A outer s H args us vs Q E r e b v h⟩) hb (fun H hO hS => ?_) fun H e s' => ?_
  · obtain ⟨wf, st', e⟩ := plain ns hlen hbits
    have fz : FzL (wsOf K md) H a (ns.map V.int) := by
      rcases hS with (z | z) | z
      · rcases hO a with y | ⟨o, xs, y⟩
        · rw [y] at z; cases z
        · rw [y] at z; cases z
      · exact .inl z
      · exact .inr z
    refine ⟨wf, [], [], [.kl (ns.map D.int)], ⟨rfl, by simp, fun n o b e1 _ => by simp at e1⟩, .cons (.kl fz (dvs_ints ns)) rfl .nil, ?_⟩
    show Aft _ _ 0 [] H _ _ (callF T wf k g [.kl (ns.map D.int)] [])
    rw [e]
    intro m' H' v _ _ qv
    cases qv.1
    rfl
  · rintro ⟨_, _, _, _, _, _, _, _, _, _, _, _, z⟩
    exact z
end Mn
/-! Mn20: the small run, step by step, for simp. -/
namespace Mn
open PySem
@[simp] theorem bind_ok' {α β : Type} (a : α) (st : Sto) (f : α → Sto → Out β) : (Out.ok a st).bind f = f a st := (rfl)
@[simp] theorem bind_ex' {α β : Type} (c : Nat) (p : List D) (st : Sto) (f : α → Sto → Out β) : (Out.ex c p st).bind f = .ex c p st := (rfl)
@[simp] theorem bind_no' {α β : Type} (f : α → Sto → Out β) : (Out.no : Out α).bind f = .no := (rfl)
/-! ### the rest of a run, by names -/
section
variable (cf : Cf)
def kB (x : Out D) : Out Bool := x.bind asB
def kTup (x : Out (List D)) : Out D := x.bind fun ds st => .ok (.tup (mats ds st).1) (mats ds st).2
def kLst (x : Out (List D)) : Out D := x.bind fun ds st => .ok (.tl (mats ds st).1) (mats ds st).2
def kPrim (p : Pr) (x : Out (List D)) : Out D := x.bind fun ds st => binds (semP p ds st)
def kMeth (p : Pr) (es : List E) (ρ : Rho) (x : Out D) : Out D := x.bind fun x st => if rcv p x then (evEs cf es ρ st).bind fun ds st => binds (semP p (x :: ds) st) else .no
def kMeth2 (p : Pr) (x : D) (y : Out (List D)) : Out D := y.bind fun ds st => binds (semP p (x :: ds) st)
def kAnd (b : E) (ρ : Rho) (x : Out Bool) : Out D := x.bind fun c st => if c then evE cf b ρ st else .ok (.bl false) st
def kOr (b : E) (ρ : Rho) (x : Out Bool) : Out D := x.bind fun c st => if c then .ok (.bl true) st else evE cf b ρ st
def kNot (x : Out Bool) : Out D := x.bind fun c st => .ok (.bl (!c)) st
def kIte (a b : E) (ρ : Rho) (x : Out Bool) : Out D := x.bind fun t st => if t then evE cf a ρ st else evE cf b ρ st
def kChA (p q : Pr) (b c : E) (ρ : Rho) (x : Out D) : Out D := x.bind fun x st => (evE cf b ρ st).bind fun y st => (match x, y with
    | .int i, .int j => (match semI p i j with
      | some (.bl true) => (evE cf c ρ st).bind fun z st => binds (semP q [.int j, z] st)
      | some (.bl false) => .ok (.bl false) st
      | _ => .no)
    | _, _ => .no)
def kChB (p q : Pr) (c : E) (ρ : Rho) (x : D) (y : Out D) : Out D := y.bind fun y st => (match x, y with
    | .int i, .int j => (match semI p i j with
      | some (.bl true) => (evE cf c ρ st).bind fun z st => binds (semP q [.int j, z] st)
      | some (.bl false) => .ok (.bl false) st
      | _ => .no)
    | _, _ => .no)
def kChC (q : Pr) (c : E) (ρ : Rho) (j : Int) (t : Bool) (st : Sto) : Out D := if t then (evE cf c ρ st).bind fun z st => binds (semP q [.int j, z] st) else .ok (.bl false) st
def kChD (q : Pr) (j : Int) (z : Out D) : Out D := z.bind fun z st => binds (semP q [.int j, z] st)
def kSlA (b c : E) (ρ : Rho) (x : Out D) : Out D := x.bind fun x st => (evE cf b ρ st).bind fun y st => (match y with
    | .int i => (evE cf c ρ st).bind fun z st => (match z with
      | .int j => binds (semSl x (some i) (some j) st)
      | _ => .no)
    | _ => .no)
def kSlB (c : E) (ρ : Rho) (x : D) (y : Out D) : Out D := y.bind fun y st => (match y with
    | .int i => (evE cf c ρ st).bind fun z st => (match z with
      | .int j => binds (semSl x (some i) (some j) st)
      | _ => .no)
    | _ => .no)
def kSlC (x : D) (i : Int) (z : Out D) : Out D := z.bind fun z st => (match z with
      | .int j => binds (semSl x (some i) (some j) st)
      | _ => .no)
def kCall (g : Nat) (x : Out (List D)) : Out D := x.bind fun ds st => cf.call g (mats ds st).1 (mats ds st).2
def kCons (es : List E) (ρ : Rho) (x : Out D) : Out (List D) := x.bind fun d st => (evEs cf es ρ st).bind fun ds st => .ok (d :: ds) st
def kCons2 (d : D) (y : Out (List D)) : Out (List D) := y.bind fun ds st => .ok (d :: ds) st
/-! comprehensions -/
def kT3 (acc : List D) (x : Out D) : Out (List D) := x.bind fun x st => .ok (acc ++ [(mat x st).1]) (mat x st).2
def kT2 (elt : E) (acc : List D) (ρ : Rho) (x : Out Bool) : Out (List D) := x.bind fun b st => if b then (if acc.length < sizeLine then (evE cf elt ρ st).bind fun x st => .ok (acc ++ [(mat x st).1]) (mat x st).2 else .no) else .ok acc st
def kT1 (elt : E) (cs : List E) (acc : List D) (x : Out Rho) : Out (List D) := x.bind fun ρ st => (evCs cf cs ρ st).bind fun b st => if b then (if acc.length < sizeLine then (evE cf elt ρ st).bind fun x st => .ok (acc ++ [(mat x st).1]) (mat x st).2 else .no) else .ok acc st
def turnB (elt : E) (tg : Tg) (cs : List E) (own : List Nat) (ρ : Rho) (d : D) (acc : List D) (st : Sto) : Out (List D) := kT1 cf elt cs acc (evTg cf tg d (wipe ρ own) st)
def compB (elt : E) (tg : Tg) (cs : List E) (own : List Nat) (ρ : Rho) (sv : Sv) (n : Nat) (st : Sto) : Out D := noEx ((turns sv (turnB cf elt tg cs own ρ) n 0 [] st).bind fun acc st => .ok (.tl acc) st)
def kComp (elt : E) (tg : Tg) (cs : List E) (own : List Nat) (ρ : Rho) (x : Out (Sv × Nat)) : Out D := x.bind fun sv st => compB cf elt tg cs own ρ sv.1 sv.2 st
def kU3 (elt : E) (tg1 : Tg) (cs1 : List E) (own1 : List Nat) (ρ : Rho) (acc : List D) (x : Out (Sv × Nat)) : Out (List D) := x.bind fun sv1 st => turns sv1.1 (turnB cf elt tg1 cs1 own1 ρ) sv1.2 0 acc st
def kU2 (elt : E) (tg1 : Tg) (src1 : Src) (cs1 : List E) (own1 : List Nat) (ρ : Rho) (acc : List D) (x : Out Bool) : Out (List D) := x.bind fun b st => if b then kU3 cf elt tg1 cs1 own1 ρ acc (evSrc cf src1 ρ st) else .ok acc st
def kU1 (elt : E) (cs : List E) (tg1 : Tg) (src1 : Src) (cs1 : List E) (own1 : List Nat) (acc : List D) (x : Out Rho) : Out (List D) := x.bind fun ρ st => kU2 cf elt tg1 src1 cs1 own1 ρ acc (evCs cf cs ρ st)
def turnB2 (elt : E) (tg : Tg) (cs : List E) (tg1 : Tg) (src1 : Src) (cs1 : List E) (own own1 : List Nat) (ρ : Rho) (d : D) (acc : List D) (st : Sto) : Out (List D) := kU1 cf elt cs tg1 src1 cs1 own1 acc (evTg cf tg d (wipe ρ own) st)
def compB2 (elt : E) (tg : Tg) (cs : List E) (tg1 : Tg) (src1 : Src) (cs1 : List E) (own own1 : List Nat) (ρ : Rho) (sv : Sv) (n : Nat) (st : Sto) : Out D := noEx ((turns sv (turnB2 cf elt tg cs tg1 src1 cs1 own own1 ρ) n 0 [] st).bind fun acc st => .ok (.tl acc) st)
def kComp2 (elt : E) (tg : Tg) (cs : List E) (tg1 : Tg) (src1 : Src) (cs1 : List E) (own own1 : List Nat) (ρ : Rho) (x : Out (Sv × Nat)) : Out D := x.bind fun sv st => compB2 cf elt tg cs tg1 src1 cs1 own own1 ρ sv.1 sv.2 st
/-! targets, sources -/
def kTgs (ts : List Tg) (ds : List D) (x : Out Rho) : Out Rho := x.bind fun ρ st => evTgs cf ts ds ρ st
def kSbA (i : E) (d : D) (ρ : Rho) (x : Out D) : Out Rho := x.bind fun x st => (evE cf i ρ st).bind fun y st => (match setD x y d st with
    | some st => .ok ρ st
    | none => .no)
def kSbB (d : D) (ρ : Rho) (x : D) (y : Out D) : Out Rho := y.bind fun y st => (match setD x y d st with
    | some st => .ok ρ st
    | none => .no)
def stO {α : Type} (a : α) (x : Option Sto) : Out α := match x with
  | some st => .ok a st
  | none => .no
def kSvA (x : Out D) : Out (Sv × Nat) := x.bind fun d st => (match svOf st d with
    | some r => .ok r st
    | none => .no)
def kSvR (x : Out (List D)) : Out (Sv × Nat) := x.bind fun ds st => (match rngOf ds with
    | some r => .ok r st
    | none => .no)
def kSvE (x : Out D) : Out (Sv × Nat) := x.bind fun d st => (match isTup d, svOf st d with
    | false, some (s, n) => .ok (.enu s, n) st
    | _, _ => .no)
def kSvZ (b : E) (ρ : Rho) (x : Out D) : Out (Sv × Nat) := x.bind fun x st => (evE cf b ρ st).bind fun y st => (match isTup x == isTup y, svOf st x, svOf st y with
    | true, some (s, n), some (t, m) => .ok (.zip s t, min n m) st
    | _, _, _ => .no)
def kSvZ2 (x : D) (y : Out D) : Out (Sv × Nat) := y.bind fun y st => (match isTup x == isTup y, svOf st x, svOf st y with
    | true, some (s, n), some (t, m) => .ok (.zip s t, min n m) st
    | _, _, _ => .no)
/-! statements -/
def kEx (ρ : Rho) (x : Out D) : Out (Fl × Rho) := x.bind fun _ st => .ok (.nx, ρ) st
def kRet (ρ : Rho) (x : Out D) : Out (Fl × Rho) := x.bind fun d st => .ok (.ret d, ρ) st
def kNx (x : Out Rho) : Out (Fl × Rho) := x.bind fun ρ st => .ok (.nx, ρ) st
def kAsg (t : Tg) (ρ : Rho) (x : Out D) : Out (Fl × Rho) := x.bind fun d st => kNx (evTg cf t d ρ st)
def kAug (i : Nat) (p : Pr) (ρ : Rho) (x : D) (y : Out D) : Out (Fl × Rho) := y.bind fun y st => (match x, y with
      | .int a, .int b => (match semI p a b with
        | some d => .ok (.nx, ρ.set i (some d)) st
        | none => .no)
      | _, _ => .no)
def kIf (a b : List S) (ρ : Rho) (x : Out Bool) : Out (Fl × Rho) := x.bind fun t st => if t then exSs cf a ρ st else exSs cf b ρ st
def forB (t : Tg) (b : List S) (sv : Sv) (n i : Nat) (ρ : Rho) (st : Sto) : Out (Fl × Rho) := loopF sv (fun d ρ st => (evTg cf t d ρ st).bind fun ρ st => exSs cf b ρ st) n i ρ st
def kFor (t : Tg) (b : List S) (ρ : Rho) (x : Out (Sv × Nat)) : Out (Fl × Rho) := x.bind fun sv st => forB cf t b sv.1 sv.2 0 ρ st
def kTurn (t : Tg) (b : List S) (sv : Sv) (n i : Nat) (x : Out (Fl × Rho)) : Out (Fl × Rho) := x.bind fun fr st => match fr with
      | (.nx, ρ) => forB cf t b sv n i ρ st
      | (.cnt, ρ) => forB cf t b sv n i ρ st
      | (.brk, ρ) => .ok (.nx, ρ) st
      | (.ret d, ρ) => .ok (.ret d, ρ) st
def kBody (b : List S) (x : Out Rho) : Out (Fl × Rho) := x.bind fun ρ st => exSs cf b ρ st
def whB (c : E) (b : List S) (n : Nat) (ρ : Rho) (st : Sto) : Out (Fl × Rho) := loopW (fun ρ st => (evE cf c ρ st).bind asB) (fun ρ st => exSs cf b ρ st) n ρ st
def kWt (c : E) (b : List S) (n : Nat) (x : Out (Fl × Rho)) : Out (Fl × Rho) := x.bind fun fr st => match fr with
      | (.nx, ρ) => whB cf c b n ρ st
      | (.cnt, ρ) => whB cf c b n ρ st
      | (.brk, ρ) => .ok (.nx, ρ) st
      | (.ret d, ρ) => .ok (.ret d, ρ) st
def kWc (c : E) (b : List S) (n : Nat) (ρ : Rho) (x : Out Bool) : Out (Fl × Rho) := x.bind fun t st => if t then kWt cf c b n (exSs cf b ρ st) else .ok (.nx, ρ) st
def kRse (c : Nat) (x : Out (List D)) : Out (Fl × Rho) := x.bind fun ds st => if ds.all notl then .ex c ds st else .no
def kTry (hs : List (Nat × Su)) (ρ : Rho) (x : Out (Fl × Rho)) : Out (Fl × Rho) := match x with
    | .ex c p st => handle c p ρ st hs
    | x => x
def kSeq (ss : List S) (x : Out (Fl × Rho)) : Out (Fl × Rho) := seqS x fun ρ st => exSs cf ss ρ st
end
section
variable {cf : Cf} {ρ : Rho} {st : Sto} {c : Nat} {p : List D}
/-! ### one step -/
@[simp] theorem ev_var (i : Nat) : evE cf (.var i) ρ st = (match ρ[i]? with
    | some (some d) => .ok d st
    | _ => .no) := by rw [evE] <;> rfl
@[simp] theorem ev_cst (d : D) : evE cf (.cst d) ρ st = .ok d st := by rw [evE]
@[simp] theorem ev_tup (es : List E) : evE cf (.tupE es) ρ st = kTup (evEs cf es ρ st) := by rw [evE]; rfl
@[simp] theorem ev_lst (es : List E) : evE cf (.lstE es) ρ st = kLst (evEs cf es ρ st) := by rw [evE]; rfl
@[simp] theorem ev_prim (q : Pr) (es : List E) : evE cf (.prim q es) ρ st = kPrim q (evEs cf es ρ st) := by rw [evE]; rfl
@[simp] theorem ev_meth (q : Pr) (o : E) (es : List E) : evE cf (.meth q o es) ρ st = kMeth cf q es ρ (evE cf o ρ st) := by rw [evE]; rfl
@[simp] theorem ev_and (a b : E) : evE cf (.and a b) ρ st = kAnd cf b ρ (kB (evE cf a ρ st)) := by rw [evE]; rfl
@[simp] theorem ev_or (a b : E) : evE cf (.or a b) ρ st = kOr cf b ρ (kB (evE cf a ρ st)) := by rw [evE]; rfl
@[simp] theorem ev_not (a : E) : evE cf (.not a) ρ st = kNot (kB (evE cf a ρ st)) := by rw [evE]; rfl
@[simp] theorem ev_ite (t a b : E) : evE cf (.ite t a b) ρ st = kIte cf a b ρ (kB (evE cf t ρ st)) := by rw [evE]; rfl
@[simp] theorem ev_chain (q r : Pr) (a b d : E) : evE cf (.chain q r a b d) ρ st = kChA cf q r b d ρ (evE cf a ρ st) := by rw [evE]; rfl
@[simp] theorem ev_sl3 (a b d : E) : evE cf (.sl3 a b d) ρ st = kSlA cf b d ρ (evE cf a ρ st) := by rw [evE]; rfl
@[simp] theorem ev_call (g : Nat) (es : List E) : evE cf (.call g es) ρ st = kCall cf g (evEs cf es ρ st) := by rw [evE]; rfl
@[simp] theorem ev_callv (i : Nat) (es : List E) : evE cf (.callv i es) ρ st = (match ρ[i]? with
    | some (some (.fn g)) => if Nat.blt g cf.nf then kCall cf g (evEs cf es ρ st) else .no
    | _ => .no) := by rw [evE] <;> rfl
@[simp] theorem ev_comp (elt : E) (tg : Tg) (src : Src) (cs : List E) (own : List Nat) : evE cf (.comp elt tg src cs own) ρ st = kComp cf elt tg cs own ρ (evSrc cf src ρ st) := by rw [evE]; rfl
@[simp] theorem ev_comp2 (elt : E) (tg : Tg) (src : Src) (cs : List E) (tg1 : Tg) (src1 : Src) (cs1 : List E) (own own1 : List Nat) : evE cf (.comp2 elt tg src cs tg1 src1 cs1 own own1) ρ st = kComp2 cf elt tg cs tg1 src1 cs1 own own1 ρ (evSrc cf src ρ st) := by rw [evE]; rfl
@[simp] theorem ev_nil : evEs cf [] ρ st = .ok [] st := by rw [evEs]
@[simp] theorem ev_cons (e : E) (es : List E) : evEs cf (e :: es) ρ st = kCons cf es ρ (evE cf e ρ st) := by rw [evEs]; rfl
@[simp] theorem ev_cs0 : evCs cf [] ρ st = .ok true st := by rw [evCs]
@[simp] theorem ev_cs1 (e : E) (es : List E) : evCs cf (e :: es) ρ st = kB (evE cf e ρ st) := by rw [evCs]; rfl
@[simp] theorem ev_nm (i : Nat) (d : D) : evTg cf (.nm i) d ρ st = .ok (ρ.set i (some (mat d st).1)) (mat d st).2 := by rw [evTg]
@[simp] theorem ev_tp (ts : List Tg) (d : D) : evTg cf (.tp ts) d ρ st = (match seqOf st d with
    | some xs => if xs.length = ts.length then evTgs cf ts xs ρ st else .no
    | none => .no) := by
  rw [evTg]
  all_goals (cases seqOf st d <;> rfl)
@[simp] theorem ev_sb (o i : E) (d : D) : evTg cf (.sb o i) d ρ st = kSbA cf i d ρ (evE cf o ρ st) := by rw [evTg]; rfl
@[simp] theorem ev_tgs0 (ds : List D) : evTgs cf [] ds ρ st = .ok ρ st := by rw [evTgs]
@[simp] theorem ev_tgs1 (t : Tg) (ts : List Tg) (d : D) (ds : List D) : evTgs cf (t :: ts) (d :: ds) ρ st = kTgs cf ts ds (evTg cf t d ρ st) := by rw [evTgs]; rfl
@[simp] theorem ev_sex (e : E) : evSrc cf (.ex e) ρ st = kSvA (evE cf e ρ st) := by rw [evSrc]; rfl
@[simp] theorem ev_srng (es : List E) : evSrc cf (.rng es) ρ st = kSvR (evEs cf es ρ st) := by rw [evSrc]; rfl
@[simp] theorem ev_senu (e : E) : evSrc cf (.enu e) ρ st = kSvE (evE cf e ρ st) := by rw [evSrc]; rfl
@[simp] theorem ev_szip (a b : E) : evSrc cf (.zip a b) ρ st = kSvZ cf b ρ (evE cf a ρ st) := by rw [evSrc]; rfl
@[simp] theorem ex_ex (e : E) : exS cf (.ex e) ρ st = kEx ρ (evE cf e ρ st) := by rw [exS]; rfl
@[simp] theorem ex_ret (e : E) : exS cf (.ret e) ρ st = kRet ρ (evE cf e ρ st) := by rw [exS]; rfl
@[simp] theorem ex_ret0 : exS cf .ret0 ρ st = .ok (.ret .non, ρ) st := by rw [exS]
@[simp] theorem ex_pas : exS cf .pas ρ st = .ok (.nx, ρ) st := by rw [exS]
@[simp] theorem ex_brk : exS cf .brk ρ st = .ok (.brk, ρ) st := by rw [exS]
@[simp] theorem ex_cnt : exS cf .cnt ρ st = .ok (.cnt, ρ) st := by rw [exS]
@[simp] theorem ex_asg (t : Tg) (e : E) : exS cf (.asg t e) ρ st = kAsg cf t ρ (evE cf e ρ st) := by rw [exS]; rfl
@[simp] theorem ex_aug (i : Nat) (q : Pr) (e : E) : exS cf (.aug i q e) ρ st = (match ρ[i]? with
    | some (some x) => kAug i q ρ x (evE cf e ρ st)
    | _ => .no) := by rw [exS] <;> rfl
@[simp] theorem ex_if (t : E) (a b : List S) : exS cf (.ifS t a b) ρ st = kIf cf a b ρ (kB (evE cf t ρ st)) := by rw [exS]; rfl
@[simp] theorem ex_whl (t : E) (b : List S) : exS cf (.whl t b) ρ st = whB cf t b cf.wf ρ st := by rw [exS]; rfl
@[simp] theorem ex_for (t : Tg) (src : Src) (b : List S) : exS cf (.for t src b) ρ st = kFor cf t b ρ (evSrc cf src ρ st) := by rw [exS]; rfl
@[simp] theorem ex_rse (k : Nat) (es : List E) : exS cf (.rse k es) ρ st = kRse k (evEs cf es ρ st) := by rw [exS]; rfl
@[simp] theorem ex_try (b : List S) (hs : List (Nat × Su)) : exS cf (.tryS b hs) ρ st = kTry hs ρ (exSs cf b ρ st) := by rw [exS]; rfl
@[simp] theorem ex_nil : exSs cf [] ρ st = .ok (.nx, ρ) st := by rw [exSs]
@[simp] theorem ex_cons (s : S) (ss : List S) : exSs cf (s :: ss) ρ st = kSeq cf ss (exS cf s ρ st) := by rw [exSs]; rfl
/-! ### the rest at a value -/
@[simp] theorem kB_ok (b : Bool) : kB (.ok (.bl b) st) = .ok b st := (rfl)
@[simp] theorem kB_ex : kB (.ex c p st) = .ex c p st := (rfl)
@[simp] theorem kTup_ok (ds : List D) : kTup (.ok ds st) = .ok (.tup (mats ds st).1) (mats ds st).2 := (rfl)
@[simp] theorem kTup_ex : kTup (.ex c p st) = .ex c p st := (rfl)
@[simp] theorem kLst_ok (ds : List D) : kLst (.ok ds st) = .ok (.tl (mats ds st).1) (mats ds st).2 := (rfl)
@[simp] theorem kLst_ex : kLst (.ex c p st) = .ex c p st := (rfl)
@[simp] theorem kPrim_ok (q : Pr) (ds : List D) : kPrim q (.ok ds st) = binds (semP q ds st) := (rfl)
@[simp] theorem kPrim_ex (q : Pr) : kPrim q (.ex c p st) = .ex c p st := (rfl)
@[simp] theorem kMeth_ok (q : Pr) (es : List E) (d : D) : kMeth cf q es ρ (.ok d st) = if rcv q d then kMeth2 q d (evEs cf es ρ st) else .no := (rfl)
@[simp] theorem kMeth2_ok (q : Pr) (d : D) (ds : List D) : kMeth2 q d (.ok ds st) = binds (semP q (d :: ds) st) := (rfl)
@[simp] theorem kMeth2_ex (q : Pr) (d : D) : kMeth2 q d (.ex c p st) = .ex c p st := (rfl)
@[simp] theorem kAnd_ok (b : E) (t : Bool) : kAnd cf b ρ (.ok t st) = if t then evE cf b ρ st else .ok (.bl false) st := (rfl)
@[simp] theorem kAnd_ex (b : E) : kAnd cf b ρ (.ex c p st) = .ex c p st := (rfl)
@[simp] theorem kOr_ok (b : E) (t : Bool) : kOr cf b ρ (.ok t st) = if t then .ok (.bl true) st else evE cf b ρ st := (rfl)
@[simp] theorem kOr_ex (b : E) : kOr cf b ρ (.ex c p st) = .ex c p st := (rfl)
@[simp] theorem kNot_ok (t : Bool) : kNot (.ok t st) = .ok (.bl (!t)) st := (rfl)
@[simp] theorem kNot_ex : kNot (.ex c p st) = .ex c p st := (rfl)
@[simp] theorem kIte_ok (a b : E) (t : Bool) : kIte cf a b ρ (.ok t st) = if t then evE cf a ρ st else evE cf b ρ st := (rfl)
@[simp] theorem kIte_ex (a b : E) : kIte cf a b ρ (.ex c p st) = .ex c p st := (rfl)
@[simp] theorem kChA_ok (q r : Pr) (b e : E) (d : D) : kChA cf q r b e ρ (.ok d st) = kChB cf q r e ρ d (evE cf b ρ st) := (rfl)
@[simp] theorem kChB_ok (q r : Pr) (e : E) (i j : Int) (t : Bool) (h : semI q i j = some (.bl t)) : kChB cf q r e ρ (.int i) (.ok (.int j) st) = kChC cf r e ρ j t st := by
  show (match semI q i j with
      | some (.bl true) => (evE cf e ρ st).bind fun z st => binds (semP r [.int j, z] st)
      | some (.bl false) => .ok (.bl false) st
      | _ => .no) = _
  rw [h]
  cases t <;> rfl
@[simp] theorem kChC_eq (r : Pr) (e : E) (j : Int) (t : Bool) : kChC cf r e ρ j t st = if t then kChD r j (evE cf e ρ st) else .ok (.bl false) st := (rfl)
@[simp] theorem kChD_ok (r : Pr) (j : Int) (z : D) : kChD r j (.ok z st) = binds (semP r [.int j, z] st) := (rfl)
@[simp] theorem kSlA_ok (b e : E) (d : D) : kSlA cf b e ρ (.ok d st) = kSlB cf e ρ d (evE cf b ρ st) := (rfl)
@[simp] theorem kSlB_ok (e : E) (d : D) (i : Int) : kSlB cf e ρ d (.ok (.int i) st) = kSlC d i (evE cf e ρ st) := (rfl)
@[simp] theorem kSlC_ok (d : D) (i j : Int) : kSlC d i (.ok (.int j) st) = binds (semSl d (some i) (some j) st) := (rfl)
@[simp] theorem kCall_ok (g : Nat) (ds : List D) : kCall cf g (.ok ds st) = cf.call g (mats ds st).1 (mats ds st).2 := (rfl)
@[simp] theorem kCall_ex (g : Nat) : kCall cf g (.ex c p st) = .ex c p st := (rfl)
@[simp] theorem kCons_ok (es : List E) (d : D) : kCons cf es ρ (.ok d st) = kCons2 d (evEs cf es ρ st) := (rfl)
@[simp] theorem kCons_ex (es : List E) : kCons cf es ρ (.ex c p st) = .ex c p st := (rfl)
@[simp] theorem kCons2_ok (d : D) (ds : List D) : kCons2 d (.ok ds st) = .ok (d :: ds) st := (rfl)
@[simp] theorem kCons2_ex (d : D) : kCons2 d (.ex c p st) = .ex c p st := (rfl)
@[simp] theorem kT1_ok (elt : E) (cs : List E) (acc : List D) : kT1 cf elt cs acc (.ok ρ st) = kT2 cf elt acc ρ (evCs cf cs ρ st) := (rfl)
@[simp] theorem kT2_ok (elt : E) (acc : List D) (t : Bool) : kT2 cf elt acc ρ (.ok t st) = if t then (if acc.length < sizeLine then kT3 acc (evE cf elt ρ st) else .no) else .ok acc st := (rfl)
@[simp] theorem kT3_ok (acc : List D) (d : D) : kT3 acc (.ok d st) = .ok (acc ++ [(mat d st).1]) (mat d st).2 := (rfl)
@[simp] theorem kComp_ok (elt : E) (tg : Tg) (cs : List E) (own : List Nat) (sv : Sv) (n : Nat) : kComp cf elt tg cs own ρ (.ok (sv, n) st) = compB cf elt tg cs own ρ sv n st := (rfl)
@[simp] theorem kComp_ex (elt : E) (tg : Tg) (cs : List E) (own : List Nat) : kComp cf elt tg cs own ρ (.ex c p st) = .ex c p st := (rfl)
@[simp] theorem kComp2_ok (elt : E) (tg : Tg) (cs : List E) (tg1 : Tg) (src1 : Src) (cs1 : List E) (own own1 : List Nat) (sv : Sv) (n : Nat) : kComp2 cf elt tg cs tg1 src1 cs1 own own1 ρ (.ok (sv, n) st) = compB2 cf elt tg cs tg1 src1 cs1 own own1 ρ sv n st := (rfl)
@[simp] theorem kU1_ok (elt : E) (cs : List E) (tg1 : Tg) (src1 : Src) (cs1 : List E) (own1 : List Nat) (acc : List D) : kU1 cf elt cs tg1 src1 cs1 own1 acc (.ok ρ st) = kU2 cf elt tg1 src1 cs1 own1 ρ acc (evCs cf cs ρ st) := (rfl)
@[simp] theorem kU2_ok (elt : E) (tg1 : Tg) (src1 : Src) (cs1 : List E) (own1 : List Nat) (acc : List D) (t : Bool) : kU2 cf elt tg1 src1 cs1 own1 ρ acc (.ok t st) = if t then kU3 cf elt tg1 cs1 own1 ρ acc (evSrc cf src1 ρ st) else .ok acc st := (rfl)
@[simp] theorem kU3_ok (elt : E) (tg1 : Tg) (cs1 : List E) (own1 : List Nat) (acc : List D) (sv : Sv) (n : Nat) : kU3 cf elt tg1 cs1 own1 ρ acc (.ok (sv, n) st) = turns sv (turnB cf elt tg1 cs1 own1 ρ) n 0 acc st := (rfl)
@[simp] theorem kTgs_ok (ts : List Tg) (ds : List D) : kTgs cf ts ds (.ok ρ st) = evTgs cf ts ds ρ st := (rfl)
@[simp] theorem kSbA_ok (i : E) (d x : D) : kSbA cf i d ρ (.ok x st) = kSbB d ρ x (evE cf i ρ st) := (rfl)
@[simp] theorem kSbB_ok (d x y : D) : kSbB d ρ x (.ok y st) = stO ρ (setD x y d st) := (rfl)
@[simp] theorem stO_some {α : Type} (a : α) : stO a (some st) = .ok a st := (rfl)
@[simp] theorem kSvA_ok (d : D) (r : Sv × Nat) (h : svOf st d = some r) : kSvA (.ok d st) = .ok r st := by
  show (match svOf st d with | some r => Out.ok r st | none => .no) = _
  rw [h]
@[simp] theorem kSvA_ex : kSvA (.ex c p st) = .ex c p st := (rfl)
@[simp] theorem kSvR_ok (ds : List D) (r : Sv × Nat) (h : rngOf ds = some r) : kSvR (.ok ds st) = .ok r st := by
  show (match rngOf ds with | some r => Out.ok r st | none => .no) = _
  rw [h]
@[simp] theorem kSvE_ok (d : D) (s : Sv) (n : Nat) (h : svOf st d = some (s, n)) (h2 : isTup d = false) : kSvE (.ok d st) = .ok (.enu s, n) st := by
  show (match isTup d, svOf st d with | false, some (s, n) => Out.ok (Sv.enu s, n) st | _, _ => .no) = _
  rw [h, h2]
@[simp] theorem kSvZ_ok (b : E) (d : D) : kSvZ cf b ρ (.ok d st) = kSvZ2 d (evE cf b ρ st) := (rfl)
@[simp] theorem kSvZ2_ok (d e : D) (s t : Sv) (n m : Nat) (h : svOf st d = some (s, n)) (h1 : svOf st e = some (t, m)) (h2 : isTup d = isTup e) : kSvZ2 d (.ok e st) = .ok (.zip s t, min n m) st := by
  show (match isTup d == isTup e, svOf st d, svOf st e with | true, some (s, n), some (t, m) => Out.ok (Sv.zip s t, min n m) st | _, _, _ => .no) = _
  rw [h, h1, h2]
  simp
@[simp] theorem kEx_ok (d : D) : kEx ρ (.ok d st) = .ok (.nx, ρ) st := (rfl)
@[simp] theorem kEx_ex : kEx ρ (.ex c p st) = .ex c p st := (rfl)
@[simp] theorem kRet_ok (d : D) : kRet ρ (.ok d st) = .ok (.ret d, ρ) st := (rfl)
@[simp] theorem kRet_ex : kRet ρ (.ex c p st) = .ex c p st := (rfl)
@[simp] theorem kNx_ok : kNx (.ok ρ st) = .ok (.nx, ρ) st := (rfl)
@[simp] theorem kAsg_ok (t : Tg) (d : D) : kAsg cf t ρ (.ok d st) = kNx (evTg cf t d ρ st) := (rfl)
@[simp] theorem kAsg_ex (t : Tg) : kAsg cf t ρ (.ex c p st) = .ex c p st := (rfl)
@[simp] theorem kAug_ok (i : Nat) (q : Pr) (a b : Int) (d : D) (h : semI q a b = some d) : kAug i q ρ (.int a) (.ok (.int b) st) = .ok (.nx, ρ.set i (some d)) st := by
  show (match semI q a b with | some d => Out.ok (Fl.nx, ρ.set i (some d)) st | none => .no) = _
  rw [h]
@[simp] theorem kIf_ok (a b : List S) (t : Bool) : kIf cf a b ρ (.ok t st) = if t then exSs cf a ρ st else exSs cf b ρ st := (rfl)
@[simp] theorem kIf_ex (a b : List S) : kIf cf a b ρ (.ex c p st) = .ex c p st := (rfl)
@[simp] theorem kFor_ok (t : Tg) (b : List S) (sv : Sv) (n : Nat) : kFor cf t b ρ (.ok (sv, n) st) = forB cf t b sv n 0 ρ st := (rfl)
@[simp] theorem kFor_ex (t : Tg) (b : List S) : kFor cf t b ρ (.ex c p st) = .ex c p st := (rfl)
@[simp] theorem kBody_ok (b : List S) : kBody cf b (.ok ρ st) = exSs cf b ρ st := (rfl)
@[simp] theorem kTurn_nx (t : Tg) (b : List S) (sv : Sv) (n i : Nat) : kTurn cf t b sv n i (.ok (.nx, ρ) st) = forB cf t b sv n i ρ st := (rfl)
@[simp] theorem kTurn_cnt (t : Tg) (b : List S) (sv : Sv) (n i : Nat) : kTurn cf t b sv n i (.ok (.cnt, ρ) st) = forB cf t b sv n i ρ st := (rfl)
@[simp] theorem kTurn_brk (t : Tg) (b : List S) (sv : Sv) (n i : Nat) : kTurn cf t b sv n i (.ok (.brk, ρ) st) = .ok (.nx, ρ) st := (rfl)
@[simp] theorem kTurn_ret (t : Tg) (b : List S) (sv : Sv) (n i : Nat) (d : D) : kTurn cf t b sv n i (.ok (.ret d, ρ) st) = .ok (.ret d, ρ) st := (rfl)
@[simp] theorem kTurn_ex (t : Tg) (b : List S) (sv : Sv) (n i : Nat) : kTurn cf t b sv n i (.ex c p st) = .ex c p st := (rfl)
@[simp] theorem kWt_nx (e : E) (b : List S) (n : Nat) : kWt cf e b n (.ok (.nx, ρ) st) = whB cf e b n ρ st := (rfl)
@[simp] theorem kWt_cnt (e : E) (b : List S) (n : Nat) : kWt cf e b n (.ok (.cnt, ρ) st) = whB cf e b n ρ st := (rfl)
@[simp] theorem kWt_brk (e : E) (b : List S) (n : Nat) : kWt cf e b n (.ok (.brk, ρ) st) = .ok (.nx, ρ) st := (rfl)
@[simp] theorem kWt_ret (e : E) (b : List S) (n : Nat) (d : D) : kWt cf e b n (.ok (.ret d, ρ) st) = .ok (.ret d, ρ) st := (rfl)
@[simp] theorem kWc_ok (e : E) (b : List S) (n : Nat) (t : Bool) : kWc cf e b n ρ (.ok t st) = if t then kWt cf e b n (exSs cf b ρ st) else .ok (.nx, ρ) st := (rfl)
@[simp] theorem kRse_ok (k : Nat) (ds : List D) : kRse k (.ok ds st) = if ds.all notl then .ex k ds st else .no := (rfl)
@[simp] theorem kTry_ok (hs : List (Nat × Su)) (fr : Fl × Rho) : kTry hs ρ (.ok fr st) = .ok fr st := (rfl)
@[simp] theorem kTry_ex (hs : List (Nat × Su)) : kTry hs ρ (.ex c p st) = handle c p ρ st hs := (rfl)
@[simp] theorem kSeq_nx (ss : List S) : kSeq cf ss (.ok (.nx, ρ) st) = exSs cf ss ρ st := (rfl)
@[simp] theorem kSeq_ret (ss : List S) (d : D) : kSeq cf ss (.ok (.ret d, ρ) st) = .ok (.ret d, ρ) st := (rfl)
@[simp] theorem kSeq_brk (ss : List S) : kSeq cf ss (.ok (.brk, ρ) st) = .ok (.brk, ρ) st := (rfl)
@[simp] theorem kSeq_cnt (ss : List S) : kSeq cf ss (.ok (.cnt, ρ) st) = .ok (.cnt, ρ) st := (rfl)
@[simp] theorem kSeq_ex (ss : List S) : kSeq cf ss (.ex c p st) = .ex c p st := (rfl)
@[simp] theorem binds_some (d : D) : binds (some (d, st)) = .ok d st := (rfl)
@[simp] theorem noEx_ok {α : Type} (a : α) : noEx (.ok a st) = .ok a st := (rfl)
theorem forB_zero (t : Tg) (b : List S) (sv : Sv) (i : Nat) (h : sv.ends st i = true) : forB cf t b sv 0 i ρ st = .ok (.nx, ρ) st := by
  unfold forB
  rw [loopF, if_pos h]
theorem forB_succ (t : Tg) (b : List S) (sv : Sv) (n i : Nat) (d : D) (h : sv.item st i = some d) : forB cf t b sv (n + 1) i ρ st = kTurn cf t b sv n (i + 1) (kBody cf b (evTg cf t d ρ st)) := by
  unfold forB
  rw [loopF, h]
  rfl
theorem whB_succ (e : E) (b : List S) (n : Nat) : whB cf e b (n + 1) ρ st = kWc cf e b n ρ (kB (evE cf e ρ st)) := by
  unfold whB
  rw [loopW]
  rfl
end
end Mn
/-! Mn21: operations at values, calls, loops: for simp. -/
namespace Mn
open PySem
/-! ### sizes -/
/-- the product may be made -/
def fits (a b : Int) : Prop := Builtin.Int.intBits a + Builtin.Int.intBits b ≤ 134217728
def sm (n : Nat) (a : Int) : Prop := a.natAbs < 2 ^ n
theorem bits_sm {n : Nat} {a : Int} (h : sm n a) : Builtin.Int.intBits a ≤ n := by
  unfold Builtin.Int.intBits
  split
  · exact Nat.zero_le _
  · rename_i h0
    have h1 : a.natAbs ≠ 0 := by
      intro z
      have : a = 0 := by omega
      simp [this] at h0
    exact (Nat.log2_lt h1).mpr h
theorem fits_sm {n m : Nat} {a b : Int} (h : sm n a) (k : sm m b) (hl : n + m ≤ 134217728) : fits a b := by
  unfold fits
  have := bits_sm h
  have := bits_sm k
  omega
theorem sm_mono {n m : Nat} {a : Int} (h : sm n a) (hl : n ≤ m) : sm m a := Nat.lt_of_lt_of_le h (Nat.pow_le_pow_right (by decide) hl)
theorem sm_mul {n m : Nat} {a b : Int} (h : sm n a) (k : sm m b) : sm (n + m) (a * b) := by
  unfold sm at *
  rw [Int.natAbs_mul, Nat.pow_add]
  exact Nat.mul_lt_mul_of_lt_of_le h (Nat.le_of_lt k) (Nat.pos_of_ne_zero (by intro z; rw [z] at k; exact absurd k (Nat.not_lt_zero _)))
theorem sm_add {n : Nat} {a b : Int} (h : sm n a) (k : sm n b) : sm (n + 1) (a + b) := by
  unfold sm at *
  have := Int.natAbs_add_le a b
  rw [Nat.pow_succ]
  omega
theorem sm_neg {n : Nat} {a : Int} (h : sm n a) : sm n (-a) := by
  unfold sm at *
  rw [Int.natAbs_neg]
  exact h
theorem sm_sub {n : Nat} {a b : Int} (h : sm n a) (k : sm n b) : sm (n + 1) (a - b) := by
  rw [Int.sub_eq_add_neg]
  exact sm_add h (sm_neg k)
theorem sm_lit {n : Nat} {a : Int} (h : a.natAbs < 2 ^ n) : sm n a := h
/-! ### operations -/
section
variable {st : Sto} {a b : Int} {d : D}
@[simp] theorem sp_add : semP .add [.int a, .int b] st = some (.int (a + b), st) := (rfl)
@[simp] theorem sp_sub : semP .sub [.int a, .int b] st = some (.int (a - b), st) := (rfl)
@[simp] theorem sp_lt : semP .lt [.int a, .int b] st = some (.bl (decide (a < b)), st) := (rfl)
@[simp] theorem sp_le : semP .le [.int a, .int b] st = some (.bl (decide (a ≤ b)), st) := (rfl)
@[simp] theorem sp_gt : semP .gt [.int a, .int b] st = some (.bl (decide (b < a)), st) := (rfl)
@[simp] theorem sp_ge : semP .ge [.int a, .int b] st = some (.bl (decide (b ≤ a)), st) := (rfl)
@[simp] theorem sp_neg : semP .neg [.int a] st = some (.int (-a), st) := (rfl)
@[simp] theorem sp_eqI : semP .eq [.int a, .int b] st = some (.bl (decide (a = b)), st) := (rfl)
@[simp] theorem sp_neI : semP .ne [.int a, .int b] st = some (.bl (!decide (a = b)), st) := (rfl)
@[simp] theorem sp_eqB (a b : Bool) : semP .eq [.bl a, .bl b] st = some (.bl (decide (a = b)), st) := (rfl)
@[simp] theorem sp_max2 : semP .max2 [.int a, .int b] st = some (.int (if b > a then b else a), st) := (rfl)
@[simp] theorem sp_min2 : semP .min2 [.int a, .int b] st = some (.int (if b < a then b else a), st) := (rfl)
@[simp] theorem sp_mul (h : fits a b) : semP .mul [.int a, .int b] st = some (.int (a * b), st) := by
  show (match semI .mul a b with | some d => some (d, st) | none => none) = _
  unfold fits at h
  simp only [semI]
  rw [if_pos h]
@[simp] theorem sp_fdiv (h : b ≠ 0) (h2 : b.natAbs.log2 < 9000) : semP .fdiv [.int a, .int b] st = some (.int (a.fdiv b), st) := by
  show (match semI .fdiv a b with | some d => some (d, st) | none => none) = _
  simp only [semI]
  rw [if_pos ⟨h, h2⟩]
@[simp] theorem sp_mod (h : b ≠ 0) : semP .mod [.int a, .int b] st = some (.int (a.fmod b), st) := by
  show (match semI .mod a b with | some d => some (d, st) | none => none) = _
  simp only [semI]
  rw [if_pos h]
@[simp] theorem sI_lt : semI .lt a b = some (.bl (decide (a < b))) := (rfl)
@[simp] theorem sI_le : semI .le a b = some (.bl (decide (a ≤ b))) := (rfl)
@[simp] theorem sI_gt : semI .gt a b = some (.bl (decide (b < a))) := (rfl)
@[simp] theorem sI_ge : semI .ge a b = some (.bl (decide (b ≤ a))) := (rfl)
@[simp] theorem sI_add : semI .add a b = some (.int (a + b)) := (rfl)
@[simp] theorem sI_sub : semI .sub a b = some (.int (a - b)) := (rfl)
@[simp] theorem sI_mul (h : fits a b) : semI .mul a b = some (.int (a * b)) := by
  unfold fits at h
  simp only [semI]
  rw [if_pos h]
theorem abs_nat (a : Int) : (if a < 0 then -a else a) = (a.natAbs : Int) := by
  split <;> omega
@[simp] theorem sp_abs : semP .abs [.int a] st = some (.int (a.natAbs : Int), st) := by
  show some (D.int (if a < 0 then -a else a), st) = _
  rw [abs_nat]
@[simp] theorem sp_toInt : semP .toInt [.int a] st = some (.int a, st) := (rfl)
@[simp] theorem sp_toIntB (t : Bool) : semP .toInt [.bl t] st = some (.int (if t then 1 else 0), st) := (rfl)
@[simp] theorem sp_isN : semP .isN [d, .non] st = some (.bl (isNon d), st) := (rfl)
@[simp] theorem sp_notN : semP .notN [d, .non] st = some (.bl (!isNon d), st) := (rfl)
@[simp] theorem isNon_i : isNon (.int a) = false := (rfl)
@[simp] theorem isNon_t (xs : List D) : isNon (.tup xs) = false := (rfl)
@[simp] theorem isNon_n : isNon .non = true := (rfl)
@[simp] theorem isNon_b (t : Bool) : isNon (.bl t) = false := (rfl)
@[simp] theorem isNon_s (s : List Nat) : isNon (.str s) = false := (rfl)
@[simp] theorem isNon_l (n : Nat) : isNon (.lr n) = false := (rfl)
@[simp] theorem isNon_tl (xs : List D) : isNon (.tl xs) = false := (rfl)
@[simp] theorem isNon_kl (xs : List D) : isNon (.kl xs) = false := (rfl)
@[simp] theorem sp_lenT (xs : List D) : semP .len [.tup xs] st = some (.int xs.length, st) := (rfl)
@[simp] theorem sp_lenL (xs : List D) : semP .len [.tl xs] st = some (.int xs.length, st) := (rfl)
@[simp] theorem sp_lenK (xs : List D) : semP .len [.kl xs] st = some (.int xs.length, st) := (rfl)
theorem sp_lenR {n : Nat} {xs : List D} (h : st[n]? = some (.lst xs)) : semP .len [.lr n] st = some (.int xs.length, st) := by
  simp [semP, sem1, seqOf, lstOf, h]
@[simp] theorem sp_tupT (xs : List D) : semP .tuple [.tup xs] st = some (.tup xs, st) := (rfl)
@[simp] theorem sp_tupL (xs : List D) : semP .tuple [.tl xs] st = some (.tup xs, st) := (rfl)
@[simp] theorem sp_tupK (xs : List D) : semP .tuple [.kl xs] st = some (.tup xs, st) := (rfl)
theorem sp_tupR {n : Nat} {xs : List D} (h : st[n]? = some (.lst xs)) : semP .tuple [.lr n] st = some (.tup xs, st) := by
  simp [semP, sem1, seqOf, lstOf, h]
@[simp] theorem sp_lstT (xs : List D) : semP .list [.tup xs] st = some (.tl xs, st) := (rfl)
@[simp] theorem sp_lstL (xs : List D) : semP .list [.tl xs] st = some (.tl xs, st) := (rfl)
@[simp] theorem sp_lstK (xs : List D) : semP .list [.kl xs] st = some (.tl xs, st) := (rfl)
theorem sp_lstR {n : Nat} {xs : List D} (h : st[n]? = some (.lst xs)) : semP .list [.lr n] st = some (.tl xs, st) := by
  simp [semP, sem1, seqOf, lstOf, h]
theorem allI_map : ∀ ns : List Int, allI (ns.map D.int) = some ns
  | [] => rfl
  | n :: ns => by
    have := allI_map ns
    unfold allI at *
    rw [List.map_cons, mapO, this]
theorem allB_map : ∀ ns : List Bool, allB (ns.map D.bl) = some ns
  | [] => rfl
  | n :: ns => by
    have := allB_map ns
    unfold allB at *
    rw [List.map_cons, mapO, this]
theorem sp_sum (ns : List Int) : semP .sum [.tl (ns.map D.int)] st = some (.int ns.sum, st) := by
  simp [semP, sem1, lstOf, allI_map]
theorem sp_all (ns : List Bool) : semP .all [.tl (ns.map D.bl)] st = some (.bl (ns.all id), st) := by
  simp [semP, sem1, lstOf, allB_map]
theorem sp_any (ns : List Bool) : semP .any [.tl (ns.map D.bl)] st = some (.bl (ns.any id), st) := by
  simp [semP, sem1, lstOf, allB_map]
/-! places -/
theorem atI_get' {α : Type} (xs : List α) (i : Nat) : L2.atI xs (i : Int) = xs[i]? := by
  unfold L2.atI L2.ixN
  rw [if_pos (by omega)]
  by_cases h : i < xs.length
  · rw [if_pos (by omega)]
    simp
  · rw [if_neg (by omega), List.getElem?_eq_none (by omega)]
    rfl
theorem sp_ixT {xs : List D} {i : Nat} {d : D} (h : xs[i]? = some d) : semP .ix [.tup xs, .int (i : Int)] st = some (d, st) := by
  simp [semP, sem2, seqOf, atI_get', h]
theorem sp_ixL {xs : List D} {i : Nat} {d : D} (h : xs[i]? = some d) : semP .ix [.tl xs, .int (i : Int)] st = some (d, st) := by
  simp [semP, sem2, seqOf, lstOf, atI_get', h]
theorem sp_ixK {xs : List D} {i : Nat} {d : D} (h : xs[i]? = some d) : semP .ix [.kl xs, .int (i : Int)] st = some (d, st) := by
  simp [semP, sem2, seqOf, lstOf, atI_get', h]
theorem sp_ixR {n : Nat} {xs : List D} {i : Nat} {d : D} (h0 : st[n]? = some (.lst xs)) (h : xs[i]? = some d) : semP .ix [.lr n, .int (i : Int)] st = some (d, st) := by
  simp [semP, sem2, seqOf, lstOf, h0, atI_get', h]
@[simp] theorem sp_ix0 (x : D) (xs : List D) : semP .ix [.tup (x :: xs), .int 0] st = some (x, st) := sp_ixT (i := 0) rfl
@[simp] theorem sp_ix1 (x y : D) (xs : List D) : semP .ix [.tup (x :: y :: xs), .int 1] st = some (y, st) := sp_ixT (i := 1) rfl
@[simp] theorem sp_ix2 (x y z : D) (xs : List D) : semP .ix [.tup (x :: y :: z :: xs), .int 2] st = some (z, st) := sp_ixT (i := 2) rfl
@[simp] theorem sp_ix3 (x y z w : D) (xs : List D) : semP .ix [.tup (x :: y :: z :: w :: xs), .int 3] st = some (w, st) := sp_ixT (i := 3) rfl
/-! types -/
@[simp] theorem sp_instI (ts : List Ty) : semP (.inst ts) [.int a] st = some (.bl (ts.any (subTy .int)), st) := (rfl)
@[simp] theorem sp_instB (ts : List Ty) (t : Bool) : semP (.inst ts) [.bl t] st = some (.bl (ts.any (subTy .bool)), st) := (rfl)
@[simp] theorem sp_instS (ts : List Ty) (s : List Nat) : semP (.inst ts) [.str s] st = some (.bl (ts.any (subTy .str)), st) := (rfl)
@[simp] theorem sp_instT (ts : List Ty) (xs : List D) : semP (.inst ts) [.tup xs] st = some (.bl (ts.any (subTy .tuple)), st) := (rfl)
@[simp] theorem sp_instL (ts : List Ty) (xs : List D) : semP (.inst ts) [.tl xs] st = some (.bl (ts.any (subTy .list)), st) := (rfl)
@[simp] theorem sp_instK (ts : List Ty) (xs : List D) : semP (.inst ts) [.kl xs] st = some (.bl (ts.any (subTy .list)), st) := (rfl)
@[simp] theorem sp_instN (ts : List Ty) : semP (.inst ts) [.non] st = some (.bl false, st) := (rfl)
theorem sp_instR (ts : List Ty) {n : Nat} {o : Ob} (h : st[n]? = some o) : semP (.inst ts) [.lr n] st = some (.bl (ts.any (subTy .list)), st) := by
  simp [semP, sem1, tyOf, h]
/-! stores -/
@[simp] theorem mat_i : mat (.int a) st = (.int a, st) := (rfl)
@[simp] theorem mat_b (t : Bool) : mat (.bl t) st = (.bl t, st) := (rfl)
@[simp] theorem mat_s (s : List Nat) : mat (.str s) st = (.str s, st) := (rfl)
@[simp] theorem mat_n : mat .non st = (.non, st) := (rfl)
@[simp] theorem mat_t (xs : List D) : mat (.tup xs) st = (.tup xs, st) := (rfl)
@[simp] theorem mat_k (xs : List D) : mat (.kl xs) st = (.kl xs, st) := (rfl)
@[simp] theorem mat_r (n : Nat) : mat (.lr n) st = (.lr n, st) := (rfl)
@[simp] theorem mat_f (g : Nat) : mat (.fn g) st = (.fn g, st) := (rfl)
@[simp] theorem mat_l (xs : List D) : mat (.tl xs) st = (.lr st.length, st ++ [.lst xs]) := (rfl)
@[simp] theorem mats_nil : mats [] st = ([], st) := (rfl)
@[simp] theorem mats_cons (d : D) (ds : List D) : mats (d :: ds) st = ((mat d st).1 :: (mats ds (mat d st).2).1, (mats ds (mat d st).2).2) := (rfl)
theorem mat_notl (h : notl d = true) : mat d st = (d, st) := by
  cases d <;> first | rfl | cases h
@[simp] theorem rcv_a (n : Nat) : rcv .append (.lr n) = true := (rfl)
@[simp] theorem rcv_0 (n : Nat) : rcv .pop0 (.lr n) = true := (rfl)
@[simp] theorem rcv_1 (n : Nat) : rcv .pop1 (.lr n) = true := (rfl)
theorem sp_app {n : Nat} {xs : List D} (h : st[n]? = some (.lst xs)) (hl : xs.length < sizeLine) (hd : notl d = true) : semP .append [.lr n, d] st = some (.non, st.set n (.lst (xs ++ [d]))) := by
  simp [semP, sem2, h, hl, mat_notl hd]
theorem setD_eq {n : Nat} {xs : List D} {i : Nat} (h : st[n]? = some (.lst xs)) (hi : i < xs.length) (hd : notl d = true) : setD (.lr n) (.int (i : Int)) d st = some (st.set n (.lst (xs.set i d))) := by
  have e : L2.ixN xs.length (i : Int) = some i := by
    unfold L2.ixN
    rw [if_pos (by omega), if_pos (by omega)]
    simp
  simp [setD, h, e, mat_notl hd]
@[simp] theorem nt_i : notl (.int a) = true := (rfl)
@[simp] theorem nt_b (t : Bool) : notl (.bl t) = true := (rfl)
@[simp] theorem nt_s (s : List Nat) : notl (.str s) = true := (rfl)
@[simp] theorem nt_n : notl .non = true := (rfl)
@[simp] theorem nt_t (xs : List D) : notl (.tup xs) = true := (rfl)
@[simp] theorem nt_k (xs : List D) : notl (.kl xs) = true := (rfl)
@[simp] theorem nt_r (n : Nat) : notl (.lr n) = true := (rfl)
@[simp] theorem nt_f (g : Nat) : notl (.fn g) = true := (rfl)
/-! sources -/
@[simp] theorem sv_t (xs : List D) : svOf st (.tup xs) = some (.fix xs, xs.length) := (rfl)
@[simp] theorem sv_l (xs : List D) : svOf st (.tl xs) = some (.fix xs, xs.length) := (rfl)
@[simp] theorem sv_k (xs : List D) : svOf st (.kl xs) = some (.fix xs, xs.length) := (rfl)
theorem sv_r {n : Nat} {xs : List D} (h : st[n]? = some (.lst xs)) : svOf st (.lr n) = some (.cell n, xs.length) := by
  simp [svOf, lstOf, h]
theorem rng1 (h1 : -(2 ^ 62) ≤ b) (h2 : b < 2 ^ 62) : rngOf [.int b] = some (.rng 0 1, b.toNat) := by
  have : inR b = true := by
    unfold inR
    rw [decide_eq_true h1, decide_eq_true h2]
    rfl
  simp only [rngOf, this, if_true]
theorem rng2 (h1 : -(2 ^ 62) ≤ a) (h2 : a < 2 ^ 62) (h3 : -(2 ^ 62) ≤ b) (h4 : b < 2 ^ 62) : rngOf [.int a, .int b] = some (.rng a 1, (b - a).toNat) := by
  have e1 : inR a = true := by
    unfold inR
    rw [decide_eq_true h1, decide_eq_true h2]
    rfl
  have e2 : inR b = true := by
    unfold inR
    rw [decide_eq_true h3, decide_eq_true h4]
    rfl
  simp only [rngOf, e1, e2, Bool.and_self, if_true]
end
/-! ### equality of plain data -/
mutual
/-- plain data, at most n deep -/
def pd : Nat → D → Bool
  | 0, _ => false
  | n + 1, d => match d with
    | .non => true
    | .bl _ => true
    | .int _ => true
    | .str s => s.all fun c => decide (c < 0x110000)
    | .tup xs => pds n xs
    | _ => false
def pds : Nat → List D → Bool
  | _, [] => true
  | n, d :: ds => pd n d && pds n ds
end
mutual
def eqP : D → D → Bool
  | .non, .non => true
  | .bl a, .bl b => a == b
  | .bl a, .int b => (if a then 1 else 0) == b
  | .int a, .bl b => a == (if b then 1 else 0)
  | .int a, .int b => a == b
  | .str a, .str b => a == b
  | .tup xs, .tup ys => eqPs xs ys
  | _, _ => false
def eqPs : List D → List D → Bool
  | [], [] => true
  | x :: xs, y :: ys => eqP x y && eqPs xs ys
  | _, _ => false
end
mutual
/-- the model's data of it -/
def dataOf : D → PyData
  | .bl b => .bool b
  | .int i => .int i
  | .str s => .str ⟨s.toArray⟩
  | .tup xs => .tuple (datasOf xs)
  | _ => .none
def datasOf : List D → List PyData
  | [] => []
  | d :: ds => dataOf d :: datasOf ds
end
theorem toP_pd (st : Sto) : ∀ (n : Nat) (d : D), pd n d = true → toP st n d = some (dataOf d) := by
  intro n
  induction n with
  | zero => intro d h; simp [pd] at h
  | succ n ih =>
    intro d h
    have many : ∀ ds : List D, pds n ds = true → mapO (toP st n) ds = some (datasOf ds) := by
      intro ds
      induction ds with
      | nil => intro _; rfl
      | cons d ds ih2 =>
        intro h
        have h' : pd n d = true ∧ pds n ds = true := by simpa [pds] using h
        rw [mapO, ih d h'.1, ih2 h'.2]
        rfl
    cases d with
    | non => rfl
    | bl b => rfl
    | int i => rfl
    | str s =>
      simp only [pd] at h
      simp only [toP]
      rw [if_pos (by
        unfold PySem.PyData.strOk
        simp only [List.all_eq_true, decide_eq_true_eq] at h
        simpa using h)]
      rfl
    | tup xs =>
      simp only [pd] at h
      simp only [toP, many xs h]
      rfl
    | tl xs => simp [pd] at h
    | kl xs => simp [pd] at h
    | lr n => simp [pd] at h
    | fn g => simp [pd] at h
theorem str_beq' (a b : List Nat) : ((⟨a.toArray⟩ : Str) == ⟨b.toArray⟩) = (a == b) := by
  by_cases h : a = b
  · subst h
    simp
  · have : ¬ (⟨a.toArray⟩ : Str) = ⟨b.toArray⟩ := by
      intro z
      apply h
      have := congrArg (fun s : Str => s.cps.toList) z
      simpa using this
    rw [beq_eq_false_iff_ne.mpr this, beq_eq_false_iff_ne.mpr h]
mutual
theorem eqv_data : ∀ (n m : Nat) (a b : D), pd n a = true → pd m b = true → PyData.eqv (dataOf a) (dataOf b) = eqP a b
  | 0, _, _, _, h, _ => by simp [pd] at h
  | _ + 1, 0, _, _, _, h => by simp [pd] at h
  | n + 1, m + 1, .tup xs, .tup ys, h, k => by
    simp only [pd] at h k
    simp only [dataOf, PyData.eqv, eqP]
    exact eqvs_data n m xs ys h k
  | n + 1, m + 1, .str x, .str y, h, k => by
    simp only [dataOf, PyData.eqv, eqP]
    exact str_beq' x y
  | n + 1, m + 1, .non, b, h, k => by cases b <;> first | (simp [pd] at k; done) | simp [dataOf, PyData.eqv, eqP]
  | n + 1, m + 1, .bl x, b, h, k => by cases b <;> first | (simp [pd] at k; done) | simp [dataOf, PyData.eqv, eqP]
  | n + 1, m + 1, .int x, b, h, k => by cases b <;> first | (simp [pd] at k; done) | simp [dataOf, PyData.eqv, eqP]
  | n + 1, m + 1, .tup xs, .non, h, k => by simp [dataOf, PyData.eqv, eqP]
  | n + 1, m + 1, .tup xs, .bl _, h, k => by simp [dataOf, PyData.eqv, eqP]
  | n + 1, m + 1, .tup xs, .int _, h, k => by simp [dataOf, PyData.eqv, eqP]
  | n + 1, m + 1, .tup xs, .str _, h, k => by simp [dataOf, PyData.eqv, eqP]
  | n + 1, m + 1, .tup xs, .tl _, h, k => by simp [pd] at k
  | n + 1, m + 1, .tup xs, .kl _, h, k => by simp [pd] at k
  | n + 1, m + 1, .tup xs, .lr _, h, k => by simp [pd] at k
  | n + 1, m + 1, .tup xs, .fn _, h, k => by simp [pd] at k
  | n + 1, m + 1, .str xs, .non, h, k => by simp [dataOf, PyData.eqv, eqP]
  | n + 1, m + 1, .str xs, .bl _, h, k => by simp [dataOf, PyData.eqv, eqP]
  | n + 1, m + 1, .str xs, .int _, h, k => by simp [dataOf, PyData.eqv, eqP]
  | n + 1, m + 1, .str xs, .tup _, h, k => by simp [dataOf, PyData.eqv, eqP]
  | n + 1, m + 1, .str xs, .tl _, h, k => by simp [pd] at k
  | n + 1, m + 1, .str xs, .kl _, h, k => by simp [pd] at k
  | n + 1, m + 1, .str xs, .lr _, h, k => by simp [pd] at k
  | n + 1, m + 1, .str xs, .fn _, h, k => by simp [pd] at k
  | n + 1, m + 1, .tl _, _, h, _ => by simp [pd] at h
  | n + 1, m + 1, .kl _, _, h, _ => by simp [pd] at h
  | n + 1, m + 1, .lr _, _, h, _ => by simp [pd] at h
  | n + 1, m + 1, .fn _, _, h, _ => by simp [pd] at h
theorem eqvs_data : ∀ (n m : Nat) (a b : List D), pds n a = true → pds m b = true → PyData.eqvAll (datasOf a) (datasOf b) = eqPs a b
  | _, _, [], [], _, _ => by simp [datasOf, PyData.eqvAll, eqPs]
  | _, _, [], _ :: _, _, _ => by simp [datasOf, PyData.eqvAll, eqPs]
  | _, _, _ :: _, [], _, _ => by simp [datasOf, PyData.eqvAll, eqPs]
  | n, m, x :: xs, y :: ys, h, k => by
    have h' : pd n x = true ∧ pds n xs = true := by simpa [pds] using h
    have k' : pd m y = true ∧ pds m ys = true := by simpa [pds] using k
    simp only [datasOf, PyData.eqvAll, eqPs]
    rw [eqv_data n m x y h'.1 k'.1, eqvs_data n m xs ys h'.2 k'.2]
end
theorem eqD_pd {st : Sto} {a b : D} (h : pd 16 a = true) (k : pd 16 b = true) : eqD st a b = some (eqP a b) := by
  unfold eqD
  split
  · simp only [eqP]; rename_i i j; by_cases e : i = j <;> simp [e]
  · simp only [eqP]; rename_i i j; cases i <;> cases j <;> rfl
  · rfl
  · rw [toP_pd st 16 _ h, toP_pd st 16 _ k]
    show some (PyData.eqv (dataOf a) (dataOf b)) = _
    rw [eqv_data 16 16 _ _ h k]
theorem sp_eq {st : Sto} {a b : D} (h : pd 16 a = true) (k : pd 16 b = true) : semP .eq [a, b] st = some (.bl (eqP a b), st) := by
  simp [semP, sem2, eqD_pd h k]
theorem sp_ne {st : Sto} {a b : D} (h : pd 16 a = true) (k : pd 16 b = true) : semP .ne [a, b] st = some (.bl (!eqP a b), st) := by
  simp [semP, sem2, eqD_pd h k]
mutual
theorem eqP_refl : ∀ (n : Nat) (d : D), pd n d = true → eqP d d = true
  | 0, _, h => by simp [pd] at h
  | n + 1, .non, _ => by simp [eqP]
  | n + 1, .bl b, _ => by simp [eqP]
  | n + 1, .int i, _ => by simp [eqP]
  | n + 1, .str s, _ => by simp [eqP]
  | n + 1, .tup xs, h => by
    simp only [pd] at h
    simp only [eqP]
    exact eqPs_refl n xs h
  | n + 1, .tl _, h => by simp [pd] at h
  | n + 1, .kl _, h => by simp [pd] at h
  | n + 1, .lr _, h => by simp [pd] at h
  | n + 1, .fn _, h => by simp [pd] at h
theorem eqPs_refl : ∀ (n : Nat) (ds : List D), pds n ds = true → eqPs ds ds = true
  | _, [], _ => by simp [eqPs]
  | n, d :: ds, h => by
    have h' : pd n d = true ∧ pds n ds = true := by simpa [pds] using h
    simp only [eqPs]
    rw [eqP_refl n d h'.1, eqPs_refl n ds h'.2]
    rfl
end
/-! ### calls -/
section
variable {T : List Fn} {wf k g : Nat} {f : Fn} {ds : List D} {st : Sto}
theorem call_def (hT : T[g]? = some f) (hl : ds.length = f.np) : callF T wf (k + 1) g ds st = fin st.length (exSs ⟨callF T wf k, wf, T.length⟩ f.body (ds.map some ++ List.replicate (f.nl - f.np) none) st) := by
  rw [callF, hT]
  exact if_pos hl
theorem retn_same {n : Nat} {d : D} (h : st.length ≤ n) : retn n d st = .ok d st := by
  have e : st.take n = st := List.take_of_length_le h
  unfold retn
  split
  · split
    · rename_i j
      split
      · rw [e]
      · rename_i hj
        have : st[j]? = none := by
          rw [List.getElem?_eq_none_iff]
          rcases Nat.lt_or_ge j n with z | z
          · exact absurd (Nat.blt_eq.mpr z) hj
          · omega
        rw [this]
    · split
      · rw [e]
      · rfl
  · rfl
theorem fin_ret {ρ : Rho} {d : D} : fin st.length (.ok (.ret d, ρ) st) = .ok d st := retn_same (Nat.le_refl _)
theorem fin_nx {ρ : Rho} : fin st.length (.ok (.nx, ρ) st) = .ok .non st := retn_same (Nat.le_refl _)
theorem fin_retL {n : Nat} {ρ : Rho} {d : D} (h : st.length ≤ n) : fin n (.ok (.ret d, ρ) st) = .ok d st := retn_same h
theorem fin_ex {n c : Nat} {p : List D} (h : st.length ≤ n) : fin n (.ex c p st) = .ex c p st := by
  have e : st.take n = st := List.take_of_length_le h
  show (if (clean n st && belows n p) = true then Out.ex c p (st.take n) else .ex c p st) = _
  rw [e]
  exact ite_self _
/-- a store whose lists name its own lists alone -/
def Wf (st : Sto) : Prop := st.all (Ob.below st.length) = true
theorem clean_app {st ext : Sto} (h : Wf st) : clean st.length (st ++ ext) = true := by
  unfold clean
  rw [List.take_left']
  · exact h
  · rfl
theorem retn_app {ext : Sto} {d : D} (h : Wf st) (hb : below st.length d = true) : retn st.length d (st ++ ext) = .ok d st := by
  have e : (st ++ ext).take st.length = st := List.take_left' rfl
  unfold retn
  rw [if_pos (clean_app h)]
  split
  · rename_i j
    rw [if_pos (by simpa only [below] using hb), e]
  · rw [if_pos hb, e]
theorem retn_new {ext : Sto} {j : Nat} {xs : List D} (h : Wf st) (hj : st.length ≤ j) (hx : (st ++ ext)[j]? = some (.lst xs)) (hb : belows st.length xs = true) : retn st.length (.lr j) (st ++ ext) = .ok (.tl xs) st := by
  have e : (st ++ ext).take st.length = st := List.take_left' rfl
  unfold retn
  rw [if_pos (clean_app h)]
  simp only
  rw [if_neg (by
    intro z
    have := Nat.blt_eq.mp z
    omega)]
  simp only [hx]
  rw [if_pos hb, e]
theorem retn_tl {ext : Sto} {xs : List D} (h : Wf st) (hb : belows st.length xs = true) : retn st.length (.tl xs) (st ++ ext) = .ok (.tl xs) st := retn_app h (by simpa only [below] using hb)
theorem fin_retA {ext : Sto} {ρ : Rho} {d : D} (h : Wf st) (hb : below st.length d = true) : fin st.length (.ok (.ret d, ρ) (st ++ ext)) = .ok d st := retn_app h hb
theorem fin_exA {ext : Sto} {c : Nat} (h : Wf st) : fin st.length (.ex c [] (st ++ ext)) = .ex c [] st := by
  have e : (st ++ ext).take st.length = st := List.take_left' rfl
  show (if (clean st.length (st ++ ext) && belows st.length []) = true then Out.ex c [] ((st ++ ext).take st.length) else _) = _
  rw [clean_app h, e]
  rfl
end
theorem Wf_nil : Wf [] := rfl
mutual
theorem below_pd (m : Nat) : ∀ (n : Nat) (d : D), pd n d = true → below m d = true
  | 0, _, h => by simp [pd] at h
  | n + 1, .non, _ => by simp [below]
  | n + 1, .bl b, _ => by simp [below]
  | n + 1, .int i, _ => by simp [below]
  | n + 1, .str s, _ => by simp [below]
  | n + 1, .tup xs, h => by
    simp only [pd] at h
    simp only [below]
    exact belows_pd m n xs h
  | n + 1, .tl _, h => by simp [pd] at h
  | n + 1, .kl _, h => by simp [pd] at h
  | n + 1, .lr _, h => by simp [pd] at h
  | n + 1, .fn _, h => by simp [pd] at h
theorem belows_pd (m : Nat) : ∀ (n : Nat) (ds : List D), pds n ds = true → belows m ds = true
  | _, [], _ => by simp [belows]
  | n, d :: ds, h => by
    have h' : pd n d = true ∧ pds n ds = true := by simpa [pds] using h
    simp only [belows]
    rw [below_pd m n d h'.1, belows_pd m n ds h'.2]
    rfl
end
/-! ### loops -/
section
variable {cf : Cf} {t : Tg} {b : List S} {sv : Sv}
/-- I: what is true ahead of turn i -/
theorem for_inv (I : Nat → Rho → Sto → Prop) : ∀ {k i : Nat} {ρ : Rho} {st : Sto}, I i ρ st → (∀ j ρ st, i ≤ j → j < i + k → I j ρ st → ∃ d ρ2 st2, sv.item st j = some d ∧ (kBody cf b (evTg cf t d ρ st) = .ok (.nx, ρ2) st2 ∨ kBody cf b (evTg cf t d ρ st) = .ok (.cnt, ρ2) st2) ∧ I (j + 1) ρ2 st2) →
    (∀ ρ st, I (i + k) ρ st → sv.ends st (i + k) = true) → ∃ ρ' st', forB cf t b sv k i ρ st = .ok (.nx, ρ') st' ∧ I (i + k) ρ' st'
  | 0, i, ρ, st, h0, _, he => ⟨ρ, st, forB_zero t b sv i (he ρ st h0), h0⟩
  | k + 1, i, ρ, st, h0, hs, he => by
    obtain ⟨d, ρ2, st2, e1, e2, h2⟩ := hs i ρ st (Nat.le_refl _) (by omega) h0
    have e : i + (k + 1) = i + 1 + k := by omega
    obtain ⟨ρ', st', e3, h3⟩ := for_inv I (k := k) h2 (fun j ρ st h1 h2 => hs j ρ st (by omega) (by omega)) (fun ρ st h => by
      have := he ρ st (by rw [e]; exact h)
      rw [e] at this
      exact this)
    refine ⟨ρ', st', ?_, by rw [e]; exact h3⟩
    rw [forB_succ t b sv k i d e1]
    rcases e2 with e2 | e2 <;> rw [e2] <;> exact e3
end
section
variable {cf : Cf} {elt : E} {tg : Tg} {cs : List E} {own : List Nat} {ρ : Rho} {sv : Sv}
/-- each turn adds one item, the store stays -/
theorem turns_map (F : Nat → D) {st : Sto} {body : D → List D → Sto → Out (List D)} : ∀ {k i : Nat} {acc : List D}, (∀ j acc, i ≤ j → j < i + k → acc.length < i + k → ∃ d, sv.item st j = some d ∧ body d acc st = .ok (acc ++ [F j]) st) → acc.length ≤ i → sv.ends st (i + k) = true →
    turns sv body k i acc st = .ok (acc ++ (List.range k).map fun j => F (i + j)) st
  | 0, i, acc, _, _, he => by
    rw [turns, if_pos (show sv.ends st i = true from he)]
    simp
  | k + 1, i, acc, hs, hl, he => by
    obtain ⟨d, e1, e2⟩ := hs i acc (Nat.le_refl _) (by omega) (by omega)
    have e : i + (k + 1) = i + 1 + k := by omega
    have ih := turns_map F (st := st) (body := body) (k := k) (i := i + 1) (acc := acc ++ [F i]) (fun j acc h1 h2 h3 => hs j acc (by omega) (by omega) (by omega)) (by simp; omega) (by rw [← e]; exact he)
    rw [turns, e1]
    show (body d acc st).bind _ = _
    rw [e2]
    show turns sv body k (i + 1) (acc ++ [F i]) st = _
    rw [ih, List.append_assoc]
    congr 1
    rw [List.range_succ_eq_map, List.map_cons, List.map_map]
    show acc ++ (F i :: List.map (fun j => F (i + 1 + j)) (List.range k)) = _
    congr 2
    apply List.map_congr_left
    intro j _
    show F (i + 1 + j) = F (i + (j + 1))
    congr 1
    omega
theorem comp_map (F : Nat → D) {st : Sto} {k : Nat} (h : ∀ j acc, j < k → acc.length < k → ∃ d, sv.item st j = some d ∧ turnB cf elt tg cs own ρ d acc st = .ok (acc ++ [F j]) st) (he : sv.ends st k = true) :
    compB cf elt tg cs own ρ sv k st = .ok (.tl ((List.range k).map F)) st := by
  unfold compB
  rw [turns_map F (i := 0) (acc := []) (fun j acc _ h2 h3 => h j acc (by omega) (by omega)) (Nat.le_refl _) (by simpa using he)]
  simp
/-- .. with a test -/
theorem turns_filter (P : Nat → Bool) (F : Nat → D) {st : Sto} {body : D → List D → Sto → Out (List D)} : ∀ {k i : Nat} {acc : List D}, (∀ j acc, i ≤ j → j < i + k → acc.length < i + k → ∃ d, sv.item st j = some d ∧ body d acc st = .ok (if P j then acc ++ [F j] else acc) st) → acc.length ≤ i → sv.ends st (i + k) = true →
    turns sv body k i acc st = .ok (acc ++ (((List.range k).map (i + ·)).filter P).map F) st
  | 0, i, acc, _, _, he => by
    rw [turns, if_pos (show sv.ends st i = true from he)]
    simp
  | k + 1, i, acc, hs, hl, he => by
    obtain ⟨d, e1, e2⟩ := hs i acc (Nat.le_refl _) (by omega) (by omega)
    have e : i + (k + 1) = i + 1 + k := by omega
    have ih := fun acc' hl' => turns_filter P F (st := st) (body := body) (k := k) (i := i + 1) (acc := acc') (fun j acc h1 h2 h3 => hs j acc (by omega) (by omega) (by omega)) hl' (by rw [← e]; exact he)
    rw [turns, e1]
    show (body d acc st).bind _ = _
    rw [e2]
    show turns sv body k (i + 1) (if P i then acc ++ [F i] else acc) st = _
    have er : (List.range (k + 1)).map (i + ·) = i :: (List.range k).map (i + 1 + ·) := by
      rw [List.range_succ_eq_map, List.map_cons, List.map_map]
      congr 1
      apply List.map_congr_left
      intro j _
      show i + (j + 1) = i + 1 + j
      omega
    rw [er, List.filter_cons]
    cases P i with
    | true =>
      rw [if_pos rfl, if_pos rfl, ih _ (by simp; omega), List.map_cons, List.append_assoc]
      rfl
    | false =>
      rw [if_neg Bool.false_ne_true, if_neg Bool.false_ne_true, ih _ (by omega)]
theorem comp_filter (P : Nat → Bool) (F : Nat → D) {st : Sto} {k : Nat} (h : ∀ j acc, j < k → acc.length < k → ∃ d, sv.item st j = some d ∧ turnB cf elt tg cs own ρ d acc st = .ok (if P j then acc ++ [F j] else acc) st) (he : sv.ends st k = true) :
    compB cf elt tg cs own ρ sv k st = .ok (.tl (((List.range k).filter P).map F)) st := by
  unfold compB
  rw [turns_filter P F (i := 0) (acc := []) (fun j acc _ h2 h3 => h j acc (by omega) (by omega)) (Nat.le_refl _) (by simpa using he)]
  simp
end
@[simp] theorem item_rng (lo c : Int) (st : Sto) (i : Nat) : Sv.item (.rng lo c) st i = some (.int (lo + i * c)) := (rfl)
@[simp] theorem item_fix (xs : List D) (st : Sto) (i : Nat) : Sv.item (.fix xs) st i = xs[i]? := (rfl)
theorem item_cell {n : Nat} {st : Sto} {xs : List D} (h : st[n]? = some (.lst xs)) (i : Nat) : Sv.item (.cell n) st i = xs[i]? := by
  simp [Sv.item, lstOf, h]
@[simp] theorem ends_rng (lo c : Int) (st : Sto) (n : Nat) : Sv.ends (.rng lo c) st n = true := (rfl)
@[simp] theorem ends_fix (xs : List D) (st : Sto) (n : Nat) : Sv.ends (.fix xs) st n = (xs.length == n) := (rfl)
theorem ends_cell {n : Nat} {st : Sto} {xs : List D} (h : st[n]? = some (.lst xs)) (i : Nat) : Sv.ends (.cell n) st i = (xs.length == i) := by
  simp [Sv.ends, lstOf, h]
theorem small_acc {acc : List D} {k : Nat} (h : acc.length < k) (hk : k ≤ 16777216) : acc.length < sizeLine := Nat.lt_of_lt_of_le h hk
/-- a for over a range from 0: R: the slots ahead of turn j, w: what no one reads -/
theorem for_rng {cf : Cf} {t : Tg} {b : List S} {J : Type} (R : Nat → J → Rho) {st : Sto} {k : Nat} {ρ : Rho} (w0 : J) (h0 : ρ = R 0 w0)
    (hs : ∀ j w, j < k → ∃ w', kBody cf b (evTg cf t (.int (j : Int)) (R j w) st) = .ok (.nx, R (j + 1) w') st) : ∃ w, forB cf t b (.rng 0 1) k 0 ρ st = .ok (.nx, R k w) st := by
  obtain ⟨ρ', st', h1, w, h2, h3⟩ := for_inv (cf := cf) (t := t) (b := b) (sv := .rng 0 1) (k := k) (i := 0) (ρ := ρ) (st := st) (fun i ρ s => ∃ w, ρ = R i w ∧ s = st) ⟨w0, h0, rfl⟩
    (fun j ρ s _ hj ⟨w, hρ, hs'⟩ => by
      subst hρ hs'
      obtain ⟨w', e⟩ := hs j w (by omega)
      refine ⟨_, _, _, rfl, .inl ?_, ⟨w', rfl, rfl⟩⟩
      have : (0 : Int) + (j : Int) * 1 = j := by omega
      rw [this]
      exact e) (fun _ _ _ => rfl)
  subst h2 h3
  rw [Nat.zero_add] at h1
  exact ⟨w, h1⟩
/-- .. the store too -/
theorem for_rngS {cf : Cf} {t : Tg} {b : List S} {J : Type} (R : Nat → J → Rho) (St : Nat → Sto) {k : Nat} {ρ : Rho} {st : Sto} (w0 : J) (h0 : ρ = R 0 w0) (h1 : st = St 0)
    (hs : ∀ j w, j < k → ∃ w', kBody cf b (evTg cf t (.int (j : Int)) (R j w) (St j)) = .ok (.nx, R (j + 1) w') (St (j + 1))) : ∃ w, forB cf t b (.rng 0 1) k 0 ρ st = .ok (.nx, R k w) (St k) := by
  obtain ⟨ρ', st', h1, w, h2, h3⟩ := for_inv (cf := cf) (t := t) (b := b) (sv := .rng 0 1) (k := k) (i := 0) (ρ := ρ) (st := st) (fun i ρ s => ∃ w, ρ = R i w ∧ s = St i) ⟨w0, h0, h1⟩
    (fun j ρ s _ hj ⟨w, hρ, hs'⟩ => by
      subst hρ hs'
      obtain ⟨w', e⟩ := hs j w (by omega)
      refine ⟨_, _, _, rfl, .inl ?_, ⟨w', rfl, rfl⟩⟩
      have : (0 : Int) + (j : Int) * 1 = j := by omega
      rw [this]
      exact e) (fun _ _ _ => rfl)
  subst h2 h3
  rw [Nat.zero_add] at h1
  exact ⟨w, h1⟩
/-- [.. for j in range(k)] -/
theorem comp_rng {cf : Cf} {elt : E} {tg : Tg} {cs : List E} {own : List Nat} {ρ : Rho} (F : Nat → D) {st : Sto} {k : Nat} (h : ∀ j acc, j < k → acc.length < k → turnB cf elt tg cs own ρ (.int (j : Int)) acc st = .ok (acc ++ [F j]) st) :
    compB cf elt tg cs own ρ (.rng 0 1) k st = .ok (.tl ((List.range k).map F)) st :=
  comp_map F (fun j acc h1 h2 => ⟨_, rfl, by
    have : (0 : Int) + (j : Int) * 1 = j := by omega
    rw [this]
    exact h j acc h1 h2⟩) rfl
theorem rngN {n : Nat} (h : n < 2 ^ 60) : rngOf [.int (n : Int)] = some (.rng 0 1, n) := by
  rw [rng1 (by omega) (by omega)]
  simp
theorem rngN1 {n : Nat} (h : n < 2 ^ 60) : rngOf [.int ((n : Int) + 1)] = some (.rng 0 1, n + 1) := by
  have := rngN (n := n + 1)
  rw [rng1 (by omega) (by omega)]
  congr 2
end Mn
/-! Lb1: defs that many laws share: wholes, powers, choices, the state. -/
namespace Lb
open Mn PySem
variable {T : List Fn} {wf k g : Nat} {st : Sto}
theorem fin_retS {n : Nat} {ρ : Rho} {d : D} (h : st.length = n) : fin n (.ok (.ret d, ρ) st) = .ok d st := fin_retL (Nat.le_of_eq h)
/-! ### an int that is no bool -/
def fWhole : Fn := ⟨1, 1, [.ret (.and (.prim (.inst [.int]) [.var 0]) (.not (.prim (.inst [.bool]) [.var 0])))]⟩
theorem whole_i (hT : T[g]? = some fWhole) {a : Int} : callF T wf (k + 1) g [.int a] st = .ok (.bl true) st := by
  rw [call_def hT rfl]
  simp [fWhole, subTy, fin_ret]
theorem whole_b (hT : T[g]? = some fWhole) {a : Bool} : callF T wf (k + 1) g [.bl a] st = .ok (.bl false) st := by
  rw [call_def hT rfl]
  simp [fWhole, subTy, fin_ret]
theorem whole_n (hT : T[g]? = some fWhole) : callF T wf (k + 1) g [.non] st = .ok (.bl false) st := by
  rw [call_def hT rfl]
  simp [fWhole, subTy, fin_ret]
theorem whole_s (hT : T[g]? = some fWhole) {s : List Nat} : callF T wf (k + 1) g [.str s] st = .ok (.bl false) st := by
  rw [call_def hT rfl]
  simp [fWhole, subTy, fin_ret]
theorem whole_t (hT : T[g]? = some fWhole) {xs : List D} : callF T wf (k + 1) g [.tup xs] st = .ok (.bl false) st := by
  rw [call_def hT rfl]
  simp [fWhole, subTy, fin_ret]
/-! ### powers -/
/-- total = 1; for _ in range(e): total = total * a -/
def fPow : Fn := ⟨2, 4, [.asg (.nm 2) (.cst (.int 1)), .for (.nm 3) (.rng [.var 1]) [.asg (.nm 2) (.prim .mul [.var 2, .var 0])], .ret (.var 2)]⟩
theorem sm_pow {n : Nat} {a : Int} (h : sm n a) : ∀ e : Nat, sm (n * e + 1) (a ^ e)
  | 0 => by simp [sm]
  | e + 1 => by
    rw [Int.pow_succ]
    exact sm_mono (sm_mul (sm_pow h e) h) (by rw [Nat.mul_succ]; omega)
theorem pow_ok (hT : T[g]? = some fPow) {a : Int} {e n : Nat} (ha : sm n a) (hn : n * e + n + 1 ≤ 134217728) (he : e < 2 ^ 60) : callF T wf (k + 1) g [.int a, .int e] st = .ok (.int (a ^ e)) st := by
  rw [call_def hT rfl]
  obtain ⟨w, h1⟩ := for_rng (cf := ⟨callF T wf k, wf, T.length⟩) (t := .nm 3) (b := [.asg (.nm 2) (.prim .mul [.var 2, .var 0])]) (fun i w => [some (.int a), some (.int e), some (.int (a ^ i)), w]) (st := st) (k := e) none rfl
    (fun j w hj => ⟨some (.int j), by
      have hf : fits (a ^ j) a := fits_sm (sm_pow ha j) ha (by
        have : n * j ≤ n * e := Nat.mul_le_mul_left _ (by omega)
        omega)
      simp [hf, Int.pow_succ]⟩)
  simp [fPow, rngN he] at h1 ⊢
  simp [h1, fin_ret]
/-! ### choices: n (n-1) .. / 1 2 .. as the loops reckon it -/
def choL (n : Int) : Nat → Int
  | 0 => 1
  | j + 1 => (choL n j * (n - j)).fdiv (j + 1)
theorem sm_fdiv {n : Nat} {a b : Int} (h : sm n a) (hb : 1 ≤ b) : sm n (a.fdiv b) := by
  unfold sm at *
  refine Nat.lt_of_le_of_lt ?_ h
  rcases Int.le_total 0 a with h0 | h0
  · have h1 : 0 ≤ a.fdiv b := Int.fdiv_nonneg h0 (by omega)
    have h2 : a.fdiv b ≤ a := by
      rw [Int.fdiv_eq_ediv_of_nonneg a (by omega : (0 : Int) ≤ b)]
      exact Int.ediv_le_self b h0
    omega
  · have h1 : a.fdiv b ≤ 0 := by
      rw [Int.fdiv_eq_ediv_of_nonneg a (by omega : (0 : Int) ≤ b)]
      exact Int.ediv_nonpos_of_nonpos_of_neg h0 (by omega)
    have h2 : a ≤ a.fdiv b := by
      rw [Int.fdiv_eq_ediv_of_nonneg a (by omega : (0 : Int) ≤ b)]
      rw [Int.le_ediv_iff_mul_le (by omega)]
      have : a * b ≤ a * 1 := Int.mul_le_mul_of_nonpos_left h0 hb
      omega
    omega
theorem sm_choL {n : Int} {m : Nat} (h : ∀ j : Nat, (j : Int) ≤ n → sm m (n - j)) : ∀ j : Nat, (j : Int) ≤ n → sm (m * j + 1) (choL n j)
  | 0, _ => by simp [choL, sm]
  | j + 1, hj => by
    have := sm_choL h j (by omega)
    exact sm_mono (sm_fdiv (sm_mul this (h j (by omega))) (by omega)) (by rw [Nat.mul_succ]; omega)
theorem log2_small {n : Nat} (h : n < 2 ^ 62) : n.log2 < 9000 := by
  by_cases h0 : n = 0
  · subst h0; decide
  · exact Nat.lt_of_lt_of_le ((Nat.log2_lt h0).mpr h) (by decide)
/-- the loop that both texts have -/
theorem cho_loop {cf : Cf} {n : Int} {e m : Nat} (hs : ∀ j : Nat, j < e → sm m (n - j)) (hc : ∀ j : Nat, j < e → sm (m * j + 1) (choL n j)) (hm : m * e + m + 1 ≤ 134217728) (he : e < 2 ^ 60) :
    ∃ w, forB cf (.nm 3) [.asg (.nm 2) (.prim .fdiv [.prim .mul [.var 2, .prim .sub [.var 0, .var 3]], .prim .add [.var 3, .cst (.int 1)]])] (.rng 0 1) e 0 [some (.int n), some (.int e), some (.int 1), none] st = .ok (.nx, [some (.int n), some (.int e), some (.int (choL n e)), w]) st :=
  for_rng (fun i w => [some (.int n), some (.int e), some (.int (choL n i)), w]) none rfl
    (fun j w hj => ⟨some (.int j), by
      have hf : fits (choL n j) (n - j) := fits_sm (hc j hj) (hs j hj) (by
        have : m * j ≤ m * e := Nat.mul_le_mul_left _ (by omega)
        omega)
      have h1 : ((j : Int) + 1) ≠ 0 := by omega
      have h2 : ((j : Int) + 1).natAbs.log2 < 9000 := log2_small (by omega)
      simp [hf, choL, h1, h2]⟩)
def fCho : Fn := ⟨2, 4, [.ifS (.prim .gt [.var 1, .var 0]) [.ret (.cst (.int 0))] [], .asg (.nm 2) (.cst (.int 1)), .for (.nm 3) (.rng [.var 1]) [.asg (.nm 2) (.prim .fdiv [.prim .mul [.var 2, .prim .sub [.var 0, .var 3]], .prim .add [.var 3, .cst (.int 1)]])], .ret (.var 2)]⟩
/-- n below 2^m -/
theorem cho_ok (hT : T[g]? = some fCho) {n : Int} {e m : Nat} (he : (e : Int) ≤ n) (hn : n < 2 ^ m) (hm : m ≤ 60) (hb : m * e + m + 1 ≤ 134217728) : callF T wf (k + 1) g [.int n, .int e] st = .ok (.int (choL n e)) st := by
  rw [call_def hT rfl]
  have hp : (2 : Int) ^ m ≤ 2 ^ 60 := by
    have : (2 : Nat) ^ m ≤ 2 ^ 60 := Nat.pow_le_pow_right (by decide) hm
    exact_mod_cast this
  have hs : ∀ j : Nat, (j : Int) ≤ n → sm m (n - j) := fun j hj => by
    unfold sm
    have : ((2 : Nat) ^ m : Int) = (2 : Int) ^ m := by norm_cast
    have h2 : ((n - j).natAbs : Int) < ((2 ^ m : Nat) : Int) := by
      push_cast
      omega
    exact_mod_cast h2
  obtain ⟨w, h1⟩ := cho_loop (cf := ⟨callF T wf k, wf, T.length⟩) (st := st) (n := n) (e := e) (m := m) (fun j hj => hs j (by omega)) (fun j hj => sm_choL hs j (by omega)) hb (by omega)
  have h0 : ¬ n < (e : Int) := by omega
  simp [fCho, h0, rngN (n := e) (by omega)] at h1 ⊢
  simp [h1, fin_ret]
end Lb
/-! Lb2: the script's state, what is drawn from it. -/
namespace Lb
open Mn PySem
variable {T : List Fn} {wf k g : Nat} {st : Sto}
theorem ixR0 {n : Nat} {x : D} {xs : List D} (h : st[n]? = some (.lst (x :: xs))) : semP .ix [.lr n, .int 0] st = some (x, st) := sp_ixR (i := 0) h rfl
theorem ixR1 {n : Nat} {x y : D} {xs : List D} (h : st[n]? = some (.lst (x :: y :: xs))) : semP .ix [.lr n, .int 1] st = some (y, st) := sp_ixR (i := 1) h rfl
theorem set0 {n : Nat} {x d : D} {xs : List D} (h : st[n]? = some (.lst (x :: xs))) (hd : notl d = true) : setD (.lr n) (.int 0) d st = some (st.set n (.lst (d :: xs))) := setD_eq (i := 0) h (by simp) hd
theorem set1 {n : Nat} {x y d : D} {xs : List D} (h : st[n]? = some (.lst (x :: y :: xs))) (hd : notl d = true) : setD (.lr n) (.int 1) d st = some (st.set n (.lst (x :: d :: xs))) := setD_eq (i := 1) h (by simp) hd
theorem cut_all {xs : List D} {n : Nat} (h : xs.length ≤ n) : cut xs none (some (n : Int)) = xs := by
  have e : min n xs.length = xs.length := by omega
  simp [cut, HT.sIx, e, show ¬ ((n : Int) < 0) by omega]
def fState : Fn := ⟨1, 4, [.asg (.nm 1) (.cst (.int 0)), .asg (.nm 2) (.cst (.int 1)), .for (.nm 3) (.ex (.prim (.sl false true) [.var 0, .cst (.int 63)])) [.asg (.nm 1) (.prim .add [.prim .mul [.var 1, .cst (.int 1000003)], .prim .abs [.var 3]]), .asg (.nm 2) (.prim .mod [.prim .toInt [.prim .add [.prim .mul [.var 2, .cst (.int 48271)], .var 3]], .cst (.int 2147483647)])], .ret (.lstE [.var 1, .var 2])]⟩
theorem state_ok (hT : T[g]? = some fState) {ns : List Int} (hl : ns.length ≤ 63) (hb : ∀ z ∈ ns, Builtin.Int.intBits z ≤ 1048576) :
    ∃ s t : Int, callF T wf (k + 1) g [.kl (ns.map D.int)] st = .ok (.tl [.int s, .int t]) st ∧ 0 ≤ s ∧ 0 ≤ t ∧ t < 2147483647 := by
  rw [call_def hT rfl]
  have hbz : ∀ z ∈ ns, sm 1048577 z := fun z hz => by
    have h1 := hb z hz
    unfold Builtin.Int.intBits at h1
    unfold sm
    split at h1
    · rename_i h0
      have : z = 0 := by simpa using h0
      subst this
      exact Nat.pos_of_ne_zero (by simp)
    · rename_i h0
      have h2 : z.natAbs ≠ 0 := by
        intro q
        have : z = 0 := by omega
        simp [this] at h0
      exact Nat.lt_of_lt_of_le ((Nat.log2_lt h2).mp (Nat.lt_of_lt_of_le (Nat.lt_succ_self _) h1)) (Nat.pow_le_pow_right (by decide) (by decide))
  have e63 : cut (ns.map D.int) none (some 63) = ns.map D.int := cut_all (n := 63) (by simpa using hl)
  obtain ⟨ρ', st', h1, s, t, w, h2, h3, h4, h5, h6⟩ := for_inv (cf := ⟨callF T wf k, wf, T.length⟩) (t := .nm 3) (b := [.asg (.nm 1) (.prim .add [.prim .mul [.var 1, .cst (.int 1000003)], .prim .abs [.var 3]]), .asg (.nm 2) (.prim .mod [.prim .toInt [.prim .add [.prim .mul [.var 2, .cst (.int 48271)], .var 3]], .cst (.int 2147483647)])])
    (sv := .fix (ns.map D.int)) (k := ns.length) (i := 0) (ρ := [some (.kl (ns.map D.int)), some (.int 0), some (.int 1), none]) (st := st)
    (fun i ρ s' => ∃ s t w, ρ = [some (.kl (ns.map D.int)), some (.int s), some (.int t), w] ∧ s' = st ∧ (0 ≤ s ∧ sm (1048600 + 21 * i) s) ∧ 0 ≤ t ∧ t < 2147483647) ⟨0, 1, none, rfl, rfl, ⟨by decide, Nat.pos_of_ne_zero (by simp)⟩, by decide, by decide⟩
    (fun j ρ s' _ hj ⟨s, t, w, hρ, hs, ⟨q1, q2⟩, q3, q4⟩ => by
      subst hρ hs
      have hj' : j < ns.length := by omega
      have hz := hbz ns[j] (List.getElem_mem hj')
      have f1 : fits s 1000003 := fits_sm q2 (sm_lit (n := 20) (by decide)) (by omega)
      have f2 : fits t 48271 := fits_sm (n := 31) (sm_lit (by omega)) (sm_lit (n := 16) (by decide)) (by decide)
      refine ⟨.int ns[j], [some (.kl (ns.map D.int)), some (.int (s * 1000003 + (ns[j].natAbs : Int))), some (.int ((t * 48271 + ns[j]).fmod 2147483647)), some (.int ns[j])], s', by simp [hj'], .inl (by simp [f1, f2]), _, _, _, rfl, rfl, ⟨by omega, ?_⟩, ?_, ?_⟩
      · refine sm_mono (sm_add (n := 1048600 + 21 * j + 20) (sm_mul q2 (sm_lit (n := 20) (by decide))) ?_) (by omega)
        refine sm_mono (n := 1048577) ?_ (by omega)
        unfold sm at *
        simpa using hz
      · exact Int.fmod_nonneg_of_pos _ (by decide)
      · exact Int.fmod_lt_of_pos _ (by decide))
    (fun _ _ _ => by simp)
  subst h2 h3
  refine ⟨s, t, ?_, h4.1, h5, h6⟩
  have hsl : semP (.sl false true) [.kl (ns.map D.int), .int 63] st' = some (.tl (ns.map D.int), st') := by
    show semSl (.kl (ns.map D.int)) none (some 63) st' = _
    simp [semSl, lstOf, e63]
  simp [fState, hsl] at h1 ⊢
  simp [h1, fin_ret]
def fTake : Fn := ⟨2, 3, [.ifS (.prim .gt [.prim .ix [.var 0, .cst (.int 0)], .cst (.int 0)]) [.asg (.nm 2) (.prim .mod [.prim .toInt [.prim .ix [.var 0, .cst (.int 0)]], .var 1]), .asg (.sb (.var 0) (.cst (.int 0))) (.prim .fdiv [.prim .ix [.var 0, .cst (.int 0)], .var 1]), .ret (.var 2)] [], .asg (.sb (.var 0) (.cst (.int 1))) (.prim .mod [.prim .toInt [.prim .add [.prim .mul [.prim .ix [.var 0, .cst (.int 1)], .cst (.int 48271)], .cst (.int 11)]], .cst (.int 2147483647)]), .ret (.prim .mod [.prim .toInt [.prim .fdiv [.prim .ix [.var 0, .cst (.int 1)], .cst (.int 7)]], .var 1])]⟩
/-- the state at n -/
def StOk (st : Sto) (n : Nat) : Prop := ∃ s t : Int, st[n]? = some (.lst [.int s, .int t]) ∧ 0 ≤ s ∧ 0 ≤ t ∧ t < 2147483647
theorem take_ok (hT : T[g]? = some fTake) {n : Nat} {m : Int} (h : StOk st n) (h1 : 1 ≤ m) (h2 : m < 2 ^ 62) :
    ∃ (v s t : Int), callF T wf (k + 1) g [.lr n, .int m] st = .ok (.int v) (st.set n (.lst [.int s, .int t])) ∧ (0 ≤ v ∧ v < m) ∧ StOk (st.set n (.lst [.int s, .int t])) n := by
  obtain ⟨s, t, e, q1, q2, q3⟩ := h
  have hn : n < st.length := (List.getElem?_eq_some_iff.mp e).1
  have hm : m ≠ 0 := by omega
  have hml : m.natAbs.log2 < 9000 := log2_small (by omega)
  by_cases hs : 0 < s
  · refine ⟨s.fmod m, s.fdiv m, t, ?_, ⟨Int.fmod_nonneg_of_pos _ (by omega), Int.fmod_lt_of_pos _ (by omega)⟩, s.fdiv m, t, ?_, Int.fdiv_nonneg (by omega) (by omega), q2, q3⟩
    · rw [call_def hT rfl]
      simp [fTake, ixR0 e, hs, hm, hml, set0 e, fin_retS]
    · rw [List.getElem?_set_self hn]
  · have f2 : fits t 48271 := fits_sm (n := 31) (sm_lit (by omega)) (sm_lit (n := 16) (by decide)) (by decide)
    refine ⟨(((t * 48271 + 11).fmod 2147483647).fdiv 7).fmod m, s, (t * 48271 + 11).fmod 2147483647, ?_, ⟨Int.fmod_nonneg_of_pos _ (by omega), Int.fmod_lt_of_pos _ (by omega)⟩, s, _, by rw [List.getElem?_set_self hn], q1, Int.fmod_nonneg_of_pos _ (by decide), Int.fmod_lt_of_pos _ (by decide)⟩
    rw [call_def hT rfl]
    have e2 : (st.set n (.lst [.int s, .int ((t * 48271 + 11).fmod 2147483647)]))[n]? = some (.lst [.int s, .int ((t * 48271 + 11).fmod 2147483647)]) := by rw [List.getElem?_set_self hn]
    have l7 : Nat.log2 7 < 9000 := by decide
    simp [fTake, ixR0 e, ixR1 e, hs, hm, hml, f2, set1 e, ixR1 e2, l7, fin_retS]
end Lb
/-! Lb3: odd, honest, same, call, tells, bad. -/
namespace Lb
open Mn PySem
variable {T : List Fn} {wf k g : Nat} {st : Sto}
abbrev oddS : List Nat := [97, 32, 119, 111, 114, 100, 32, 116, 104, 97, 116, 32, 110, 111, 116, 104, 105, 110, 103, 32, 101, 108, 115, 101, 32, 105, 115]
abbrev toldS : List Nat := [116, 111, 108, 100]
abbrev malS : List Nat := [109, 97, 108, 102, 111, 114, 109, 101, 100]
abbrev refS : List Nat := [114, 101, 102, 117, 115, 101, 100]
mutual
/-- it does not hold the odd text -/
def okd : D → Bool
  | .str s => !(s == oddS)
  | .tup xs => okds xs
  | _ => true
def okds : List D → Bool
  | [] => true
  | d :: ds => okd d && okds ds
end
theorem pds_get {n : Nat} : ∀ {ds : List D} {i : Nat} {d : D}, pds n ds = true → ds[i]? = some d → pd n d = true
  | [], _, _, _, e => by simp at e
  | x :: xs, 0, d, h, e => by
    have h' : pd n x = true ∧ pds n xs = true := by simpa [pds] using h
    have : x = d := by simpa using e
    subst this
    exact h'.1
  | x :: xs, i + 1, d, h, e => by
    have h' : pd n x = true ∧ pds n xs = true := by simpa [pds] using h
    exact pds_get (i := i) h'.2 (by simpa using e)
theorem okds_get : ∀ {ds : List D} {i : Nat} {d : D}, okds ds = true → ds[i]? = some d → okd d = true
  | [], _, _, _, e => by simp at e
  | x :: xs, 0, d, h, e => by
    have h' : okd x = true ∧ okds xs = true := by simpa [okds] using h
    have : x = d := by simpa using e
    subst this
    exact h'.1
  | x :: xs, i + 1, d, h, e => by
    have h' : okd x = true ∧ okds xs = true := by simpa [okds] using h
    exact okds_get (i := i) h'.2 (by simpa using e)
theorem notl_pd {n : Nat} {d : D} (h : pd n d = true) : notl d = true := by
  cases d <;> first | rfl | (cases n <;> simp [pd] at h)
mutual
theorem pd_mono : ∀ {n m : Nat} {d : D}, pd n d = true → n ≤ m → pd m d = true
  | 0, _, _, h, _ => by simp [pd] at h
  | _ + 1, 0, _, _, h => by omega
  | n + 1, m + 1, .tup xs, h, l => by
    simp only [pd] at h ⊢
    exact pds_mono h (by omega)
  | n + 1, m + 1, .non, h, l => by simpa [pd] using h
  | n + 1, m + 1, .bl _, h, l => by simpa [pd] using h
  | n + 1, m + 1, .int _, h, l => by simpa [pd] using h
  | n + 1, m + 1, .str _, h, l => by simpa [pd] using h
  | n + 1, m + 1, .tl _, h, l => by simp [pd] at h
  | n + 1, m + 1, .kl _, h, l => by simp [pd] at h
  | n + 1, m + 1, .lr _, h, l => by simp [pd] at h
  | n + 1, m + 1, .fn _, h, l => by simp [pd] at h
theorem pds_mono : ∀ {n m : Nat} {ds : List D}, pds n ds = true → n ≤ m → pds m ds = true
  | _, _, [], _, _ => by simp [pds]
  | n, m, d :: ds, h, l => by
    have h' : pd n d = true ∧ pds n ds = true := by simpa [pds] using h
    simp only [pds]
    rw [pd_mono h'.1 l, pds_mono h'.2 l]
    rfl
end
def fOdd (o : Nat) : Fn := ⟨1, 2, [.ifS (.prim .eq [.var 0, .cst (.str oddS)]) [.ret (.cst (.bl true))] [], .ret (.and (.prim (.inst [.tuple, .list]) [.var 0]) (.prim .gt [.prim .len [.comp (.var 1) (.nm 1) (.ex (.var 0)) [.call o [.var 1]] [1]], .cst (.int 0)]))]⟩
theorem pd_oddS : pd 16 (.str oddS) = true := by decide
theorem odd_ok (hT : T[g]? = some (fOdd g)) : ∀ (n k : Nat) (d : D), pd n d = true → n ≤ 16 → okd d = true → n ≤ k → callF T wf k g [d] st = .ok (.bl false) st := by
  intro n
  induction n with
  | zero => intro k d h; simp [pd] at h
  | succ n ih =>
    intro k d h h16 ho hk
    obtain ⟨k, rfl⟩ : ∃ k', k = k' + 1 := ⟨k - 1, by omega⟩
    rw [call_def hT rfl]
    have he : semP .eq [d, .str oddS] st = some (.bl (eqP d (.str oddS)), st) := sp_eq (pd_mono h h16) pd_oddS
    cases d with
    | non => simp [fOdd, he, eqP, fin_ret]
    | bl b => simp [fOdd, he, eqP, fin_ret, subTy]
    | int i => simp [fOdd, he, eqP, fin_ret, subTy]
    | str s =>
      have e0 : (s == oddS) = false := by simpa [okd] using ho
      have e1 : eqP (.str s) (.str oddS) = false := by
        simp only [eqP]
        exact e0
      simp [fOdd, he, e1, fin_ret, subTy]
    | tup xs =>
      have e1 : eqP (.tup xs) (.str oddS) = false := rfl
      have hx : pds n xs = true := by simpa [pd] using h
      have hox : okds xs = true := by simpa [okd] using ho
      have hc : compB ⟨callF T wf k, wf, T.length⟩ (.var 1) (.nm 1) [.call g [.var 1]] [1] [some (.tup xs), none] (.fix xs) xs.length st = .ok (.tl []) st := by
        have := comp_filter (cf := ⟨callF T wf k, wf, T.length⟩) (elt := .var 1) (tg := .nm 1) (cs := [.call g [.var 1]]) (own := [1]) (ρ := [some (.tup xs), none]) (sv := .fix xs) (fun _ => false) (fun _ => .non) (st := st) (k := xs.length)
          (fun j acc hj _ => by
            have hd : xs[j]? = some xs[j] := List.getElem?_eq_getElem hj
            refine ⟨xs[j], hd, ?_⟩
            have hpd := pds_get hx hd
            have hr := ih k xs[j] hpd (by omega) (okds_get hox hd) (by omega)
            have hn := notl_pd hpd
            simp [turnB, wipe, mat_notl hn, hr]) (by simp)
        rw [show List.filter (fun _ => false) (List.range xs.length) = [] from List.filter_eq_nil_iff.mpr (fun _ _ => Bool.false_ne_true)] at this
        exact this
      simp [fOdd, he, e1, fin_ret, subTy, hc]
    | tl xs => simp [pd] at h
    | kl xs => simp [pd] at h
    | lr xs => simp [pd] at h
    | fn xs => simp [pd] at h
def fHonest (o : Nat) : Fn := ⟨1, 1, [.ret (.ite (.call o [.var 0]) (.cst (.str [111, 100, 100])) (.var 0))]⟩
theorem honest_ok {o n : Nat} (hT : T[g]? = some (fHonest o)) (hO : T[o]? = some (fOdd o)) {d : D} (h : pd n d = true) (h16 : n ≤ 16) (ho : okd d = true) (hk : n ≤ k) : callF T wf (k + 1) g [d] st = .ok d st := by
  rw [call_def hT rfl]
  have hr := odd_ok (wf := wf) (st := st) hO n k d h h16 ho hk
  simp [fHonest, mat_notl (notl_pd h), hr, fin_ret]
def fSame (s w : Nat) : Fn := ⟨2, 3, [.ifS (.prim (.inst [.tuple]) [.var 1]) [.ret (.and (.prim (.inst [.tuple]) [.var 0]) (.and (.prim .eq [.prim .len [.var 0], .prim .len [.var 1]]) (.prim .all [.comp (.call s [.prim .ix [.var 0, .var 2], .prim .ix [.var 1, .var 2]]) (.nm 2) (.rng [.prim .len [.var 1]]) [] [2]])))] [], .ifS (.prim (.inst [.bool]) [.var 1]) [.ret (.and (.prim (.inst [.bool]) [.var 0]) (.prim .eq [.var 0, .var 1]))] [], .ifS (.prim (.inst [.str]) [.var 1]) [.ret (.and (.prim (.inst [.str]) [.var 0]) (.prim .eq [.var 0, .var 1]))] [], .ifS (.prim .isN [.var 1, .cst (.non)]) [.ret (.prim .isN [.var 0, .cst (.non)])] [], .ret (.and (.call w [.var 0]) (.prim .eq [.var 0, .var 1]))]⟩
/-- tuples are short -/
def szs : Nat → D → Bool
  | 0, _ => true
  | n + 1, .tup xs => Nat.ble xs.length 1000000 && xs.all (szs n)
  | _, _ => true
theorem same_ok {w : Nat} (hT : T[g]? = some (fSame g w)) (hW : T[w]? = some fWhole) : ∀ (n k : Nat) (d : D), pd n d = true → n ≤ 16 → szs n d = true → n < k → callF T wf k g [d, d] st = .ok (.bl true) st := by
  intro n
  induction n with
  | zero => intro k d h; simp [pd] at h
  | succ n ih =>
    intro k d h h16 hz hk
    obtain ⟨k, rfl⟩ : ∃ k', k = k' + 1 := ⟨k - 1, by omega⟩
    obtain ⟨k, rfl⟩ : ∃ k', k = k' + 1 := ⟨k - 1, by omega⟩
    rw [call_def hT rfl]
    have he : semP .eq [d, d] st = some (.bl true, st) := by
      rw [sp_eq (pd_mono h h16) (pd_mono h h16), eqP_refl _ d h]
    cases d with
    | non => simp [fSame, fin_ret]
    | bl b => simp [fSame, fin_ret, subTy]
    | int i => simp [fSame, fin_ret, subTy, whole_i hW]
    | str s => simp [fSame, fin_ret, subTy, he]
    | tup xs =>
      have hx : pds n xs = true := by simpa [pd] using h
      have hz' : xs.length ≤ 1000000 ∧ ∀ x ∈ xs, szs n x = true := by
        simp only [szs, Bool.and_eq_true, List.all_eq_true] at hz
        exact ⟨Nat.le_of_ble_eq_true hz.1, hz.2⟩
      have hc : compB ⟨callF T wf (k + 1), wf, T.length⟩ (.call g [.prim .ix [.var 0, .var 2], .prim .ix [.var 1, .var 2]]) (.nm 2) [] [2] [some (.tup xs), some (.tup xs), none] (.rng 0 1) xs.length st = .ok (.tl (((List.range xs.length).map fun _ => true).map D.bl)) st := by
        have := comp_rng (cf := ⟨callF T wf (k + 1), wf, T.length⟩) (elt := .call g [.prim .ix [.var 0, .var 2], .prim .ix [.var 1, .var 2]]) (tg := .nm 2) (cs := []) (own := [2]) (ρ := [some (.tup xs), some (.tup xs), none]) (fun _ => .bl true) (st := st) (k := xs.length)
          (fun j acc hj ha => by
            have hd : xs[j]? = some xs[j] := List.getElem?_eq_getElem hj
            have hpd := pds_get hx hd
            have hr := ih (k + 1) xs[j] hpd (by omega) (hz'.2 _ (List.getElem_mem hj)) (by omega)
            have hn := notl_pd hpd
            have hs : acc.length < sizeLine := small_acc ha (by omega)
            simp [turnB, wipe, mat_notl hn, hr, sp_ixT hd, hs])
        rw [this, List.map_map]
        rfl
      have ha : semP .all [.tl (((List.range xs.length).map fun _ => true).map D.bl)] st = some (.bl true, st) := by
        rw [sp_all]
        simp
      simp [fSame, fin_ret, subTy, rngN (n := xs.length) (by omega), hc] at ha ⊢
      simp [ha, fin_ret]
    | tl xs => simp [pd] at h
    | kl xs => simp [pd] at h
    | lr xs => simp [pd] at h
    | fn xs => simp [pd] at h
/-! ### a call that may be refused -/
def callBody (h : Nat) : List S := [.ifS (.prim .eq [.prim .len [.var 1], .cst (.int 1)]) [.ret (.tupE [.cst (.str toldS), .call h [.callv 0 [.prim .ix [.var 1, .cst (.int 0)]]]])] [], .ifS (.prim .eq [.prim .len [.var 1], .cst (.int 2)]) [.ret (.tupE [.cst (.str toldS), .call h [.callv 0 [.prim .ix [.var 1, .cst (.int 0)], .prim .ix [.var 1, .cst (.int 1)]]]])] [], .ifS (.prim .eq [.prim .len [.var 1], .cst (.int 3)]) [.ret (.tupE [.cst (.str toldS), .call h [.callv 0 [.prim .ix [.var 1, .cst (.int 0)], .prim .ix [.var 1, .cst (.int 1)], .prim .ix [.var 1, .cst (.int 2)]]]])] [], .ret (.tupE [.cst (.str toldS), .call h [.callv 0 [.prim .ix [.var 1, .cst (.int 0)], .prim .ix [.var 1, .cst (.int 1)], .prim .ix [.var 1, .cst (.int 2)], .prim .ix [.var 1, .cst (.int 3)]]]])]
def fCall (h : Nat) : Fn := ⟨2, 3, [.tryS (callBody h) [(1, .tup [some (.str malS), some (.non)]), (2, .tup [some (.str refS), none])]]⟩
theorem told2 {h f : Nat} {a b d : D} (hT : T[g]? = some (fCall h)) (hf : f < T.length) (ha : notl a = true) (hb : notl b = true) (hr : callF T wf k f [a, b] st = .ok d st) (hd : notl d = true) (hh : callF T wf k h [d] st = .ok d st) :
    callF T wf (k + 1) g [.fn f, .tup [a, b]] st = .ok (.tup [.str toldS, d]) st := by
  rw [call_def hT rfl]
  have hf' : Nat.blt f T.length = true := Nat.blt_eq.mpr hf
  simp [fCall, callBody, hf', mat_notl ha, mat_notl hb, hr, mat_notl hd, hh, fin_ret]
theorem mal2 {h f : Nat} {a b : D} (hT : T[g]? = some (fCall h)) (hf : f < T.length) (ha : notl a = true) (hb : notl b = true) (hr : callF T wf k f [a, b] st = .ex 1 [] st) :
    callF T wf (k + 1) g [.fn f, .tup [a, b]] st = .ok (.tup [.str malS, .non]) st := by
  rw [call_def hT rfl]
  have hf' : Nat.blt f T.length = true := Nat.blt_eq.mpr hf
  simp [fCall, callBody, hf', mat_notl ha, mat_notl hb, hr, handle, suRet, suD, mapO, fin_ret]
def fTells (s c : Nat) : Fn := ⟨3, 3, [.ret (.call s [.call c [.var 0, .var 1], .tupE [.cst (.str toldS), .var 2]])]⟩
theorem tells_ok {s c f : Nat} {xs : List D} {d : D} (hT : T[g]? = some (fTells s c)) (hc : callF T wf k c [.fn f, .tup xs] st = .ok (.tup [.str toldS, d]) st) (hs : callF T wf k s [.tup [.str toldS, d], .tup [.str toldS, d]] st = .ok (.bl true) st) (hd : notl d = true) :
    callF T wf (k + 1) g [.fn f, .tup xs, d] st = .ok (.bl true) st := by
  rw [call_def hT rfl]
  simp [fTells, hc, hs, mat_notl hd, fin_ret]
def fBad (c : Nat) : Fn := ⟨2, 2, [.ret (.prim .eq [.call c [.var 0, .var 1], .tupE [.cst (.str malS), .cst (.non)]])]⟩
theorem bad_ok {c f : Nat} {xs : List D} (hT : T[g]? = some (fBad c)) (hc : callF T wf k c [.fn f, .tup xs] st = .ok (.tup [.str malS, .non]) st) : callF T wf (k + 1) g [.fn f, .tup xs] st = .ok (.bl true) st := by
  rw [call_def hT rfl]
  have e : semP .eq [.tup [.str malS, .non], .tup [.str malS, .non]] st = some (.bl true, st) := by
    rw [sp_eq (by decide) (by decide)]
    rfl
  simp [fBad, hc, e, fin_ret]
end Lb
namespace Pk34
open Mn
/-- is_integer(value); value=0 -/
def f0 : Mn.Fn := ⟨1, 1, [.ret (.and (.prim (.inst [.int]) [.var 0]) (.not (.prim (.inst [.bool]) [.var 0])))]⟩
def N0 : List PySem.Str := ((["value"] : List PySem.Str))
/-- greatest_common(a, b); a=0 b=1 -/
def f1 : Mn.Fn := ⟨2, 2, [.asg (.tp [.nm 0, .nm 1]) (.tupE [.prim .abs [.var 0], .prim .abs [.var 1]]), .whl (.prim .ne [.var 1, .cst (.int 0)]) [.asg (.tp [.nm 0, .nm 1]) (.tupE [.var 1, .prim .mod [.var 0, .var 1]])], .ret (.var 0)]⟩
def N1 : List PySem.Str := ((["a", "b"] : List PySem.Str))
/-- chosen_of(n, k); n=0 k=1 found=2 j=3 -/
def f2 : Mn.Fn := ⟨2, 4, [.ifS (.prim .gt [.var 1, .var 0]) [.ret (.cst (.int 0))] [], .asg (.nm 2) (.cst (.int 1)), .for (.nm 3) (.rng [.var 1]) [.asg (.nm 2) (.prim .fdiv [.prim .mul [.var 2, .prim .sub [.var 0, .var 3]], .prim .add [.var 3, .cst (.int 1)]])], .ret (.var 2)]⟩
def N2 : List PySem.Str := ((["n", "k", "found", "j"] : List PySem.Str))
/-- lowest(n, d); n=0 d=1 g=2 -/
def f3 : Mn.Fn := ⟨2, 3, [.asg (.nm 2) (.call 1 [.var 0, .var 1]), .ifS (.prim .lt [.var 1, .cst (.int 0)]) [.asg (.nm 2) (.prim .neg [.var 2])] [], .ret (.tupE [.prim .fdiv [.var 0, .var 2], .prim .fdiv [.var 1, .var 2]])]⟩
def N3 : List PySem.Str := ((["n", "d", "g"] : List PySem.Str))
/-- ratio_over(a, b); a=0 b=1 -/
def f4 : Mn.Fn := ⟨2, 2, [.ifS (.prim .eq [.prim .ix [.var 1, .cst (.int 0)], .cst (.int 0)]) [.rse 1 []] [], .ret (.call 3 [.prim .mul [.prim .ix [.var 0, .cst (.int 0)], .prim .ix [.var 1, .cst (.int 1)]], .prim .mul [.prim .ix [.var 0, .cst (.int 1)], .prim .ix [.var 1, .cst (.int 0)]]])]⟩
def N4 : List PySem.Str := ((["a", "b"] : List PySem.Str))
/-- power(a, e); a=0 e=1 found=2 _=3 -/
def f5 : Mn.Fn := ⟨2, 4, [.asg (.nm 2) (.cst (.int 1)), .for (.nm 3) (.rng [.var 1]) [.asg (.nm 2) (.prim .mul [.var 2, .var 0])], .ret (.var 2)]⟩
def N5 : List PySem.Str := ((["a", "e", "found", "_"] : List PySem.Str))
/-- chosen(n, k); n=0 k=1 -/
def f6 : Mn.Fn := ⟨2, 2, [.ret (.ite (.chain .le .le (.cst (.int 0)) (.var 1) (.var 0)) (.call 2 [.var 0, .var 1]) (.cst (.int 0)))]⟩
def N6 : List PySem.Str := ((["n", "k"] : List PySem.Str))
/-- krawtchouk(n, q, j, i); n=0 q=1 j=2 i=3 t=4 -/
def f7 : Mn.Fn := ⟨4, 5, [.ret (.prim .sum [.comp (.prim .mul [.prim .mul [.prim .mul [.call 5 [.prim .neg [.cst (.int 1)], .var 4], .call 5 [.prim .sub [.var 1, .cst (.int 1)], .prim .sub [.var 2, .var 4]]], .call 6 [.var 3, .var 4]], .call 6 [.prim .sub [.var 0, .var 3], .prim .sub [.var 2, .var 4]]]) (.nm 4) (.rng [.prim .add [.var 2, .cst (.int 1)]]) [] [4]])]⟩
def N7 : List PySem.Str := ((["n", "q", "j", "i", "t"] : List PySem.Str))
/-- check_length(n, q); n=0 q=1 -/
def f8 : Mn.Fn := ⟨2, 2, [.ifS (.or (.not (.call 0 [.var 0])) (.or (.not (.chain .le .le (.cst (.int 1)) (.var 0) (.cst (.int 24)))) (.or (.not (.call 0 [.var 1])) (.not (.chain .le .le (.cst (.int 2)) (.var 1) (.cst (.int 4))))))) [.rse 1 []] []]⟩
def N8 : List PySem.Str := ((["n", "q"] : List PySem.Str))
/-- hamming_transform(n, q); n=0 q=1 i=2 j=3 -/
def f9 : Mn.Fn := ⟨2, 4, [.ex (.call 8 [.var 0, .var 1]), .ret (.prim .tuple [.comp (.prim .tuple [.comp (.tupE [.call 7 [.var 0, .var 1, .var 3, .var 2], .cst (.int 1)]) (.nm 3) (.rng [.prim .add [.var 0, .cst (.int 1)]]) [] [3]]) (.nm 2) (.rng [.prim .add [.var 0, .cst (.int 1)]]) [] [2]])]⟩
def N9 : List PySem.Str := ((["n", "q", "i", "j"] : List PySem.Str))
/-- johnson_value(v, k, j, i); v=0 k=1 j=2 i=3 t=4 -/
def f10 : Mn.Fn := ⟨4, 5, [.ret (.prim .sum [.comp (.prim .mul [.prim .mul [.prim .mul [.call 5 [.prim .neg [.cst (.int 1)], .var 4], .call 6 [.var 3, .var 4]], .call 6 [.prim .sub [.var 1, .var 3], .prim .sub [.var 2, .var 4]]], .call 6 [.prim .sub [.prim .sub [.var 0, .var 1], .var 3], .prim .sub [.var 2, .var 4]]]) (.nm 4) (.rng [.prim .add [.var 2, .cst (.int 1)]]) [] [4]])]⟩
def N10 : List PySem.Str := ((["v", "k", "j", "i", "t"] : List PySem.Str))
/-- johnson_transform(v, k); v=0 k=1 found=2 i=3 row=4 j=5 many=6 -/
def f11 : Mn.Fn := ⟨2, 7, [.ifS (.or (.not (.call 0 [.var 0])) (.or (.not (.chain .le .le (.cst (.int 2)) (.var 0) (.cst (.int 24)))) (.or (.not (.call 0 [.var 1])) (.not (.chain .le .le (.cst (.int 1)) (.prim .mul [.cst (.int 2), .var 1]) (.var 0)))))) [.rse 1 []] [], .asg (.nm 2) (.lstE []), .for (.nm 3) (.rng [.prim .add [.var 1, .cst (.int 1)]]) [.asg (.nm 4) (.lstE []), .for (.nm 5) (.rng [.prim .add [.var 1, .cst (.int 1)]]) [.asg (.nm 6) (.prim .sub [.call 6 [.var 0, .var 5], .call 6 [.var 0, .prim .sub [.var 5, .cst (.int 1)]]]), .ex (.meth .append (.var 4) [.call 4 [.tupE [.prim .mul [.var 6, .call 10 [.var 0, .var 1, .var 3, .var 5]], .cst (.int 1)], .tupE [.prim .mul [.call 6 [.var 1, .var 3], .call 6 [.prim .sub [.var 0, .var 1], .var 3]], .cst (.int 1)]]])], .ex (.meth .append (.var 2) [.prim .tuple [.var 4]])], .ret (.prim .tuple [.var 2])]⟩
def N11 : List PySem.Str := ((["v", "k", "found", "i", "row", "j", "many"] : List PySem.Str))
/-- _law_state(script); script=0 seed=1 total=2 cell=3 -/
def f12 : Mn.Fn := ⟨1, 4, [.asg (.nm 1) (.cst (.int 0)), .asg (.nm 2) (.cst (.int 1)), .for (.nm 3) (.ex (.prim (.sl false true) [.var 0, .cst (.int 63)])) [.asg (.nm 1) (.prim .add [.prim .mul [.var 1, .cst (.int 1000003)], .prim .abs [.var 3]]), .asg (.nm 2) (.prim .mod [.prim .toInt [.prim .add [.prim .mul [.var 2, .cst (.int 48271)], .var 3]], .cst (.int 2147483647)])], .ret (.lstE [.var 1, .var 2])]⟩
def N12 : List PySem.Str := ((["script", "seed", "total", "cell"] : List PySem.Str))
/-- _law_take(state, m); state=0 m=1 value=2 -/
def f13 : Mn.Fn := ⟨2, 3, [.ifS (.prim .gt [.prim .ix [.var 0, .cst (.int 0)], .cst (.int 0)]) [.asg (.nm 2) (.prim .mod [.prim .toInt [.prim .ix [.var 0, .cst (.int 0)]], .var 1]), .asg (.sb (.var 0) (.cst (.int 0))) (.prim .fdiv [.prim .ix [.var 0, .cst (.int 0)], .var 1]), .ret (.var 2)] [], .asg (.sb (.var 0) (.cst (.int 1))) (.prim .mod [.prim .toInt [.prim .add [.prim .mul [.prim .ix [.var 0, .cst (.int 1)], .cst (.int 48271)], .cst (.int 11)]], .cst (.int 2147483647)]), .ret (.prim .mod [.prim .toInt [.prim .fdiv [.prim .ix [.var 0, .cst (.int 1)], .cst (.int 7)]], .var 1])]⟩
def N13 : List PySem.Str := ((["state", "m", "value"] : List PySem.Str))
/-- _law_odd(value); value=0 item=1 -/
def f14 : Mn.Fn := ⟨1, 2, [.ifS (.prim .eq [.var 0, .cst (.str [97, 32, 119, 111, 114, 100, 32, 116, 104, 97, 116, 32, 110, 111, 116, 104, 105, 110, 103, 32, 101, 108, 115, 101, 32, 105, 115])]) [.ret (.cst (.bl true))] [], .ret (.and (.prim (.inst [.tuple, .list]) [.var 0]) (.prim .gt [.prim .len [.comp (.var 1) (.nm 1) (.ex (.var 0)) [.call 14 [.var 1]] [1]], .cst (.int 0)]))]⟩
def N14 : List PySem.Str := ((["value", "item"] : List PySem.Str))
/-- _law_honest(value); value=0 -/
def f15 : Mn.Fn := ⟨1, 1, [.ret (.ite (.call 14 [.var 0]) (.cst (.str [111, 100, 100])) (.var 0))]⟩
def N15 : List PySem.Str := ((["value"] : List PySem.Str))
/-- _law_is_whole(value); value=0 -/
def f16 : Mn.Fn := ⟨1, 1, [.ret (.and (.prim (.inst [.int]) [.var 0]) (.not (.prim (.inst [.bool]) [.var 0])))]⟩
def N16 : List PySem.Str := ((["value"] : List PySem.Str))
/-- _law_same(one, two); one=0 two=1 k=2 -/
def f17 : Mn.Fn := ⟨2, 3, [.ifS (.prim (.inst [.tuple]) [.var 1]) [.ret (.and (.prim (.inst [.tuple]) [.var 0]) (.and (.prim .eq [.prim .len [.var 0], .prim .len [.var 1]]) (.prim .all [.comp (.call 17 [.prim .ix [.var 0, .var 2], .prim .ix [.var 1, .var 2]]) (.nm 2) (.rng [.prim .len [.var 1]]) [] [2]])))] [], .ifS (.prim (.inst [.bool]) [.var 1]) [.ret (.and (.prim (.inst [.bool]) [.var 0]) (.prim .eq [.var 0, .var 1]))] [], .ifS (.prim (.inst [.str]) [.var 1]) [.ret (.and (.prim (.inst [.str]) [.var 0]) (.prim .eq [.var 0, .var 1]))] [], .ifS (.prim .isN [.var 1, .cst (.non)]) [.ret (.prim .isN [.var 0, .cst (.non)])] [], .ret (.and (.call 16 [.var 0]) (.prim .eq [.var 0, .var 1]))]⟩
def N17 : List PySem.Str := ((["one", "two", "k"] : List PySem.Str))
/-- _law_frac(n, d); n=0 d=1 a=2 b=3 -/
def f18 : Mn.Fn := ⟨2, 4, [.asg (.tp [.nm 2, .nm 3]) (.tupE [.prim .abs [.var 0], .prim .abs [.var 1]]), .whl (.prim .ne [.var 3, .cst (.int 0)]) [.asg (.tp [.nm 2, .nm 3]) (.tupE [.var 3, .prim .mod [.prim .toInt [.var 2], .var 3]])], .asg (.nm 2) (.ite (.prim .gt [.var 1, .cst (.int 0)]) (.var 2) (.prim .neg [.var 2])), .ret (.tupE [.prim .fdiv [.var 0, .var 2], .prim .fdiv [.var 1, .var 2]])]⟩
def N18 : List PySem.Str := ((["n", "d", "a", "b"] : List PySem.Str))
/-- _law_plus(x, y); x=0 y=1 -/
def f19 : Mn.Fn := ⟨2, 2, [.ret (.call 18 [.prim .add [.prim .mul [.prim .ix [.var 0, .cst (.int 0)], .prim .ix [.var 1, .cst (.int 1)]], .prim .mul [.prim .ix [.var 1, .cst (.int 0)], .prim .ix [.var 0, .cst (.int 1)]]], .prim .mul [.prim .ix [.var 0, .cst (.int 1)], .prim .ix [.var 1, .cst (.int 1)]]])]⟩
def N19 : List PySem.Str := ((["x", "y"] : List PySem.Str))
/-- _law_times(x, y); x=0 y=1 -/
def f20 : Mn.Fn := ⟨2, 2, [.ret (.call 18 [.prim .mul [.prim .ix [.var 0, .cst (.int 0)], .prim .ix [.var 1, .cst (.int 0)]], .prim .mul [.prim .ix [.var 0, .cst (.int 1)], .prim .ix [.var 1, .cst (.int 1)]]])]⟩
def N20 : List PySem.Str := ((["x", "y"] : List PySem.Str))
/-- _law_call(f, given); f=0 given=1 e=2 -/
def f21 : Mn.Fn := ⟨2, 3, [.tryS [.ifS (.prim .eq [.prim .len [.var 1], .cst (.int 1)]) [.ret (.tupE [.cst (.str [116, 111, 108, 100]), .call 15 [.callv 0 [.prim .ix [.var 1, .cst (.int 0)]]]])] [], .ifS (.prim .eq [.prim .len [.var 1], .cst (.int 2)]) [.ret (.tupE [.cst (.str [116, 111, 108, 100]), .call 15 [.callv 0 [.prim .ix [.var 1, .cst (.int 0)], .prim .ix [.var 1, .cst (.int 1)]]]])] [], .ifS (.prim .eq [.prim .len [.var 1], .cst (.int 3)]) [.ret (.tupE [.cst (.str [116, 111, 108, 100]), .call 15 [.callv 0 [.prim .ix [.var 1, .cst (.int 0)], .prim .ix [.var 1, .cst (.int 1)], .prim .ix [.var 1, .cst (.int 2)]]]])] [], .ret (.tupE [.cst (.str [116, 111, 108, 100]), .call 15 [.callv 0 [.prim .ix [.var 1, .cst (.int 0)], .prim .ix [.var 1, .cst (.int 1)], .prim .ix [.var 1, .cst (.int 2)], .prim .ix [.var 1, .cst (.int 3)]]]])] [(1, .tup [some (.str [109, 97, 108, 102, 111, 114, 109, 101, 100]), some (.non)]), (2, .tup [some (.str [114, 101, 102, 117, 115, 101, 100]), none])]]⟩
def N21 : List PySem.Str := ((["f", "given", "e"] : List PySem.Str))
/-- _law_tells(f, given, due); f=0 given=1 due=2 -/
def f22 : Mn.Fn := ⟨3, 3, [.ret (.call 17 [.call 21 [.var 0, .var 1], .tupE [.cst (.str [116, 111, 108, 100]), .var 2]])]⟩
def N22 : List PySem.Str := ((["f", "given", "due"] : List PySem.Str))
/-- _law_bad(f, given); f=0 given=1 -/
def f23 : Mn.Fn := ⟨2, 2, [.ret (.prim .eq [.call 21 [.var 0, .var 1], .tupE [.cst (.str [109, 97, 108, 102, 111, 114, 109, 101, 100]), .cst (.non)]])]⟩
def N23 : List PySem.Str := ((["f", "given"] : List PySem.Str))
/-- _law_over_of(n, k); n=0 k=1 total=2 i=3 -/
def f24 : Mn.Fn := ⟨2, 4, [.ifS (.or (.prim .lt [.var 1, .cst (.int 0)]) (.prim .gt [.var 1, .var 0])) [.ret (.cst (.int 0))] [], .asg (.nm 2) (.cst (.int 1)), .for (.nm 3) (.rng [.var 1]) [.asg (.nm 2) (.prim .fdiv [.prim .mul [.var 2, .prim .sub [.var 0, .var 3]], .prim .add [.var 3, .cst (.int 1)]])], .ret (.var 2)]⟩
def N24 : List PySem.Str := ((["n", "k", "total", "i"] : List PySem.Str))
/-- _law_whole_power(a, e); a=0 e=1 total=2 turn=3 -/
def f25 : Mn.Fn := ⟨2, 4, [.asg (.nm 2) (.cst (.int 1)), .for (.nm 3) (.rng [.var 1]) [.asg (.nm 2) (.prim .mul [.var 2, .var 0])], .ret (.var 2)]⟩
def N25 : List PySem.Str := ((["a", "e", "total", "turn"] : List PySem.Str))
/-- _law_krawtchouk(n, q, k, x); n=0 q=1 k=2 x=3 total=4 j=5 sign=6 -/
def f26 : Mn.Fn := ⟨4, 7, [.asg (.nm 4) (.cst (.int 0)), .for (.nm 5) (.rng [.prim .add [.var 2, .cst (.int 1)]]) [.asg (.nm 6) (.ite (.prim .eq [.prim .mod [.prim .toInt [.var 5], .cst (.int 2)], .cst (.int 1)]) (.prim .neg [.cst (.int 1)]) (.cst (.int 1))), .asg (.nm 4) (.prim .add [.var 4, .prim .mul [.prim .mul [.prim .mul [.var 6, .call 25 [.prim .sub [.var 1, .cst (.int 1)], .prim .sub [.var 2, .var 5]]], .call 24 [.var 3, .var 5]], .call 24 [.prim .sub [.var 0, .var 3], .prim .sub [.var 2, .var 5]]]])], .ret (.var 4)]⟩
def N26 : List PySem.Str := ((["n", "q", "k", "x", "total", "j", "sign"] : List PySem.Str))
/-- _law_hamming_transform(n, q); n=0 q=1 i=2 j=3 -/
def f27 : Mn.Fn := ⟨2, 4, [.ret (.prim .tuple [.comp (.prim .tuple [.comp (.tupE [.call 26 [.var 0, .var 1, .var 3, .var 2], .cst (.int 1)]) (.nm 3) (.rng [.prim .add [.var 0, .cst (.int 1)]]) [] [3]]) (.nm 2) (.rng [.prim .add [.var 0, .cst (.int 1)]]) [] [2]])]⟩
def N27 : List PySem.Str := ((["n", "q", "i", "j"] : List PySem.Str))
/-- _law_johnson_transform(v, k); v=0 k=1 rows=2 i=3 row=4 j=5 total=6 t=7 many=8 sign=9 -/
def f28 : Mn.Fn := ⟨2, 10, [.asg (.nm 2) (.lstE []), .for (.nm 3) (.rng [.prim .add [.var 1, .cst (.int 1)]]) [.asg (.nm 4) (.lstE []), .for (.nm 5) (.rng [.prim .add [.var 1, .cst (.int 1)]]) [.asg (.nm 6) (.cst (.int 0)), .for (.nm 7) (.rng [.prim .add [.var 3, .cst (.int 1)]]) [.asg (.nm 9) (.ite (.prim .eq [.prim .mod [.prim .toInt [.var 7], .cst (.int 2)], .cst (.int 1)]) (.prim .neg [.cst (.int 1)]) (.cst (.int 1))), .asg (.nm 6) (.prim .add [.var 6, .prim .mul [.prim .mul [.prim .mul [.var 9, .call 24 [.var 5, .var 7]], .call 24 [.prim .sub [.var 1, .var 5], .prim .sub [.var 3, .var 7]]], .call 24 [.prim .sub [.prim .sub [.var 0, .var 1], .var 5], .prim .sub [.var 3, .var 7]]]])], .asg (.nm 8) (.prim .sub [.call 24 [.var 0, .var 5], .call 24 [.var 0, .prim .sub [.var 5, .cst (.int 1)]]]), .ex (.meth .append (.var 4) [.call 18 [.prim .mul [.var 8, .var 6], .prim .mul [.call 24 [.var 1, .var 3], .call 24 [.prim .sub [.var 0, .var 1], .var 3]]]])], .ex (.meth .append (.var 2) [.prim .tuple [.var 4]])], .ret (.prim .tuple [.var 2])]⟩
def N28 : List PySem.Str := ((["v", "k", "rows", "i", "row", "j", "total", "t", "many", "sign"] : List PySem.Str))
/-- _law_square_holds(n, q); n=0 q=1 Q=2 i=3 j=4 k=5 -/
def f29 : Mn.Fn := ⟨2, 6, [.asg (.nm 2) (.call 27 [.var 0, .var 1]), .for (.nm 3) (.rng [.prim .add [.var 0, .cst (.int 1)]]) [.for (.nm 4) (.rng [.prim .add [.var 0, .cst (.int 1)]]) [.ifS (.prim .ne [.prim .sum [.comp (.prim .mul [.prim .ix [.prim .ix [.prim .ix [.var 2, .var 3], .var 5], .cst (.int 0)], .prim .ix [.prim .ix [.prim .ix [.var 2, .var 5], .var 4], .cst (.int 0)]]) (.nm 5) (.rng [.prim .add [.var 0, .cst (.int 1)]]) [] [5]], .prim .mul [.call 25 [.var 1, .var 0], .prim .toInt [.prim .eq [.var 3, .var 4]]]]) [.ret (.cst (.bl false))] []]], .ret (.cst (.bl true))]⟩
def N29 : List PySem.Str := ((["n", "q", "Q", "i", "j", "k"] : List PySem.Str))
/-- _law_choices_hold(v, k); v=0 k=1 j=2 Q=3 size=4 t=5 total=6 i=7 -/
def f30 : Mn.Fn := ⟨2, 8, [.asg (.tp [.nm 3, .nm 4]) (.tupE [.call 28 [.var 0, .var 1], .call 24 [.var 0, .var 1]]), .ifS (.not (.call 22 [.cst (.fn 11), .tupE [.var 0, .var 1], .var 3])) [.ret (.cst (.bl false))] [], .for (.nm 2) (.rng [.prim .add [.var 1, .cst (.int 1)]]) [.for (.nm 5) (.rng [.prim .add [.var 2, .cst (.int 1)]]) [.asg (.nm 6) (.tupE [.cst (.int 0), .cst (.int 1)]), .for (.nm 7) (.rng [.prim .add [.var 1, .cst (.int 1)]]) [.asg (.nm 6) (.call 19 [.var 6, .call 20 [.tupE [.prim .mul [.call 24 [.var 1, .var 7], .call 24 [.prim .sub [.var 0, .var 1], .var 7]], .cst (.int 1)], .call 20 [.prim .ix [.prim .ix [.var 3, .var 7], .var 2], .prim .ix [.prim .ix [.var 3, .var 7], .var 5]]]])], .ifS (.prim .ne [.var 6, .tupE [.prim .mul [.prim .mul [.var 4, .prim .ix [.prim .ix [.prim .ix [.var 3, .cst (.int 0)], .var 2], .cst (.int 0)]], .prim .toInt [.prim .eq [.var 2, .var 5]]], .cst (.int 1)]]) [.ret (.cst (.bl false))] []]], .ret (.cst (.bl true))]⟩
def N30 : List PySem.Str := ((["v", "k", "j", "Q", "size", "t", "total", "i"] : List PySem.Str))
/-- law(script); script=0 state=1 turn=2 bad=3 v=4 n=5 q=6 -/
def f31 : Mn.Fn := ⟨1, 7, [.asg (.nm 1) (.call 12 [.var 0]), .for (.nm 2) (.rng [.cst (.int 3)]) [.asg (.tp [.nm 5, .nm 6]) (.tupE [.prim .add [.cst (.int 1), .call 13 [.var 1, .prim .ix [.lstE [.cst (.int 6), .cst (.int 12), .cst (.int 24)], .var 2]]], .prim .add [.cst (.int 2), .call 13 [.var 1, .cst (.int 3)]]]), .ifS (.or (.not (.call 22 [.cst (.fn 9), .tupE [.var 5, .var 6], .call 27 [.var 5, .var 6]])) (.and (.prim .lt [.var 5, .cst (.int 13)]) (.not (.call 29 [.var 5, .var 6])))) [.ret (.cst (.bl false))] [], .asg (.nm 4) (.prim .add [.cst (.int 2), .call 13 [.var 1, .prim .ix [.lstE [.cst (.int 6), .cst (.int 12), .cst (.int 23)], .var 2]]]), .ifS (.not (.call 30 [.var 4, .prim .add [.cst (.int 1), .call 13 [.var 1, .prim .fdiv [.var 4, .cst (.int 2)]]]])) [.ret (.cst (.bl false))] []], .ifS (.not (.call 22 [.cst (.fn 9), .tupE [.cst (.int 2), .cst (.int 2)], .tupE [.tupE [.tupE [.cst (.int 1), .cst (.int 1)], .tupE [.cst (.int 2), .cst (.int 1)], .tupE [.cst (.int 1), .cst (.int 1)]], .tupE [.tupE [.cst (.int 1), .cst (.int 1)], .tupE [.cst (.int 0), .cst (.int 1)], .tupE [.prim .neg [.cst (.int 1)], .cst (.int 1)]], .tupE [.tupE [.cst (.int 1), .cst (.int 1)], .tupE [.prim .neg [.cst (.int 2)], .cst (.int 1)], .tupE [.cst (.int 1), .cst (.int 1)]]]])) [.ret (.cst (.bl false))] [], .for (.nm 3) (.ex (.lstE [.cst (.int 0), .cst (.int 25), .prim .neg [.cst (.int 1)], .cst (.bl true), .cst (.non), .cst (.str [51]), .tupE [.cst (.int 3)]])) [.ifS (.or (.not (.call 23 [.cst (.fn 9), .tupE [.var 3, .cst (.int 2)]])) (.not (.call 23 [.cst (.fn 11), .tupE [.var 3, .cst (.int 1)]]))) [.ret (.cst (.bl false))] []], .for (.nm 3) (.ex (.lstE [.cst (.int 0), .cst (.int 1), .cst (.int 5), .prim .neg [.cst (.int 2)], .cst (.bl true), .cst (.non), .cst (.str [50])])) [.ifS (.not (.call 23 [.cst (.fn 9), .tupE [.cst (.int 3), .var 3]])) [.ret (.cst (.bl false))] []], .ret (.and (.prim .all [.comp (.call 23 [.cst (.fn 11), .tupE [.cst (.int 6), .var 3]]) (.nm 3) (.ex (.lstE [.cst (.int 0), .cst (.int 4), .prim .neg [.cst (.int 1)], .cst (.bl true), .cst (.non), .cst (.str [50])])) [] [3]]) (.call 23 [.cst (.fn 11), .tupE [.cst (.int 1), .cst (.int 1)]]))]⟩
def N31 : List PySem.Str := ((["script", "state", "turn", "bad", "v", "n", "q"] : List PySem.Str))
def T : List Mn.Fn := ([f0, f1, f2, f3, f4, f5, f6, f7, f8, f9, f10, f11, f12, f13, f14, f15, f16, f17, f18, f19, f20, f21, f22, f23, f24] ++ [f25, f26, f27, f28, f29, f30, f31])
def NN : List (List PySem.Str) := ([N0, N1, N2, N3, N4, N5, N6, N7, N8, N9, N10, N11, N12, N13, N14, N15, N16, N17, N18, N19, N20, N21, N22, N23, N24] ++ [N25, N26, N27, N28, N29, N30, N31])
def md : Mn.Md := ⟨((["is_integer", "greatest_common", "chosen_of", "lowest", "ratio_over", "power", "chosen", "krawtchouk", "check_length", "hamming_transform", "johnson_value", "johnson_transform", "_law_state", "_law_take", "_law_odd", "_law_honest", "_law_is_whole", "_law_same", "_law_frac", "_law_plus", "_law_times", "_law_call", "_law_tells", "_law_bad", "_law_over_of"] : List PySem.Str) ++ (["_law_whole_power", "_law_krawtchouk", "_law_hamming_transform", "_law_johnson_transform", "_law_square_holds", "_law_choices_hold", "law"] : List PySem.Str)), [("MOST_LENGTH", .int 24), ("MOST_LETTERS", .int 4)], [("Malformed", 1, none), ("Refused", 2, some "reason")], ((["abs", "all", "bool", "int", "isinstance", "len", "list", "range", "str", "sum", "tuple"] : List PySem.Str))⟩
end Pk34
/-! the plain numbers of law k34, the defs that reckon them -/
namespace Qk34
open Mn PySem Lb
def ch (n k : Int) : Int := if 0 ≤ k ∧ k ≤ n then choL n k.toNat else 0
def krT (n q j i t : Nat) : Int := (-1) ^ t * ((q : Int) - 1) ^ (j - t) * ch i t * ch ((n : Int) - i) ((j - t : Nat) : Int)
def kr (n q j i : Nat) : Int := ((List.range (j + 1)).map (krT n q j i)).sum
def jvT (v k j i t : Nat) : Int := (-1) ^ t * ch i t * ch ((k : Int) - i) ((j - t : Nat) : Int) * ch ((v : Int) - k - i) ((j - t : Nat) : Int)
def jv (v k j i : Nat) : Int := ((List.range (j + 1)).map (jvT v k j i)).sum
variable {wf k g : Nat} {st : Sto}
abbrev T := Pk34.T
theorem sm_ch {n k : Int} (h : n < 32) : sm 160 (ch n k) := by
  unfold ch
  split
  · rename_i hk
    refine sm_mono (sm_choL (m := 5) (fun j hj => ?_) k.toNat (by omega)) (by omega)
    exact sm_lit (by omega)
  · exact Nat.pos_of_ne_zero (by simp)
theorem chosen_ok {n c : Int} (h : n < 32) : callF T wf (k + 2) 6 [.int n, .int c] st = .ok (.int (ch n c)) st := by
  rw [call_def (f := Pk34.f6) rfl rfl]
  unfold ch
  by_cases h0 : 0 ≤ c
  · by_cases h1 : c ≤ n
    · obtain ⟨e, rfl⟩ : ∃ e : Nat, c = e := ⟨c.toNat, by omega⟩
      have hc := cho_ok (T := T) (g := 2) (wf := wf) (k := k) (st := st) rfl (n := n) (e := e) (m := 5) h1 (by omega) (by decide) (by omega)
      simp [Pk34.f6, h0, h1, hc, fin_ret]
    · simp [Pk34.f6, h0, h1, fin_ret]
  · simp [Pk34.f6, h0, fin_ret]
theorem over_ok {n c : Int} (h : n < 32) : callF T wf (k + 1) 24 [.int n, .int c] st = .ok (.int (ch n c)) st := by
  rw [call_def (f := Pk34.f24) rfl rfl]
  unfold ch
  by_cases h0 : 0 ≤ c
  · by_cases h1 : c ≤ n
    · obtain ⟨e, rfl⟩ : ∃ e : Nat, c = e := ⟨c.toNat, by omega⟩
      have hs : ∀ j : Nat, (j : Int) ≤ n → sm 5 (n - j) := fun j hj => sm_lit (by omega)
      obtain ⟨w, h2⟩ := cho_loop (cf := ⟨callF T wf k, wf, T.length⟩) (st := st) (n := n) (e := e) (m := 5) (fun j hj => hs j (by omega)) (fun j hj => sm_choL hs j (by omega)) (by omega) (by omega)
      have h3 : ¬ (e : Int) < 0 := by omega
      have h4 : ¬ n < (e : Int) := by omega
      simp [Pk34.f24, h1, h3, h4, rngN (n := e) (by omega)] at h2 ⊢
      simp [h2, fin_ret]
    · have h3 : ¬ c < 0 := by omega
      have h4 : n < c := by omega
      simp [Pk34.f24, h1, h3, h4, fin_ret]
  · have h3 : c < 0 := by omega
    simp [Pk34.f24, h0, h3, fin_ret]
theorem sgn (j : Nat) : (if (j : Int).fmod 2 = 1 then (-1 : Int) else 1) = (-1) ^ j := by
  induction j with
  | zero => rfl
  | succ j ih =>
    rw [Int.pow_succ, ← ih]
    rw [Int.fmod_eq_emod_of_nonneg _ (by decide), Int.fmod_eq_emod_of_nonneg _ (by decide)]
    by_cases h : (j : Int) % 2 = 1
    · rw [if_pos h, if_neg (by omega)]; rfl
    · rw [if_neg h, if_pos (by omega)]; rfl
theorem sgn_ite (t : Nat) : (if (t : Int).fmod 2 = 1 then (Out.ok (D.int (-1)) st : Out D) else .ok (.int 1) st) = .ok (.int ((-1) ^ t)) st := by
  have := sgn t
  by_cases h : (t : Int).fmod 2 = 1
  · rw [if_pos h] at this ⊢
    rw [← this]
  · rw [if_neg h] at this ⊢
    rw [← this]
theorem sm_one : sm 1 (-1) := by
  unfold sm
  decide
theorem sm_krT {n q j i t : Nat} (hn : n ≤ 24) (hq : q ≤ 4) (hi : i ≤ 24) (hj : j ≤ 24) (ht : t ≤ 24) : sm 26 ((-1) ^ t : Int) ∧ sm 50 (((q : Int) - 1) ^ (j - t)) ∧ sm 160 (ch i t) ∧ sm 160 (ch ((n : Int) - i) ((j - t : Nat) : Int)) :=
  ⟨sm_mono (sm_pow sm_one t) (by omega), sm_mono (sm_pow (n := 2) (sm_lit (by omega)) (j - t)) (by omega), sm_ch (by omega), sm_ch (by omega)⟩
theorem sum_succ {f : Nat → Int} (n : Nat) : ((List.range (n + 1)).map f).sum = ((List.range n).map f).sum + f n := by
  rw [List.range_succ, List.map_append, List.sum_append]
  simp
theorem sm_sum {m : Nat} {f : Nat → Int} (h : ∀ t, t ≤ 24 → sm m (f t)) : ∀ n : Nat, n ≤ 25 → sm (m + n) (((List.range n).map f).sum)
  | 0, _ => Nat.pos_of_ne_zero (by simp)
  | n + 1, hn => by
    rw [sum_succ]
    exact sm_mono (sm_add (n := m + n) (sm_sum h n (by omega)) (sm_mono (h n (by omega)) (Nat.le_add_right m n))) (Nat.le_refl _)
theorem kr_ok {n q j i : Nat} (hn : n ≤ 24) (h1 : 1 ≤ q) (hq : q ≤ 4) (hi : i ≤ n) (hj : j ≤ n) : callF T wf (k + 3) 7 [.int n, .int q, .int j, .int i] st = .ok (.int (kr n q j i)) st := by
  rw [call_def (f := Pk34.f7) rfl rfl]
  have hc := comp_rng (cf := ⟨callF T wf (k + 2), wf, T.length⟩) (elt := .prim .mul [.prim .mul [.prim .mul [.call 5 [.prim .neg [.cst (.int 1)], .var 4], .call 5 [.prim .sub [.var 1, .cst (.int 1)], .prim .sub [.var 2, .var 4]]], .call 6 [.var 3, .var 4]], .call 6 [.prim .sub [.var 0, .var 3], .prim .sub [.var 2, .var 4]]])
    (tg := .nm 4) (cs := []) (own := [4]) (ρ := [some (.int n), some (.int q), some (.int j), some (.int i), none]) (fun t => .int (krT n q j i t)) (st := st) (k := j + 1)
    (fun t acc ht ha => by
      obtain ⟨s1, s2, s3, s4⟩ := sm_krT (n := n) (q := q) (j := j) (i := i) (t := t) hn hq (by omega) (by omega) (by omega)
      have e1 : (j : Int) - t = ((j - t : Nat) : Int) := by omega
      have p1 := pow_ok (T := T) (g := 5) (wf := wf) (k := k + 1) (st := st) rfl (a := -1) (e := t) (n := 1) sm_one (by omega) (by omega)
      have p2 := pow_ok (T := T) (g := 5) (wf := wf) (k := k + 1) (st := st) rfl (a := (q : Int) - 1) (e := j - t) (n := 2) (sm_lit (by omega)) (by omega) (by omega)
      have c1 := chosen_ok (wf := wf) (k := k) (st := st) (n := i) (c := t) (by omega)
      have c2 := chosen_ok (wf := wf) (k := k) (st := st) (n := (n : Int) - i) (c := ((j - t : Nat) : Int)) (by omega)
      have f1 := fits_sm s1 s2 (by decide)
      have f2 := fits_sm (sm_mul s1 s2) s3 (by decide)
      have f3 := fits_sm (sm_mul (sm_mul s1 s2) s3) s4 (by decide)
      have hs : acc.length < sizeLine := small_acc ha (by omega)
      simp [turnB, wipe, hs, e1, p1, p2, c1, c2, f1, f2, f3, krT])
  have hsum := sp_sum (st := st) ((List.range (j + 1)).map (krT n q j i))
  rw [List.map_map] at hsum
  have hsum' : semP .sum [.tl ((List.range (j + 1)).map fun t => .int (krT n q j i t))] st = some (.int (kr n q j i), st) := hsum
  simp [Pk34.f7, rngN1 (n := j) (by omega), hc, hsum', fin_ret]
theorem lkr_ok {n q j i : Nat} (hn : n ≤ 24) (h1 : 1 ≤ q) (hq : q ≤ 4) (hi : i ≤ n) (hj : j ≤ n) : callF T wf (k + 2) 26 [.int n, .int q, .int j, .int i] st = .ok (.int (kr n q j i)) st := by
  rw [call_def (f := Pk34.f26) rfl rfl]
  obtain ⟨⟨w1, w2⟩, hl⟩ := for_rng (cf := ⟨callF T wf (k + 1), wf, T.length⟩) (t := .nm 5) (b := [.asg (.nm 6) (.ite (.prim .eq [.prim .mod [.prim .toInt [.var 5], .cst (.int 2)], .cst (.int 1)]) (.prim .neg [.cst (.int 1)]) (.cst (.int 1))), .asg (.nm 4) (.prim .add [.var 4, .prim .mul [.prim .mul [.prim .mul [.var 6, .call 25 [.prim .sub [.var 1, .cst (.int 1)], .prim .sub [.var 2, .var 5]]], .call 24 [.var 3, .var 5]], .call 24 [.prim .sub [.var 0, .var 3], .prim .sub [.var 2, .var 5]]]])])
    (J := Option D × Option D) (fun t w => [some (.int n), some (.int q), some (.int j), some (.int i), some (.int ((List.range t).map (krT n q j i)).sum), w.1, w.2]) (st := st) (k := j + 1) (none, none) rfl
    (fun t w ht => ⟨(some (.int t), some (.int ((-1) ^ t))), by
      obtain ⟨s1, s2, s3, s4⟩ := sm_krT (n := n) (q := q) (j := j) (i := i) (t := t) hn hq (by omega) (by omega) (by omega)
      have e1 : (j : Int) - t = ((j - t : Nat) : Int) := by omega
      have p2 := pow_ok (T := T) (g := 25) (wf := wf) (k := k) (st := st) rfl (a := (q : Int) - 1) (e := j - t) (n := 2) (sm_lit (by omega)) (by omega) (by omega)
      have c1 := over_ok (wf := wf) (k := k) (st := st) (n := i) (c := t) (by omega)
      have c2 := over_ok (wf := wf) (k := k) (st := st) (n := (n : Int) - i) (c := ((j - t : Nat) : Int)) (by omega)
      obtain ⟨sg, hsg⟩ : ∃ sg : Int, sg = (-1) ^ t := ⟨_, rfl⟩
      rw [← hsg] at s1 ⊢
      have hit := sgn_ite (st := st) t
      rw [← hsg] at hit
      have f1 := fits_sm s1 s2 (by decide)
      have f2 := fits_sm (sm_mul s1 s2) s3 (by decide)
      have f3 := fits_sm (sm_mul (sm_mul s1 s2) s3) s4 (by decide)
      rw [sum_succ]
      simp [hit, e1, p2, c1, c2, f1, f2, f3, krT, ← hsg]⟩)
  simp [Pk34.f26, rngN1 (n := j) (by omega)] at hl ⊢
  simp [hl, fin_ret, kr]
end Qk34
namespace Qk34
open Mn PySem Lb
variable {wf k g : Nat} {st : Sto}
/-! ### fractions -/
theorem gcd_loop {cf : Cf} : ∀ (b a m : Nat), b < m → whB cf (.prim .ne [.var 1, .cst (.int 0)]) [.asg (.tp [.nm 0, .nm 1]) (.tupE [.var 1, .prim .mod [.var 0, .var 1]])] m [some (.int a), some (.int b)] st = .ok (.nx, [some (.int (Nat.gcd b a : Nat)), some (.int 0)]) st := by
  intro b
  induction b using Nat.strongRecOn with
  | ind b ih =>
    intro a m hm
    obtain ⟨m, rfl⟩ : ∃ m', m = m' + 1 := ⟨m - 1, by omega⟩
    rw [whB_succ]
    by_cases hb : b = 0
    · subst hb
      simp
    · have hb' : ((b : Nat) : Int) ≠ 0 := by omega
      have e : (a : Int).fmod (b : Int) = ((a % b : Nat) : Int) := by
        rw [Int.fmod_eq_emod_of_nonneg _ (by omega)]
        rfl
      have := ih (a % b) (Nat.mod_lt _ (by omega)) b m (by have := Nat.mod_lt a (show b > 0 by omega); omega)
      rw [← Nat.gcd_rec] at this
      rw [Int.natCast_emod] at this
      simp [hb, hb', e, this, seqOf]
theorem gcd_ok {x y : Int} (h : y.natAbs < wf) : callF T wf (k + 1) 1 [.int x, .int y] st = .ok (.int (Int.gcd x y : Nat)) st := by
  rw [call_def (f := Pk34.f1) rfl rfl]
  have := gcd_loop (cf := ⟨callF T wf k, wf, T.length⟩) (st := st) y.natAbs x.natAbs wf h
  rw [Nat.gcd_comm] at this
  simp [Pk34.f1, seqOf] at this ⊢
  simp [this, fin_ret, Int.gcd]
def fr (n d : Int) : Int × Int := (n.fdiv (if d < 0 then -(Int.gcd n d : Int) else Int.gcd n d), d.fdiv (if d < 0 then -(Int.gcd n d : Int) else Int.gcd n d))
theorem gcd_pos {n d : Int} (hd : d ≠ 0) : 0 < Int.gcd n d := Int.gcd_pos_of_ne_zero_right _ hd
theorem gcd_log {n d : Int} (hd : d ≠ 0) (hb : sm 400 d) : (Int.gcd n d).log2 < 9000 := by
  have h1 := gcd_pos (n := n) hd
  have h2 : Int.gcd n d ≤ d.natAbs := Nat.le_of_dvd (by omega) (Nat.gcd_dvd_right _ _)
  exact Nat.lt_of_lt_of_le ((Nat.log2_lt (by omega)).mpr (Nat.lt_of_le_of_lt h2 hb)) (by decide)
theorem lowest_ok {n d : Int} (hd : d ≠ 0) (hb : sm 400 d) (hw : 2 ^ 400 ≤ wf) : callF T wf (k + 2) 3 [.int n, .int d] st = .ok (.tup [.int (fr n d).1, .int (fr n d).2]) st := by
  rw [call_def (f := Pk34.f3) rfl rfl]
  have hg := gcd_ok (wf := wf) (k := k) (st := st) (x := n) (y := d) (Nat.lt_of_lt_of_le hb hw)
  have h1 := gcd_pos (n := n) hd
  have h2 := gcd_log (n := n) hd hb
  generalize hG : Int.gcd n d = G at *
  have h3 : (G : Int) ≠ 0 := by omega
  have h4 : -(G : Int) ≠ 0 := by omega
  have h5 : ((G : Int).natAbs).log2 < 9000 := by simpa using h2
  have h6 : ((-(G : Int)).natAbs).log2 < 9000 := by simpa using h2
  by_cases hn : d < 0
  · simp [Pk34.f3, hg, hn, fr, hG, h2, h6, h1, show G ≠ 0 by omega, fin_ret]
  · simp [Pk34.f3, hg, hn, fr, hG, h2, h5, h1, show G ≠ 0 by omega, fin_ret]
theorem fgcd_loop {cf : Cf} {n d : Int} : ∀ (b a m : Nat), b < m → whB cf (.prim .ne [.var 3, .cst (.int 0)]) [.asg (.tp [.nm 2, .nm 3]) (.tupE [.var 3, .prim .mod [.prim .toInt [.var 2], .var 3]])] m [some (.int n), some (.int d), some (.int a), some (.int b)] st = .ok (.nx, [some (.int n), some (.int d), some (.int (Nat.gcd b a : Nat)), some (.int 0)]) st := by
  intro b
  induction b using Nat.strongRecOn with
  | ind b ih =>
    intro a m hm
    obtain ⟨m, rfl⟩ : ∃ m', m = m' + 1 := ⟨m - 1, by omega⟩
    rw [whB_succ]
    by_cases hb : b = 0
    · subst hb
      simp
    · have hb' : ((b : Nat) : Int) ≠ 0 := by omega
      have e : (a : Int).fmod (b : Int) = ((a % b : Nat) : Int) := by
        rw [Int.fmod_eq_emod_of_nonneg _ (by omega)]
        rfl
      have := ih (a % b) (Nat.mod_lt _ (by omega)) b m (by have := Nat.mod_lt a (show b > 0 by omega); omega)
      rw [← Nat.gcd_rec] at this
      rw [Int.natCast_emod] at this
      simp [hb, hb', e, this, seqOf]
theorem frac_ok {n d : Int} (hd : d ≠ 0) (hb : sm 400 d) (hw : 2 ^ 400 ≤ wf) : callF T wf (k + 1) 18 [.int n, .int d] st = .ok (.tup [.int (fr n d).1, .int (fr n d).2]) st := by
  rw [call_def (f := Pk34.f18) rfl rfl]
  have hl := fgcd_loop (cf := ⟨callF T wf k, wf, T.length⟩) (st := st) (n := n) (d := d) d.natAbs n.natAbs wf (Nat.lt_of_lt_of_le hb hw)
  rw [Nat.gcd_comm] at hl
  have h1 := gcd_pos (n := n) hd
  have h2 := gcd_log (n := n) hd hb
  have hG0 : Nat.gcd n.natAbs d.natAbs = Int.gcd n d := rfl
  rw [hG0] at hl
  generalize hG : Int.gcd n d = G at *
  have h5 : ((G : Int).natAbs).log2 < 9000 := by simpa using h2
  have h6 : ((-(G : Int)).natAbs).log2 < 9000 := by simpa using h2
  by_cases hn : d < 0
  · have hp : ¬ 0 < d := by omega
    simp [Pk34.f18, seqOf] at hl ⊢
    simp [hl, hn, hp, fr, hG, h2, h6, show G ≠ 0 by omega, fin_ret]
  · have hp : 0 < d := by omega
    simp [Pk34.f18, seqOf] at hl ⊢
    simp [hl, hn, hp, fr, hG, h2, h5, show G ≠ 0 by omega, fin_ret]
def big (a : Int) : Bool := decide (a.natAbs < 2 ^ 400)
theorem big_sm {a : Int} (h : big a = true) : sm 400 a := show a.natAbs < 2 ^ 400 from of_decide_eq_true h
def frO (n d : Int) : Option (Int × Int) := if big n && big d && !(decide (d = 0)) then some (fr n d) else none
def plusO (x y : Int × Int) : Option (Int × Int) := if big x.1 && big x.2 && big y.1 && big y.2 then frO (x.1 * y.2 + y.1 * x.2) (x.2 * y.2) else none
def timesO (x y : Int × Int) : Option (Int × Int) := if big x.1 && big x.2 && big y.1 && big y.2 then frO (x.1 * y.1) (x.2 * y.2) else none
abbrev frD (x : Int × Int) : D := .tup [.int x.1, .int x.2]
theorem frO_ok {n d : Int} {z : Int × Int} (h : frO n d = some z) (hw : 2 ^ 400 ≤ wf) : callF T wf (k + 1) 18 [.int n, .int d] st = .ok (frD z) st := by
  unfold frO at h
  split at h
  · rename_i hc
    simp only [Bool.and_eq_true, Bool.not_eq_true', decide_eq_false_iff_not] at hc
    cases h
    exact frac_ok hc.2 (big_sm hc.1.2) hw
  · cases h
theorem plus_ok {x y z : Int × Int} (h : plusO x y = some z) (hw : 2 ^ 400 ≤ wf) : callF T wf (k + 2) 19 [frD x, frD y] st = .ok (frD z) st := by
  rw [call_def (f := Pk34.f19) rfl rfl]
  unfold plusO at h
  split at h
  · rename_i hc
    simp only [Bool.and_eq_true] at hc
    obtain ⟨⟨⟨b1, b2⟩, b3⟩, b4⟩ := hc
    have f1 := fits_sm (big_sm b1) (big_sm b4) (by decide)
    have f2 := fits_sm (big_sm b3) (big_sm b2) (by decide)
    have f3 := fits_sm (big_sm b2) (big_sm b4) (by decide)
    have hf := frO_ok (wf := wf) (k := k) (st := st) h hw
    simp [Pk34.f19, f1, f2, f3, hf, fin_ret]
  · cases h
theorem times_ok {x y z : Int × Int} (h : timesO x y = some z) (hw : 2 ^ 400 ≤ wf) : callF T wf (k + 2) 20 [frD x, frD y] st = .ok (frD z) st := by
  rw [call_def (f := Pk34.f20) rfl rfl]
  unfold timesO at h
  split at h
  · rename_i hc
    simp only [Bool.and_eq_true] at hc
    obtain ⟨⟨⟨b1, b2⟩, b3⟩, b4⟩ := hc
    have f1 := fits_sm (big_sm b1) (big_sm b3) (by decide)
    have f3 := fits_sm (big_sm b2) (big_sm b4) (by decide)
    have hf := frO_ok (wf := wf) (k := k) (st := st) h hw
    simp [Pk34.f20, f1, f3, hf, fin_ret]
  · cases h
theorem over_frac {x y : Int} (hy : y ≠ 0) (hb : sm 400 y) (hx : sm 2000 x) (hw : 2 ^ 400 ≤ wf) : callF T wf (k + 3) 4 [.tup [.int x, .int 1], .tup [.int y, .int 1]] st = .ok (frD (fr x y)) st := by
  rw [call_def (f := Pk34.f4) rfl rfl]
  have f1 : fits x 1 := fits_sm hx (sm_lit (n := 1) (by decide)) (by decide)
  have f2 : fits 1 y := fits_sm (sm_lit (n := 1) (by decide)) hb (by decide)
  have hl := lowest_ok (wf := wf) (k := k) (st := st) (n := x) hy hb hw
  simp [Pk34.f4, hy, f1, f2, hl, fin_ret]
/-! ### Hamming's table -/
def kd (n q j i : Nat) : D := .tup [.int (kr n q j i), .int 1]
def rowD (n q i : Nat) : D := .tup ((List.range (n + 1)).map fun j => kd n q j i)
def hmD (n q : Nat) : D := .tup ((List.range (n + 1)).map (rowD n q))
theorem length_ok {n q : Nat} (h0 : 1 ≤ n) (hn : n ≤ 24) (h1 : 2 ≤ q) (hq : q ≤ 4) : callF T wf (k + 2) 8 [.int n, .int q] st = .ok .non st := by
  rw [call_def (f := Pk34.f8) rfl rfl]
  have a1 : (1 : Int) ≤ n := by omega
  have a2 : (n : Int) ≤ 24 := by omega
  have a3 : (2 : Int) ≤ q := by omega
  have a4 : (q : Int) ≤ 4 := by omega
  simp [Pk34.f8, whole_i (T := T) (g := 0) rfl, a1, a2, a3, a4, fin_nx]
theorem row_acc {acc : List D} (h : acc.length < 25) : acc.length < sizeLine := small_acc h (by decide)
theorem ham_ok {n q : Nat} (h0 : 1 ≤ n) (hn : n ≤ 24) (h1 : 2 ≤ q) (hq : q ≤ 4) : callF T wf (k + 4) 9 [.int n, .int q] st = .ok (hmD n q) st := by
  rw [call_def (f := Pk34.f9) rfl rfl]
  have hl := length_ok (wf := wf) (k := k + 1) (st := st) h0 hn h1 hq
  have hc := comp_rng (cf := ⟨callF T wf (k + 3), wf, T.length⟩) (elt := .prim .tuple [.comp (.tupE [.call 7 [.var 0, .var 1, .var 3, .var 2], .cst (.int 1)]) (.nm 3) (.rng [.prim .add [.var 0, .cst (.int 1)]]) [] [3]]) (tg := .nm 2) (cs := []) (own := [2]) (ρ := [some (.int n), some (.int q), none, none]) (rowD n q) (st := st) (k := n + 1)
    (fun i acc hi ha => by
      have hs : acc.length < sizeLine := small_acc ha (by omega)
      have hc := comp_rng (cf := ⟨callF T wf (k + 3), wf, T.length⟩) (elt := .tupE [.call 7 [.var 0, .var 1, .var 3, .var 2], .cst (.int 1)]) (tg := .nm 3) (cs := []) (own := [3]) (ρ := [some (.int n), some (.int q), some (.int i), none]) (fun j => kd n q j i) (st := st) (k := n + 1)
        (fun j acc hj ha => by
          have hs : acc.length < sizeLine := small_acc ha (by omega)
          have hk := kr_ok (wf := wf) (k := k) (st := st) (n := n) (q := q) (j := j) (i := i) hn (by omega) hq (by omega) (by omega)
          simp [turnB, wipe, hs, hk, kd])
      simp [turnB, wipe, hs, rngN1 (n := n) (by omega), hc, rowD])
  simp [Pk34.f9, hl, rngN1 (n := n) (by omega), hc, hmD, fin_ret]
theorem lham_ok {n q : Nat} (hn : n ≤ 24) (h1 : 1 ≤ q) (hq : q ≤ 4) : callF T wf (k + 3) 27 [.int n, .int q] st = .ok (hmD n q) st := by
  rw [call_def (f := Pk34.f27) rfl rfl]
  have hc := comp_rng (cf := ⟨callF T wf (k + 2), wf, T.length⟩) (elt := .prim .tuple [.comp (.tupE [.call 26 [.var 0, .var 1, .var 3, .var 2], .cst (.int 1)]) (.nm 3) (.rng [.prim .add [.var 0, .cst (.int 1)]]) [] [3]]) (tg := .nm 2) (cs := []) (own := [2]) (ρ := [some (.int n), some (.int q), none, none]) (rowD n q) (st := st) (k := n + 1)
    (fun i acc hi ha => by
      have hs : acc.length < sizeLine := small_acc ha (by omega)
      have hc := comp_rng (cf := ⟨callF T wf (k + 2), wf, T.length⟩) (elt := .tupE [.call 26 [.var 0, .var 1, .var 3, .var 2], .cst (.int 1)]) (tg := .nm 3) (cs := []) (own := [3]) (ρ := [some (.int n), some (.int q), some (.int i), none]) (fun j => kd n q j i) (st := st) (k := n + 1)
        (fun j acc hj ha => by
          have hs : acc.length < sizeLine := small_acc ha (by omega)
          have hk := lkr_ok (wf := wf) (k := k) (st := st) (n := n) (q := q) (j := j) (i := i) hn h1 hq (by omega) (by omega)
          simp [turnB, wipe, hs, hk, kd])
      simp [turnB, wipe, hs, rngN1 (n := n) (by omega), hc, rowD])
  simp [Pk34.f27, rngN1 (n := n) (by omega), hc, hmD, fin_ret]
end Qk34
namespace Qk34
open Mn PySem Lb
variable {wf k g : Nat} {st : Sto}
theorem app_get {A B : Sto} {x : Ob} : (A ++ x :: B)[A.length]? = some x := by simp
theorem app_set {A B : Sto} {x y : Ob} : (A ++ x :: B).set A.length y = A ++ y :: B := by simp
/-! ### Johnson's table -/
def ki (v k i : Nat) : Int := ch k i * ch ((v : Int) - k) i
def many (v j : Nat) : Int := ch v j - ch v ((j : Int) - 1)
def jq (v k i j : Nat) : Int × Int := fr (many v j * jv v k i j) (ki v k i)
def jrow (v k i : Nat) : List D := (List.range (k + 1)).map fun j => frD (jq v k i j)
def joD (v k : Nat) : D := .tup ((List.range (k + 1)).map fun i => .tup (jrow v k i))
theorem cho_pos : ∀ n : Fin 25, ∀ j : Fin 25, j.val ≤ n.val → 0 < choL (n.val : Int) j.val := by decide +kernel
theorem ch_pos {n j : Nat} (hn : n ≤ 24) (hj : j ≤ n) : 0 < ch (n : Int) (j : Int) := by
  unfold ch
  rw [if_pos ⟨by omega, by omega⟩]
  exact cho_pos ⟨n, by omega⟩ ⟨j, by omega⟩ hj
theorem ki_pos {v k i : Nat} (hv : v ≤ 24) (hk : 2 * k ≤ v) (hi : i ≤ k) : 0 < ki v k i := by
  unfold ki
  have e : (v : Int) - k = ((v - k : Nat) : Int) := by omega
  rw [e]
  exact Int.mul_pos (ch_pos (by omega) hi) (ch_pos (by omega) (by omega))
theorem sm_ki {v k i : Nat} (hv : v ≤ 24) (hk : k ≤ 24) : sm 400 (ki v k i) := sm_mono (sm_mul (sm_ch (by omega)) (sm_ch (by omega))) (by decide)
theorem sm_many {v j : Nat} (hv : v ≤ 24) : sm 161 (many v j) := sm_sub (sm_ch (by omega)) (sm_ch (by omega))
theorem sm_jvT {v k j i t : Nat} (hv : v ≤ 24) (hk : k ≤ 24) (hi : i ≤ 24) (ht : t ≤ 24) : sm 26 ((-1) ^ t : Int) ∧ sm 160 (ch i t) ∧ sm 160 (ch ((k : Int) - i) ((j - t : Nat) : Int)) ∧ sm 160 (ch ((v : Int) - k - i) ((j - t : Nat) : Int)) :=
  ⟨sm_mono (sm_pow sm_one t) (by omega), sm_ch (by omega), sm_ch (by omega), sm_ch (by omega)⟩
theorem sm_jv {v k j i : Nat} (hv : v ≤ 24) (hk : k ≤ 24) (hi : i ≤ 24) (hj : j ≤ 24) : sm 600 (jv v k j i) :=
  sm_mono (sm_sum (m := 506) (f := jvT v k j i) (fun t ht => by
    obtain ⟨s1, s2, s3, s4⟩ := sm_jvT (v := v) (k := k) (j := j) (i := i) (t := t) hv hk hi ht
    exact sm_mul (sm_mul (sm_mul s1 s2) s3) s4) (j + 1) (by omega)) (by omega)
theorem jv_ok {v c j i : Nat} (hv : v ≤ 24) (hk : c ≤ 24) (hi : i ≤ 24) (hj : j ≤ 24) : callF T wf (k + 3) 10 [.int v, .int c, .int j, .int i] st = .ok (.int (jv v c j i)) st := by
  rw [call_def (f := Pk34.f10) rfl rfl]
  have hc := comp_rng (cf := ⟨callF T wf (k + 2), wf, T.length⟩) (elt := .prim .mul [.prim .mul [.prim .mul [.call 5 [.prim .neg [.cst (.int 1)], .var 4], .call 6 [.var 3, .var 4]], .call 6 [.prim .sub [.var 1, .var 3], .prim .sub [.var 2, .var 4]]], .call 6 [.prim .sub [.prim .sub [.var 0, .var 1], .var 3], .prim .sub [.var 2, .var 4]]])
    (tg := .nm 4) (cs := []) (own := [4]) (ρ := [some (.int v), some (.int c), some (.int j), some (.int i), none]) (fun t => .int (jvT v c j i t)) (st := st) (k := j + 1)
    (fun t acc ht ha => by
      obtain ⟨s1, s2, s3, s4⟩ := sm_jvT (v := v) (k := c) (j := j) (i := i) (t := t) hv hk hi (by omega)
      have e1 : (j : Int) - t = ((j - t : Nat) : Int) := by omega
      have p1 := pow_ok (T := T) (g := 5) (wf := wf) (k := k + 1) (st := st) rfl (a := -1) (e := t) (n := 1) sm_one (by omega) (by omega)
      have c1 := chosen_ok (wf := wf) (k := k) (st := st) (n := i) (c := t) (by omega)
      have c2 := chosen_ok (wf := wf) (k := k) (st := st) (n := (c : Int) - i) (c := ((j - t : Nat) : Int)) (by omega)
      have c3 := chosen_ok (wf := wf) (k := k) (st := st) (n := (v : Int) - c - i) (c := ((j - t : Nat) : Int)) (by omega)
      have f1 := fits_sm s1 s2 (by decide)
      have f2 := fits_sm (sm_mul s1 s2) s3 (by decide)
      have f3 := fits_sm (sm_mul (sm_mul s1 s2) s3) s4 (by decide)
      have hs : acc.length < sizeLine := small_acc ha (by omega)
      simp [turnB, wipe, hs, e1, p1, c1, c2, c3, f1, f2, f3, jvT])
  have hsum := sp_sum (st := st) ((List.range (j + 1)).map (jvT v c j i))
  rw [List.map_map] at hsum
  have hsum' : semP .sum [.tl ((List.range (j + 1)).map fun t => .int (jvT v c j i t))] st = some (.int (jv v c j i), st) := hsum
  simp [Pk34.f10, rngN1 (n := j) (by omega), hc, hsum', fin_ret]
theorem range_map_succ {α : Type} (f : Nat → α) (n : Nat) : (List.range (n + 1)).map f = (List.range n).map f ++ [f n] := by
  rw [List.range_succ, List.map_append]
  rfl
/-- the store while the table is made: the rows so far, a list for each -/
def joS (st : Sto) (v c i : Nat) : Sto := st ++ .lst ((List.range i).map fun i => .tup (jrow v c i)) :: (List.range i).map fun i => .lst (jrow v c i)
theorem joS_found {v c i : Nat} {B : Sto} : (joS st v c i ++ B)[st.length]? = some (.lst ((List.range i).map fun i => .tup (jrow v c i))) := by
  unfold joS
  rw [List.append_assoc]
  exact app_get
theorem joS_next {v c i : Nat} : (joS st v c i ++ [Ob.lst (jrow v c i)]).set st.length (Ob.lst ((List.range i).map (fun i => D.tup (jrow v c i)) ++ [D.tup (jrow v c i)])) = joS st v c (i + 1) := by
  unfold joS
  rw [List.append_assoc, List.cons_append, app_set, range_map_succ, range_map_succ]
theorem pd_jrow {v c i : Nat} : pds 2 (jrow v c i) = true := by
  unfold jrow
  generalize List.range (c + 1) = l
  induction l with
  | nil => rfl
  | cons a l ih =>
    rw [List.map_cons, pds, ih]
    rfl
theorem pd_jo {v c n : Nat} : pds 3 ((List.range n).map fun i => D.tup (jrow v c i)) = true := by
  generalize List.range n = l
  induction l with
  | nil => rfl
  | cons a l ih =>
    rw [List.map_cons, pds, ih, pd, pd_jrow]
    rfl
theorem jo_ok {v c : Nat} (hw : Wf st) (hwf : 2 ^ 400 ≤ wf) (h2 : 2 ≤ v) (hv : v ≤ 24) (h1 : 1 ≤ c) (hc : 2 * c ≤ v) : callF T wf (k + 4) 11 [.int v, .int c] st = .ok (joD v c) st := by
  rw [call_def (f := Pk34.f11) rfl rfl]
  have hin : ∀ (i : Nat) (S : Sto) (w : Option D × Option D), i ≤ c → ∃ w' : Option D × Option D, forB ⟨callF T wf (k + 3), wf, T.length⟩ (.nm 5) [.asg (.nm 6) (.prim .sub [.call 6 [.var 0, .var 5], .call 6 [.var 0, .prim .sub [.var 5, .cst (.int 1)]]]), .ex (.meth .append (.var 4) [.call 4 [.tupE [.prim .mul [.var 6, .call 10 [.var 0, .var 1, .var 3, .var 5]], .cst (.int 1)], .tupE [.prim .mul [.call 6 [.var 1, .var 3], .call 6 [.prim .sub [.var 0, .var 1], .var 3]], .cst (.int 1)]]])] (.rng 0 1) (c + 1) 0
      [some (.int v), some (.int c), some (.lr st.length), some (.int i), some (.lr S.length), w.1, w.2] (S ++ [.lst []]) = .ok (.nx, [some (.int v), some (.int c), some (.lr st.length), some (.int i), some (.lr S.length), w'.1, w'.2]) (S ++ [.lst (jrow v c i)]) := fun i S w hi =>
    for_rngS (fun j w => [some (.int v), some (.int c), some (.lr st.length), some (.int i), some (.lr S.length), w.1, w.2]) (fun j => S ++ [.lst ((List.range j).map fun j => frD (jq v c i j))]) w rfl rfl
      (fun j w hj => ⟨(some (.int j), some (.int (many v j))), by
        have g0 : (S ++ [Ob.lst ((List.range j).map fun j => frD (jq v c i j))])[S.length]? = some (.lst ((List.range j).map fun j => frD (jq v c i j))) := app_get
        have c1 := fun s => chosen_ok (wf := wf) (k := k + 1) (st := s) (n := v) (c := j) (by omega)
        have c2 := fun s => chosen_ok (wf := wf) (k := k + 1) (st := s) (n := v) (c := (j : Int) - 1) (by omega)
        have c3 := fun s => chosen_ok (wf := wf) (k := k + 1) (st := s) (n := c) (c := i) (by omega)
        have c4 := fun s => chosen_ok (wf := wf) (k := k + 1) (st := s) (n := (v : Int) - c) (c := i) (by omega)
        have c5 := fun s => jv_ok (wf := wf) (k := k) (st := s) (v := v) (c := c) (j := i) (i := j) hv (by omega) (by omega) (by omega)
        have f1 : fits (ch v j - ch v ((j : Int) - 1)) (jv v c i j) := fits_sm (sm_many hv) (sm_jv hv (by omega) (by omega) (by omega)) (by decide)
        have f2 : fits (ch c i) (ch ((v : Int) - c) i) := fits_sm (sm_ch (by omega)) (sm_ch (by omega)) (by decide)
        have c6 := fun s => over_frac (wf := wf) (k := k) (st := s) (x := (ch v j - ch v ((j : Int) - 1)) * jv v c i j) (y := ch c i * ch ((v : Int) - c) i) (Int.ne_of_gt (ki_pos hv hc hi)) (sm_ki hv (by omega)) (sm_mono (sm_mul (sm_many hv) (sm_jv hv (by omega) (by omega) (by omega))) (by decide)) hwf
        have hl : ((List.range j).map fun j => frD (jq v c i j)).length < sizeLine := row_acc (by simp; omega)
        have hap := sp_app (d := frD (jq v c i j)) g0 hl rfl
        simp only [frD, jq, many, ki] at hap c6
        rw [range_map_succ]
        simp [c1, c2, c3, c4, c5, f1, f2, c6, hap, many, jq, ki]⟩)
  obtain ⟨⟨w1, w2, w3, w4⟩, hout⟩ := for_rngS (cf := ⟨callF T wf (k + 3), wf, T.length⟩) (t := .nm 3) (b := [.asg (.nm 4) (.lstE []), .for (.nm 5) (.rng [.prim .add [.var 1, .cst (.int 1)]]) [.asg (.nm 6) (.prim .sub [.call 6 [.var 0, .var 5], .call 6 [.var 0, .prim .sub [.var 5, .cst (.int 1)]]]), .ex (.meth .append (.var 4) [.call 4 [.tupE [.prim .mul [.var 6, .call 10 [.var 0, .var 1, .var 3, .var 5]], .cst (.int 1)], .tupE [.prim .mul [.call 6 [.var 1, .var 3], .call 6 [.prim .sub [.var 0, .var 1], .var 3]], .cst (.int 1)]]])], .ex (.meth .append (.var 2) [.prim .tuple [.var 4]])])
    (J := Option D × Option D × Option D × Option D) (fun i w => [some (.int v), some (.int c), some (.lr st.length), w.1, w.2.1, w.2.2.1, w.2.2.2]) (fun i => joS st v c i) (k := c + 1) (ρ := [some (.int v), some (.int c), some (.lr st.length), none, none, none, none]) (st := st ++ [.lst []]) (none, none, none, none) rfl rfl
    (fun i w hi => by
      obtain ⟨⟨x1, x2⟩, hx⟩ := hin i (joS st v c i) (w.2.2.1, w.2.2.2) (by omega)
      refine ⟨(some (.int i), some (.lr (joS st v c i).length), x1, x2), ?_⟩
      have hfo := joS_found (st := st) (v := v) (c := c) (i := i) (B := [.lst (jrow v c i)])
      have hro : (joS st v c i ++ [.lst (jrow v c i)])[(joS st v c i).length]? = some (.lst (jrow v c i)) := app_get
      have htu := sp_tupR hro
      have hl : ((List.range i).map fun i => D.tup (jrow v c i)).length < sizeLine := row_acc (by simp; omega)
      have hap := sp_app (d := .tup (jrow v c i)) hfo hl rfl
      rw [joS_next] at hap
      simp at hx
      simp [rngN1 (n := c) (by omega), hx, htu, hap])
  have a1 : (2 : Int) ≤ v := by omega
  have a2 : (v : Int) ≤ 24 := by omega
  have a3 : (1 : Int) ≤ 2 * (c : Int) := by omega
  have a4 : 2 * (c : Int) ≤ v := by omega
  have f0 : fits 2 (c : Int) := fits_sm (sm_lit (n := 2) (by decide)) (sm_lit (n := 5) (by omega)) (by decide)
  have hfo := joS_found (st := st) (v := v) (c := c) (i := c + 1) (B := [])
  rw [List.append_nil] at hfo
  have htu := sp_tupR hfo
  have hfin := fun ρ => fin_retA (st := st) (ext := .lst ((List.range (c + 1)).map fun i => .tup (jrow v c i)) :: (List.range (c + 1)).map fun i => .lst (jrow v c i)) (ρ := ρ) (d := joD v c) hw (below_pd _ 4 _ (by unfold joD; rw [pd]; exact pd_jo))
  have hfin' : ∀ ρ, fin st.length (.ok (.ret (joD v c), ρ) (joS st v c (c + 1))) = .ok (joD v c) st := hfin
  have htu' : semP .tuple [.lr st.length] (joS st v c (c + 1)) = some (joD v c, joS st v c (c + 1)) := htu
  simp at hout
  simp [Pk34.f11, whole_i (T := T) (g := 0) rfl, a1, a2, a3, a4, f0, rngN1 (n := c) (by omega), hout, htu', hfin']
end Qk34
namespace Qk34
open Mn PySem Lb
variable {wf k g : Nat} {st : Sto}
def b28t : List S := [.asg (.nm 9) (.ite (.prim .eq [.prim .mod [.prim .toInt [.var 7], .cst (.int 2)], .cst (.int 1)]) (.prim .neg [.cst (.int 1)]) (.cst (.int 1))), .asg (.nm 6) (.prim .add [.var 6, .prim .mul [.prim .mul [.prim .mul [.var 9, .call 24 [.var 5, .var 7]], .call 24 [.prim .sub [.var 1, .var 5], .prim .sub [.var 3, .var 7]]], .call 24 [.prim .sub [.prim .sub [.var 0, .var 1], .var 5], .prim .sub [.var 3, .var 7]]]])]
def b28j : List S := [.asg (.nm 6) (.cst (.int 0)), .for (.nm 7) (.rng [.prim .add [.var 3, .cst (.int 1)]]) b28t, .asg (.nm 8) (.prim .sub [.call 24 [.var 0, .var 5], .call 24 [.var 0, .prim .sub [.var 5, .cst (.int 1)]]]), .ex (.meth .append (.var 4) [.call 18 [.prim .mul [.var 8, .var 6], .prim .mul [.call 24 [.var 1, .var 3], .call 24 [.prim .sub [.var 0, .var 1], .var 3]]]])]
def b28i : List S := [.asg (.nm 4) (.lstE []), .for (.nm 5) (.rng [.prim .add [.var 1, .cst (.int 1)]]) b28j, .ex (.meth .append (.var 2) [.prim .tuple [.var 4]])]
theorem f28_eq : Pk34.f28 = ⟨2, 10, [.asg (.nm 2) (.lstE []), .for (.nm 3) (.rng [.prim .add [.var 1, .cst (.int 1)]]) b28i, .ret (.prim .tuple [.var 2])]⟩ := rfl
theorem ljo_ok {v c : Nat} (hw : Wf st) (hwf : 2 ^ 400 ≤ wf) (hv : v ≤ 24) (hc : 2 * c ≤ v) : callF T wf (k + 2) 28 [.int v, .int c] st = .ok (joD v c) st := by
  rw [call_def (f := Pk34.f28) rfl rfl]
  have hin : ∀ (i : Nat) (S : Sto) (w : Option D × Option D × Option D × Option D × Option D), i ≤ c → ∃ w' : Option D × Option D × Option D × Option D × Option D, forB ⟨callF T wf (k + 1), wf, T.length⟩ (.nm 5) b28j (.rng 0 1) (c + 1) 0
      [some (.int v), some (.int c), some (.lr st.length), some (.int i), some (.lr S.length), w.1, w.2.1, w.2.2.1, w.2.2.2.1, w.2.2.2.2] (S ++ [.lst []]) = .ok (.nx, [some (.int v), some (.int c), some (.lr st.length), some (.int i), some (.lr S.length), w'.1, w'.2.1, w'.2.2.1, w'.2.2.2.1, w'.2.2.2.2]) (S ++ [.lst (jrow v c i)]) := by
    intro i S w hi
    obtain ⟨w', hh⟩ := for_rngS (cf := ⟨callF T wf (k + 1), wf, T.length⟩) (t := .nm 5) (b := b28j) (k := c + 1) (J := Option D × Option D × Option D × Option D × Option D) (fun j w => [some (.int v), some (.int c), some (.lr st.length), some (.int i), some (.lr S.length), w.1, w.2.1, w.2.2.1, w.2.2.2.1, w.2.2.2.2]) (fun j => S ++ [.lst ((List.range j).map fun j => frD (jq v c i j))]) w rfl rfl
      (fun j w hj => by
        obtain ⟨⟨x1, x2⟩, hx⟩ := for_rng (cf := ⟨callF T wf (k + 1), wf, T.length⟩) (t := .nm 7) (b := b28t)
          (J := Option D × Option D) (fun t x => [some (.int v), some (.int c), some (.lr st.length), some (.int i), some (.lr S.length), some (.int j), some (.int ((List.range t).map (jvT v c i j)).sum), x.1, w.2.2.2.1, x.2]) (st := S ++ [.lst ((List.range j).map fun j => frD (jq v c i j))]) (k := i + 1) (w.2.2.1, w.2.2.2.2) rfl
          (fun t x ht => ⟨(some (.int t), some (.int ((-1) ^ t))), by
            obtain ⟨s1, s2, s3, s4⟩ := sm_jvT (v := v) (k := c) (j := i) (i := j) (t := t) hv (by omega) (by omega) (by omega)
            have e1 : (i : Int) - t = ((i - t : Nat) : Int) := by omega
            have c1 := fun s => over_ok (wf := wf) (k := k) (st := s) (n := j) (c := t) (by omega)
            have c2 := fun s => over_ok (wf := wf) (k := k) (st := s) (n := (c : Int) - j) (c := ((i - t : Nat) : Int)) (by omega)
            have c3 := fun s => over_ok (wf := wf) (k := k) (st := s) (n := (v : Int) - c - j) (c := ((i - t : Nat) : Int)) (by omega)
            obtain ⟨sg, hsg⟩ : ∃ sg : Int, sg = (-1) ^ t := ⟨_, rfl⟩
            rw [← hsg] at s1 ⊢
            have hit := sgn_ite (st := S ++ [.lst ((List.range j).map fun j => frD (jq v c i j))]) t
            rw [← hsg] at hit
            have f1 := fits_sm s1 s2 (by decide)
            have f2 := fits_sm (sm_mul s1 s2) s3 (by decide)
            have f3 := fits_sm (sm_mul (sm_mul s1 s2) s3) s4 (by decide)
            rw [sum_succ]
            simp [b28t, hit, e1, c1, c2, c3, f1, f2, f3, jvT, ← hsg]⟩)
        refine ⟨(some (.int j), some (.int (jv v c i j)), x1, some (.int (many v j)), x2), ?_⟩
        have g0 : (S ++ [Ob.lst ((List.range j).map fun j => frD (jq v c i j))])[S.length]? = some (.lst ((List.range j).map fun j => frD (jq v c i j))) := app_get
        have c1 := fun s => over_ok (wf := wf) (k := k) (st := s) (n := v) (c := j) (by omega)
        have c2 := fun s => over_ok (wf := wf) (k := k) (st := s) (n := v) (c := (j : Int) - 1) (by omega)
        have c3 := fun s => over_ok (wf := wf) (k := k) (st := s) (n := c) (c := i) (by omega)
        have c4 := fun s => over_ok (wf := wf) (k := k) (st := s) (n := (v : Int) - c) (c := i) (by omega)
        have f1 : fits (ch v j - ch v ((j : Int) - 1)) (jv v c i j) := fits_sm (sm_many hv) (sm_jv hv (by omega) (by omega) (by omega)) (by decide)
        have f2 : fits (ch c i) (ch ((v : Int) - c) i) := fits_sm (sm_ch (by omega)) (sm_ch (by omega)) (by decide)
        have c6 := fun s => frac_ok (wf := wf) (k := k) (st := s) (n := (ch v j - ch v ((j : Int) - 1)) * jv v c i j) (d := ch c i * ch ((v : Int) - c) i) (Int.ne_of_gt (ki_pos hv hc hi)) (sm_ki hv (by omega)) hwf
        have hl : ((List.range j).map fun j => frD (jq v c i j)).length < sizeLine := row_acc (by simp; omega)
        have hap := sp_app (d := frD (jq v c i j)) g0 hl rfl
        have hjv : ((List.range (i + 1)).map (jvT v c i j)).sum = jv v c i j := rfl
        simp only [hjv] at hx
        simp only [frD, jq, many, ki] at hap c6
        rw [range_map_succ]
        simp [jq, many, ki] at hx
        simp [b28j, rngN1 (n := i) (by omega), jq, many, ki, hx, c1, c2, c3, c4, f1, f2, c6, hap])
    exact ⟨w', hh⟩
  obtain ⟨⟨w1, w2, w3, w4, w5, w6, w7⟩, hout⟩ := for_rngS (cf := ⟨callF T wf (k + 1), wf, T.length⟩) (t := .nm 3) (b := b28i)
    (J := Option D × Option D × Option D × Option D × Option D × Option D × Option D) (fun i w => [some (.int v), some (.int c), some (.lr st.length), w.1, w.2.1, w.2.2.1, w.2.2.2.1, w.2.2.2.2.1, w.2.2.2.2.2.1, w.2.2.2.2.2.2]) (fun i => joS st v c i) (k := c + 1) (ρ := [some (.int v), some (.int c), some (.lr st.length), none, none, none, none, none, none, none]) (st := st ++ [.lst []]) (none, none, none, none, none, none, none) rfl rfl
    (fun i w hi => by
      obtain ⟨⟨x1, x2, x3, x4, x5⟩, hx⟩ := hin i (joS st v c i) (w.2.2.1, w.2.2.2.1, w.2.2.2.2.1, w.2.2.2.2.2.1, w.2.2.2.2.2.2) (by omega)
      refine ⟨(some (.int i), some (.lr (joS st v c i).length), x1, x2, x3, x4, x5), ?_⟩
      have hfo := joS_found (st := st) (v := v) (c := c) (i := i) (B := [.lst (jrow v c i)])
      have hro : (joS st v c i ++ [.lst (jrow v c i)])[(joS st v c i).length]? = some (.lst (jrow v c i)) := app_get
      have htu := sp_tupR hro
      have hl : ((List.range i).map fun i => D.tup (jrow v c i)).length < sizeLine := row_acc (by simp; omega)
      have hap := sp_app (d := .tup (jrow v c i)) hfo hl rfl
      rw [joS_next] at hap
      simp at hx
      simp [b28i, rngN1 (n := c) (by omega), hx, htu, hap])
  have hfo := joS_found (st := st) (v := v) (c := c) (i := c + 1) (B := [])
  rw [List.append_nil] at hfo
  have htu := sp_tupR hfo
  have hfin := fun ρ => fin_retA (st := st) (ext := .lst ((List.range (c + 1)).map fun i => .tup (jrow v c i)) :: (List.range (c + 1)).map fun i => .lst (jrow v c i)) (ρ := ρ) (d := joD v c) hw (below_pd _ 4 _ (by unfold joD; rw [pd]; exact pd_jo))
  have hfin' : ∀ ρ, fin st.length (.ok (.ret (joD v c), ρ) (joS st v c (c + 1))) = .ok (joD v c) st := hfin
  have htu' : semP .tuple [.lr st.length] (joS st v c (c + 1)) = some (joD v c, joS st v c (c + 1)) := htu
  simp at hout
  simp [f28_eq, rngN1 (n := c) (by omega), hout, htu', hfin']
end Qk34
namespace Qk34
open Mn PySem Lb
variable {wf k g : Nat} {st : Sto}
theorem get_map {f : Nat → D} {n i : Nat} (h : i ≤ n) : ((List.range (n + 1)).map f)[i]? = some (f i) := by
  rw [List.getElem?_map, List.getElem?_range (by omega)]
  rfl
theorem sm_kr {n q j i : Nat} (hn : n ≤ 24) (hq : q ≤ 4) (hi : i ≤ 24) (hj : j ≤ 24) : sm 500 (kr n q j i) :=
  sm_mono (sm_sum (m := 396) (f := krT n q j i) (fun t ht => by
    obtain ⟨s1, s2, s3, s4⟩ := sm_krT (n := n) (q := q) (j := j) (i := i) (t := t) hn hq hi hj ht
    exact sm_mul (sm_mul (sm_mul s1 s2) s3) s4) (j + 1) (by omega)) (by omega)
/-! ### the square of the table -/
def sqSum (n q i j : Nat) : Int := ((List.range (n + 1)).map fun k => kr n q k i * kr n q j k).sum
def sqOk (n q : Nat) : Bool := (List.range (n + 1)).all fun i => (List.range (n + 1)).all fun j => decide (sqSum n q i j = (q : Int) ^ n * (if i = j then 1 else 0))
theorem sq_all : ∀ n : Fin 13, ∀ q : Fin 3, sqOk n.val (q.val + 2) = true := by decide +kernel
theorem sq_at {n q i j : Nat} (hn : n ≤ 12) (h1 : 2 ≤ q) (hq : q ≤ 4) (hi : i ≤ n) (hj : j ≤ n) : sqSum n q i j = (q : Int) ^ n * (if i = j then 1 else 0) := by
  have h := sq_all ⟨n, by omega⟩ ⟨q - 2, by omega⟩
  have e : q - 2 + 2 = q := by omega
  dsimp only at h
  rw [e] at h
  unfold sqOk at h
  rw [List.all_eq_true] at h
  have h2 := h i (List.mem_range.mpr (by omega))
  rw [List.all_eq_true] at h2
  exact of_decide_eq_true (h2 j (List.mem_range.mpr (by omega)))
def e29 : E := .comp (.prim .mul [.prim .ix [.prim .ix [.prim .ix [.var 2, .var 3], .var 5], .cst (.int 0)], .prim .ix [.prim .ix [.prim .ix [.var 2, .var 5], .var 4], .cst (.int 0)]]) (.nm 5) (.rng [.prim .add [.var 0, .cst (.int 1)]]) [] [5]
def b29j : List S := [.ifS (.prim .ne [.prim .sum [e29], .prim .mul [.call 25 [.var 1, .var 0], .prim .toInt [.prim .eq [.var 3, .var 4]]]]) [.ret (.cst (.bl false))] []]
def b29i : List S := [.for (.nm 4) (.rng [.prim .add [.var 0, .cst (.int 1)]]) b29j]
theorem f29_eq : Pk34.f29 = ⟨2, 6, [.asg (.nm 2) (.call 27 [.var 0, .var 1]), .for (.nm 3) (.rng [.prim .add [.var 0, .cst (.int 1)]]) b29i, .ret (.cst (.bl true))]⟩ := rfl
theorem nc (i j : Nat) : ((i : Int) = (j : Int)) = (i = j) := propext ⟨fun h => by omega, fun h => by omega⟩
theorem square_ok {n q : Nat} (hn : n ≤ 12) (h1 : 2 ≤ q) (hq : q ≤ 4) : callF T wf (k + 4) 29 [.int n, .int q] st = .ok (.bl true) st := by
  rw [call_def (f := Pk34.f29) rfl rfl]
  have h27 := lham_ok (wf := wf) (k := k) (st := st) (n := n) (q := q) (by omega) (by omega) hq
  have ht : notl (hmD n q) = true := rfl
  obtain ⟨⟨w1, w2⟩, hi⟩ := for_rng (cf := ⟨callF T wf (k + 3), wf, T.length⟩) (t := .nm 3) (b := b29i) (J := Option D × Option D) (fun i w => [some (.int n), some (.int q), some (hmD n q), w.1, w.2, none]) (st := st) (k := n + 1) (none, none) rfl
    (fun i w hi => by
      obtain ⟨w', hj⟩ := for_rng (cf := ⟨callF T wf (k + 3), wf, T.length⟩) (t := .nm 4) (b := b29j) (J := Option D) (fun j w => [some (.int n), some (.int q), some (hmD n q), some (.int i), w, none]) (st := st) (k := n + 1) w.2 rfl
        (fun j w hj => ⟨some (.int j), by
          have hc := comp_rng (cf := ⟨callF T wf (k + 3), wf, T.length⟩) (elt := .prim .mul [.prim .ix [.prim .ix [.prim .ix [.var 2, .var 3], .var 5], .cst (.int 0)], .prim .ix [.prim .ix [.prim .ix [.var 2, .var 5], .var 4], .cst (.int 0)]]) (tg := .nm 5) (cs := []) (own := [5]) (ρ := [some (.int n), some (.int q), some (hmD n q), some (.int i), some (.int j), none]) (fun l => .int (kr n q l i * kr n q j l)) (st := st) (k := n + 1)
            (fun l acc hl ha => by
              have hs : acc.length < sizeLine := small_acc ha (by omega)
              have g1 : semP .ix [hmD n q, .int (i : Int)] st = some (rowD n q i, st) := sp_ixT (get_map (by omega))
              have g2 : semP .ix [hmD n q, .int (l : Int)] st = some (rowD n q l, st) := sp_ixT (get_map (by omega))
              have g3 : semP .ix [rowD n q i, .int (l : Int)] st = some (kd n q l i, st) := sp_ixT (get_map (by omega))
              have g4 : semP .ix [rowD n q l, .int (j : Int)] st = some (kd n q j l, st) := sp_ixT (get_map (by omega))
              have g5 : semP .ix [kd n q l i, .int 0] st = some (.int (kr n q l i), st) := sp_ix0 _ _
              have g6 : semP .ix [kd n q j l, .int 0] st = some (.int (kr n q j l), st) := sp_ix0 _ _
              have f1 := fits_sm (sm_kr (n := n) (q := q) (j := l) (i := i) (by omega) hq (by omega) (by omega)) (sm_kr (n := n) (q := q) (j := j) (i := l) (by omega) hq (by omega) (by omega)) (by decide)
              simp [turnB, wipe, hs, g1, g2, g3, g4, g5, g6, f1])
          have hsum := sp_sum (st := st) ((List.range (n + 1)).map fun l => kr n q l i * kr n q j l)
          rw [List.map_map] at hsum
          have hsum' : semP .sum [.tl ((List.range (n + 1)).map fun l => .int (kr n q l i * kr n q j l))] st = some (.int (sqSum n q i j), st) := hsum
          rw [sq_at hn h1 hq (by omega) (by omega)] at hsum'
          have hp := pow_ok (T := T) (g := 25) (wf := wf) (k := k + 2) (st := st) rfl (a := q) (e := n) (n := 3) (sm_lit (by omega)) (by omega) (by omega)
          have f2 : fits ((q : Int) ^ n) (if i = j then 1 else 0) := fits_sm (n := 100) (m := 1) (sm_mono (sm_pow (n := 3) (sm_lit (by omega)) n) (by omega)) (sm_lit (by split <;> decide)) (by decide)
          simp [b29j, e29, rngN1 (n := n) (by omega), hc, hsum', hp, f2, nc]⟩)
      refine ⟨(some (.int i), w'), ?_⟩
      simp [b29i, rngN1 (n := n) (by omega)] at hj ⊢
      simp [hj])
  simp at hi
  simp [f29_eq, h27, mat_notl ht, rngN1 (n := n) (by omega), hi, fin_ret]
end Qk34
namespace Qk34
open Mn PySem Lb
/-! ### the rows of Johnson's table are orthogonal -/
def stepO (v c j t i : Nat) (total : Int × Int) : Option (Int × Int) := match timesO (jq v c i j) (jq v c i t) with
  | some y => (match timesO (ki v c i, 1) y with
    | some z => plusO total z
    | none => none)
  | none => none
def sumO (v c j t : Nat) : Nat → Option (Int × Int)
  | 0 => some (0, 1)
  | i + 1 => match sumO v c j t i with
    | some x => stepO v c j t i x
    | none => none
def joDue (v c j t : Nat) : Int × Int := (ch v c * (jq v c 0 j).1 * (if j = t then 1 else 0), 1)
def joOk (v c : Nat) : Bool := (List.range (c + 1)).all fun j => (List.range (j + 1)).all fun t => decide (sumO v c j t (c + 1) = some (joDue v c j t))
theorem jo_0 : ∀ c : Fin 13, 1 ≤ c.val → 2 * c.val ≤ 0 → joOk 0 c.val = true := by decide +kernel
theorem jo_1 : ∀ c : Fin 13, 1 ≤ c.val → 2 * c.val ≤ 1 → joOk 1 c.val = true := by decide +kernel
theorem jo_2 : ∀ c : Fin 13, 1 ≤ c.val → 2 * c.val ≤ 2 → joOk 2 c.val = true := by decide +kernel
theorem jo_3 : ∀ c : Fin 13, 1 ≤ c.val → 2 * c.val ≤ 3 → joOk 3 c.val = true := by decide +kernel
theorem jo_4 : ∀ c : Fin 13, 1 ≤ c.val → 2 * c.val ≤ 4 → joOk 4 c.val = true := by decide +kernel
theorem jo_5 : ∀ c : Fin 13, 1 ≤ c.val → 2 * c.val ≤ 5 → joOk 5 c.val = true := by decide +kernel
theorem jo_6 : ∀ c : Fin 13, 1 ≤ c.val → 2 * c.val ≤ 6 → joOk 6 c.val = true := by decide +kernel
theorem jo_7 : ∀ c : Fin 13, 1 ≤ c.val → 2 * c.val ≤ 7 → joOk 7 c.val = true := by decide +kernel
theorem jo_8 : ∀ c : Fin 13, 1 ≤ c.val → 2 * c.val ≤ 8 → joOk 8 c.val = true := by decide +kernel
theorem jo_9 : ∀ c : Fin 13, 1 ≤ c.val → 2 * c.val ≤ 9 → joOk 9 c.val = true := by decide +kernel
theorem jo_10 : ∀ c : Fin 13, 1 ≤ c.val → 2 * c.val ≤ 10 → joOk 10 c.val = true := by decide +kernel
theorem jo_11 : ∀ c : Fin 13, 1 ≤ c.val → 2 * c.val ≤ 11 → joOk 11 c.val = true := by decide +kernel
theorem jo_12 : ∀ c : Fin 13, 1 ≤ c.val → 2 * c.val ≤ 12 → joOk 12 c.val = true := by decide +kernel
theorem jo_13 : ∀ c : Fin 13, 1 ≤ c.val → 2 * c.val ≤ 13 → joOk 13 c.val = true := by decide +kernel
theorem jo_14 : ∀ c : Fin 13, 1 ≤ c.val → 2 * c.val ≤ 14 → joOk 14 c.val = true := by decide +kernel
theorem jo_15 : ∀ c : Fin 13, 1 ≤ c.val → 2 * c.val ≤ 15 → joOk 15 c.val = true := by decide +kernel
theorem jo_16 : ∀ c : Fin 13, 1 ≤ c.val → 2 * c.val ≤ 16 → joOk 16 c.val = true := by decide +kernel
theorem jo_17 : ∀ c : Fin 13, 1 ≤ c.val → 2 * c.val ≤ 17 → joOk 17 c.val = true := by decide +kernel
theorem jo_18 : ∀ c : Fin 13, 1 ≤ c.val → 2 * c.val ≤ 18 → joOk 18 c.val = true := by decide +kernel
theorem jo_19 : ∀ c : Fin 13, 1 ≤ c.val → 2 * c.val ≤ 19 → joOk 19 c.val = true := by decide +kernel
theorem jo_20 : ∀ c : Fin 13, 1 ≤ c.val → 2 * c.val ≤ 20 → joOk 20 c.val = true := by decide +kernel
theorem jo_21 : ∀ c : Fin 13, 1 ≤ c.val → 2 * c.val ≤ 21 → joOk 21 c.val = true := by decide +kernel
theorem jo_22 : ∀ c : Fin 13, 1 ≤ c.val → 2 * c.val ≤ 22 → joOk 22 c.val = true := by decide +kernel
theorem jo_23 : ∀ c : Fin 13, 1 ≤ c.val → 2 * c.val ≤ 23 → joOk 23 c.val = true := by decide +kernel
theorem jo_24 : ∀ c : Fin 13, 1 ≤ c.val → 2 * c.val ≤ 24 → joOk 24 c.val = true := by decide +kernel
theorem jo_all (v : Fin 25) : ∀ c : Fin 13, 1 ≤ c.val → 2 * c.val ≤ v.val → joOk v.val c.val = true := by
  obtain ⟨v, hv⟩ := v
  have h : v = 0 ∨ v = 1 ∨ v = 2 ∨ v = 3 ∨ v = 4 ∨ v = 5 ∨ v = 6 ∨ v = 7 ∨ v = 8 ∨ v = 9 ∨ v = 10 ∨ v = 11 ∨ v = 12 ∨ v = 13 ∨ v = 14 ∨ v = 15 ∨ v = 16 ∨ v = 17 ∨ v = 18 ∨ v = 19 ∨ v = 20 ∨ v = 21 ∨ v = 22 ∨ v = 23 ∨ v = 24 := by omega
  rcases h with rfl | rfl | rfl | rfl | rfl | rfl | rfl | rfl | rfl | rfl | rfl | rfl | rfl | rfl | rfl | rfl | rfl | rfl | rfl | rfl | rfl | rfl | rfl | rfl | rfl
  · exact jo_0
  · exact jo_1
  · exact jo_2
  · exact jo_3
  · exact jo_4
  · exact jo_5
  · exact jo_6
  · exact jo_7
  · exact jo_8
  · exact jo_9
  · exact jo_10
  · exact jo_11
  · exact jo_12
  · exact jo_13
  · exact jo_14
  · exact jo_15
  · exact jo_16
  · exact jo_17
  · exact jo_18
  · exact jo_19
  · exact jo_20
  · exact jo_21
  · exact jo_22
  · exact jo_23
  · exact jo_24
end Qk34
namespace Qk34
open Mn PySem Lb
variable {wf k g : Nat} {st : Sto}
/-! ### told rightly -/
theorem hT21 : T[21]? = some (fCall 15) := rfl
theorem hT17 : T[17]? = some (fSame 17 16) := rfl
theorem tells2 {f : Nat} {a b d : D} (hf : f < 32) (ha : notl a = true) (hb : notl b = true) (hr : callF T wf (k + 8) f [a, b] st = .ok d st) (hp : pd 4 d = true) (ho : okd d = true) (hz : szs 4 d = true) :
    callF T wf (k + 10) 22 [.fn f, .tup [a, b], d] st = .ok (.bl true) st := by
  have hd := notl_pd hp
  have hh := honest_ok (T := T) (g := 15) (o := 14) (wf := wf) (k := k + 7) (st := st) (n := 4) rfl rfl hp (by decide) ho (by omega)
  have hc := told2 (T := T) (g := 21) (h := 15) (wf := wf) (k := k + 8) (st := st) hT21 (f := f) hf ha hb hr hd hh
  refine tells_ok (T := T) (g := 22) (s := 17) (c := 21) (wf := wf) (k := k + 9) (st := st) rfl hc ?_ hd
  refine same_ok (T := T) (g := 17) (w := 16) (wf := wf) (st := st) hT17 rfl 5 (k + 9) _ ?_ (by decide) ?_ (by omega)
  · simp only [pd, pds, hp]
    decide
  · simp only [szs, List.all_cons, hz, List.all_nil]
    rfl
theorem pds_map {n : Nat} {f : Nat → D} (h : ∀ i, pd n (f i) = true) : ∀ l : List Nat, pds n (l.map f) = true
  | [] => by simp [pds]
  | a :: l => by
    rw [List.map_cons, pds, h a, pds_map h l]
    rfl
theorem okds_map {f : Nat → D} (h : ∀ i, okd (f i) = true) : ∀ l : List Nat, okds (l.map f) = true
  | [] => by simp [okds]
  | a :: l => by
    rw [List.map_cons, okds, h a, okds_map h l]
    rfl
theorem szs_map {n m : Nat} {f : Nat → D} (h : ∀ i, szs n (f i) = true) (hm : m ≤ 1000000) : szs (n + 1) (.tup ((List.range m).map f)) = true := by
  rw [szs, List.length_map, List.length_range, Nat.ble_eq_true_of_le hm, Bool.true_and, List.all_eq_true]
  intro x hx
  obtain ⟨i, _, rfl⟩ := List.mem_map.mp hx
  exact h i
theorem pd_frD (x : Int × Int) : pd 2 (frD x) = true := by simp [pd, pds]
theorem pd_hm {n q : Nat} : pd 4 (hmD n q) = true := by
  unfold hmD rowD
  rw [pd]
  refine pds_map (fun i => ?_) _
  rw [pd]
  exact pds_map (fun j => by simp [kd, pd, pds]) _
theorem ok_hm {n q : Nat} : okd (hmD n q) = true := by
  unfold hmD rowD
  rw [okd]
  refine okds_map (fun i => ?_) _
  rw [okd]
  exact okds_map (fun j => by simp [kd, okd, okds]) _
theorem sz_hm {n q : Nat} (hn : n ≤ 24) : szs 4 (hmD n q) = true := by
  unfold hmD rowD
  exact szs_map (n := 3) (fun i => szs_map (n := 2) (fun j => by simp [kd, szs]) (by omega)) (by omega)
theorem pd_joD {v c : Nat} : pd 4 (joD v c) = true := by
  unfold joD jrow
  rw [pd]
  refine pds_map (fun i => ?_) _
  rw [pd]
  exact pds_map (fun j => pd_frD _) _
theorem ok_joD {v c : Nat} : okd (joD v c) = true := by
  unfold joD jrow
  rw [okd]
  refine okds_map (fun i => ?_) _
  rw [okd]
  exact okds_map (fun j => by simp [okd, okds]) _
theorem sz_joD {v c : Nat} (hc : c ≤ 24) : szs 4 (joD v c) = true := by
  unfold joD jrow
  exact szs_map (n := 3) (fun i => szs_map (n := 2) (fun j => by simp [szs]) (by omega)) (by omega)
theorem tells_ham {n q : Nat} (h0 : 1 ≤ n) (hn : n ≤ 24) (h1 : 2 ≤ q) (hq : q ≤ 4) : callF T wf (k + 10) 22 [.fn 9, .tup [.int n, .int q], hmD n q] st = .ok (.bl true) st :=
  tells2 (by decide) rfl rfl (ham_ok (k := k + 4) h0 hn h1 hq) pd_hm ok_hm (sz_hm hn)
theorem tells_jo {v c : Nat} (hw : Wf st) (hwf : 2 ^ 400 ≤ wf) (h2 : 2 ≤ v) (hv : v ≤ 24) (h1 : 1 ≤ c) (hc : 2 * c ≤ v) : callF T wf (k + 10) 22 [.fn 11, .tup [.int v, .int c], joD v c] st = .ok (.bl true) st :=
  tells2 (by decide) rfl rfl (jo_ok (k := k + 4) hw hwf h2 hv h1 hc) pd_joD ok_joD (sz_joD (by omega))
theorem jo_at {v c j t : Nat} (hv : v ≤ 24) (h1 : 1 ≤ c) (hc : 2 * c ≤ v) (hj : j ≤ c) (ht : t ≤ j) : sumO v c j t (c + 1) = some (joDue v c j t) := by
  have h := jo_all ⟨v, by omega⟩ ⟨c, by omega⟩ h1 hc
  unfold joOk at h
  rw [List.all_eq_true] at h
  have h2 := h j (List.mem_range.mpr (by show j < c + 1; omega))
  rw [List.all_eq_true] at h2
  exact of_decide_eq_true (h2 t (List.mem_range.mpr (by omega)))
theorem sumO_le {v c j t : Nat} : ∀ {m : Nat}, (∃ z, sumO v c j t m = some z) → ∀ i, i ≤ m → ∃ z, sumO v c j t i = some z
  | 0, h, i, hi => by
    have : i = 0 := by omega
    subst this
    exact h
  | m + 1, h, i, hi => by
    rcases Nat.lt_or_ge m i with z | z
    · have : i = m + 1 := by omega
      subst this
      exact h
    · refine sumO_le (m := m) ?_ i z
      obtain ⟨w, hw⟩ := h
      unfold sumO at hw
      split at hw
      · exact ⟨_, by assumption⟩
      · cases hw
theorem big_of {x y z : Int × Int} (h : timesO x y = some z) : sm 400 x.1 := by
  unfold timesO at h
  split at h
  · rename_i hc
    simp only [Bool.and_eq_true] at hc
    exact big_sm hc.1.1.1
  · cases h
def b30i : List S := [.asg (.nm 6) (.call 19 [.var 6, .call 20 [.tupE [.prim .mul [.call 24 [.var 1, .var 7], .call 24 [.prim .sub [.var 0, .var 1], .var 7]], .cst (.int 1)], .call 20 [.prim .ix [.prim .ix [.var 3, .var 7], .var 2], .prim .ix [.prim .ix [.var 3, .var 7], .var 5]]]])]
def b30t : List S := [.asg (.nm 6) (.tupE [.cst (.int 0), .cst (.int 1)]), .for (.nm 7) (.rng [.prim .add [.var 1, .cst (.int 1)]]) b30i, .ifS (.prim .ne [.var 6, .tupE [.prim .mul [.prim .mul [.var 4, .prim .ix [.prim .ix [.prim .ix [.var 3, .cst (.int 0)], .var 2], .cst (.int 0)]], .prim .toInt [.prim .eq [.var 2, .var 5]]], .cst (.int 1)]]) [.ret (.cst (.bl false))] []]
def b30j : List S := [.for (.nm 5) (.rng [.prim .add [.var 2, .cst (.int 1)]]) b30t]
theorem f30_eq : Pk34.f30 = ⟨2, 8, [.asg (.tp [.nm 3, .nm 4]) (.tupE [.call 28 [.var 0, .var 1], .call 24 [.var 0, .var 1]]), .ifS (.not (.call 22 [.cst (.fn 11), .tupE [.var 0, .var 1], .var 3])) [.ret (.cst (.bl false))] [], .for (.nm 2) (.rng [.prim .add [.var 1, .cst (.int 1)]]) b30j, .ret (.cst (.bl true))]⟩ := rfl
theorem choices_ok {v c : Nat} (hw : Wf st) (hwf : 2 ^ 400 ≤ wf) (h2 : 2 ≤ v) (hv : v ≤ 24) (h1 : 1 ≤ c) (hc : 2 * c ≤ v) : callF T wf (k + 11) 30 [.int v, .int c] st = .ok (.bl true) st := by
  rw [call_def (f := Pk34.f30) rfl rfl]
  have h28 := ljo_ok (wf := wf) (k := k + 8) (st := st) (v := v) (c := c) hw hwf hv hc
  have h24 := over_ok (wf := wf) (k := k + 9) (st := st) (n := v) (c := c) (by omega)
  have htl := tells_jo (wf := wf) (k := k) (st := st) hw hwf h2 hv h1 hc
  have hnt : notl (joD v c) = true := rfl
  have row : ∀ i : Nat, i ≤ c → semP .ix [joD v c, .int (i : Int)] st = some (.tup (jrow v c i), st) := fun i hi => sp_ixT (get_map hi)
  have ent : ∀ i j : Nat, j ≤ c → semP .ix [.tup (jrow v c i), .int (j : Int)] st = some (frD (jq v c i j), st) := fun i j hj => sp_ixT (get_map hj)
  obtain ⟨⟨w1, w2, w3, w4⟩, hj⟩ := for_rng (cf := ⟨callF T wf (k + 10), wf, T.length⟩) (t := .nm 2) (b := b30j) (J := Option D × Option D × Option D × Option D) (fun j w => [some (.int v), some (.int c), w.1, some (joD v c), some (.int (ch v c)), w.2.1, w.2.2.1, w.2.2.2]) (st := st) (k := c + 1) (none, none, none, none) rfl
    (fun j w hj => by
      obtain ⟨⟨x1, x2, x3⟩, ht⟩ := for_rng (cf := ⟨callF T wf (k + 10), wf, T.length⟩) (t := .nm 5) (b := b30t) (J := Option D × Option D × Option D) (fun t w => [some (.int v), some (.int c), some (.int j), some (joD v c), some (.int (ch v c)), w.1, w.2.1, w.2.2]) (st := st) (k := j + 1) (w.2.1, w.2.2.1, w.2.2.2) rfl
        (fun t x ht => by
          have due := jo_at hv h1 hc (show j ≤ c by omega) (show t ≤ j by omega)
          obtain ⟨y, hi⟩ := for_rng (cf := ⟨callF T wf (k + 10), wf, T.length⟩) (t := .nm 7) (b := b30i) (J := Option D) (fun i y => [some (.int v), some (.int c), some (.int j), some (joD v c), some (.int (ch v c)), some (.int t), some (frD ((sumO v c j t i).getD (0, 1))), y]) (st := st) (k := c + 1) x.2.2 rfl
            (fun i y hi => ⟨some (.int i), by
              obtain ⟨z, hz⟩ := sumO_le ⟨_, due⟩ (i + 1) (by omega)
              have hz' := hz
              unfold sumO at hz'
              split at hz'
              · rename_i a ha
                unfold stepO at hz'
                split at hz'
                · rename_i b hb
                  split at hz'
                  · rename_i d hd
                    have t1 := times_ok (wf := wf) (k := k + 8) (st := st) hb hwf
                    have t2 := times_ok (wf := wf) (k := k + 8) (st := st) hd hwf
                    have t3 := plus_ok (wf := wf) (k := k + 8) (st := st) hz' hwf
                    have c3 := over_ok (wf := wf) (k := k + 9) (st := st) (n := c) (c := i) (by omega)
                    have c4 := over_ok (wf := wf) (k := k + 9) (st := st) (n := (v : Int) - c) (c := i) (by omega)
                    have f2 : fits (ch c i) (ch ((v : Int) - c) i) := fits_sm (sm_ch (by omega)) (sm_ch (by omega)) (by decide)
                    have r1 := row i (by omega)
                    have n1 := ent i j (by omega)
                    have n2 := ent i t (by omega)
                    simp only [frD, ki] at t1 t2 t3 n1 n2
                    simp [b30i, ha, hz, r1, n1, n2, c3, c4, f2, t1, t2, t3]
                  · cases hz'
                · cases hz'
              · cases hz'⟩)
          refine ⟨(some (.int t), some (frD (joDue v c j t)), y), ?_⟩
          have r0 : semP .ix [joD v c, .int 0] st = some (.tup (jrow v c 0), st) := row 0 (by omega)
          have n0 := ent 0 j (by omega)
          have e0 : semP .ix [frD (jq v c 0 j), .int 0] st = some (.int (jq v c 0 j).1, st) := sp_ix0 _ _
          have f1 : sm 400 (jq v c 0 j).1 := by
            obtain ⟨z, hz⟩ := sumO_le ⟨_, due⟩ 1 (by omega)
            unfold sumO stepO at hz
            simp only [sumO] at hz
            split at hz
            · rename_i b hb
              exact big_of hb
            · cases hz
          have f2 : fits (ch v c) (jq v c 0 j).1 := fits_sm (sm_ch (by omega)) f1 (by decide)
          have f3 : fits (ch v c * (jq v c 0 j).1) (if j = t then 1 else 0) := fits_sm (m := 1) (sm_mul (sm_ch (by omega)) f1) (sm_lit (by split <;> decide)) (by decide)
          have hne : semP .ne [frD (joDue v c j t), frD (joDue v c j t)] st = some (.bl false, st) := by
            rw [sp_ne (pd_mono (pd_frD _) (by decide)) (pd_mono (pd_frD _) (by decide)), eqP_refl 2 _ (pd_frD _)]
            rfl
          rw [due] at hi
          simp only [frD] at n0 e0 hne
          simp [joDue] at hne
          simp [joDue, sumO] at hi
          simp [b30t, rngN1 (n := c) (by omega), hi, r0, n0, e0, f2, f3, nc, joDue, hne])
      refine ⟨(some (.int j), x1, x2, x3), ?_⟩
      simp at ht
      simp [b30j, rngN1 (n := j) (by omega), ht])
  simp at hj
  simp [f30_eq, h28, h24, mat_notl hnt, seqOf, htl, rngN1 (n := c) (by omega), hj, fin_ret]
end Qk34
namespace Qk34
open Mn PySem Lb
variable {wf k g : Nat} {st : Sto}
/-! ### refused forms -/
/-- what is no length: an int out of the bounds, or no int -/
inductive BadN (lo hi : Int) : D → Prop where
  | int {a : Int} : ¬ (lo ≤ a ∧ a ≤ hi) → BadN lo hi (.int a)
  | bl (b : Bool) : BadN lo hi (.bl b)
  | non : BadN lo hi .non
  | str (s : List Nat) : BadN lo hi (.str s)
  | tup (xs : List D) : BadN lo hi (.tup xs)
theorem BadN.notl {lo hi : Int} {d : D} (h : BadN lo hi d) : notl d = true := by cases h <;> rfl
theorem and_false {lo hi a : Int} (h : ¬ (lo ≤ a ∧ a ≤ hi)) : lo ≤ a → hi < a := fun h1 => by
  have : ¬ a ≤ hi := fun z => h ⟨h1, z⟩
  omega
theorem length_bad1 {d e : D} (h : BadN 1 24 d) (he : notl e = true) : callF T wf (k + 2) 8 [d, e] st = .ex 1 [] st := by
  rw [call_def (f := Pk34.f8) rfl rfl]
  cases h with
  | int h =>
    rename_i a
    by_cases h1 : 1 ≤ a
    · have h2 : ¬ a ≤ 24 := fun z => h ⟨h1, z⟩
      simp [Pk34.f8, whole_i (T := T) (g := 0) rfl, h1, h2, fin_ex]
    · simp [Pk34.f8, whole_i (T := T) (g := 0) rfl, h1, fin_ex]
  | bl b => simp [Pk34.f8, whole_b (T := T) (g := 0) rfl, fin_ex]
  | non => simp [Pk34.f8, whole_n (T := T) (g := 0) rfl, fin_ex]
  | str s => simp [Pk34.f8, whole_s (T := T) (g := 0) rfl, fin_ex]
  | tup xs => simp [Pk34.f8, whole_t (T := T) (g := 0) rfl, fin_ex]
theorem length_bad2 {n : Nat} {d : D} (h0 : 1 ≤ n) (hn : n ≤ 24) (h : BadN 2 4 d) : callF T wf (k + 2) 8 [.int n, d] st = .ex 1 [] st := by
  rw [call_def (f := Pk34.f8) rfl rfl]
  have a1 : (1 : Int) ≤ n := by omega
  have a2 : (n : Int) ≤ 24 := by omega
  cases h with
  | int h =>
    rename_i a
    by_cases h1 : 2 ≤ a
    · have h2 : ¬ a ≤ 4 := fun z => h ⟨h1, z⟩
      simp [Pk34.f8, whole_i (T := T) (g := 0) rfl, a1, a2, h1, h2, fin_ex]
    · simp [Pk34.f8, whole_i (T := T) (g := 0) rfl, a1, a2, h1, fin_ex]
  | bl b => simp [Pk34.f8, whole_i (T := T) (g := 0) rfl, a1, a2, whole_b (T := T) (g := 0) rfl, fin_ex]
  | non => simp [Pk34.f8, whole_i (T := T) (g := 0) rfl, a1, a2, whole_n (T := T) (g := 0) rfl, fin_ex]
  | str s => simp [Pk34.f8, whole_i (T := T) (g := 0) rfl, a1, a2, whole_s (T := T) (g := 0) rfl, fin_ex]
  | tup xs => simp [Pk34.f8, whole_i (T := T) (g := 0) rfl, a1, a2, whole_t (T := T) (g := 0) rfl, fin_ex]
theorem ham_bad {d e : D} (hd : notl d = true) (he : notl e = true) (h : callF T wf (k + 2) 8 [d, e] st = .ex 1 [] st) : callF T wf (k + 3) 9 [d, e] st = .ex 1 [] st := by
  rw [call_def (f := Pk34.f9) rfl rfl]
  simp [Pk34.f9, mat_notl hd, mat_notl he, h, fin_ex]
theorem jo_bad1 {d e : D} (h : BadN 2 24 d) (he : notl e = true) : callF T wf (k + 2) 11 [d, e] st = .ex 1 [] st := by
  rw [call_def (f := Pk34.f11) rfl rfl]
  cases h with
  | int h =>
    rename_i a
    by_cases h1 : 2 ≤ a
    · have h2 : ¬ a ≤ 24 := fun z => h ⟨h1, z⟩
      simp [Pk34.f11, whole_i (T := T) (g := 0) rfl, h1, h2, fin_ex]
    · simp [Pk34.f11, whole_i (T := T) (g := 0) rfl, h1, fin_ex]
  | bl b => simp [Pk34.f11, whole_b (T := T) (g := 0) rfl, fin_ex]
  | non => simp [Pk34.f11, whole_n (T := T) (g := 0) rfl, fin_ex]
  | str s => simp [Pk34.f11, whole_s (T := T) (g := 0) rfl, fin_ex]
  | tup xs => simp [Pk34.f11, whole_t (T := T) (g := 0) rfl, fin_ex]
theorem jo_bad2 {n : Nat} {d : D} (h0 : 2 ≤ n) (hn : n ≤ 24) (h : BadN 1 ((n : Int) / 2) d) (hs : ∀ a, d = .int a → sm 10 a) : callF T wf (k + 2) 11 [.int n, d] st = .ex 1 [] st := by
  rw [call_def (f := Pk34.f11) rfl rfl]
  have a1 : (2 : Int) ≤ n := by omega
  have a2 : (n : Int) ≤ 24 := by omega
  cases h with
  | int h =>
    rename_i a
    have f0 : fits 2 a := fits_sm (sm_lit (n := 2) (by decide)) (hs a rfl) (by decide)
    by_cases h1 : 1 ≤ 2 * a
    · have h2 : ¬ 2 * a ≤ n := fun z => h ⟨by omega, by omega⟩
      simp [Pk34.f11, whole_i (T := T) (g := 0) rfl, a1, a2, f0, h1, h2, fin_ex]
    · simp [Pk34.f11, whole_i (T := T) (g := 0) rfl, a1, a2, f0, h1, fin_ex]
  | bl b => simp [Pk34.f11, whole_i (T := T) (g := 0) rfl, a1, a2, whole_b (T := T) (g := 0) rfl, fin_ex]
  | non => simp [Pk34.f11, whole_i (T := T) (g := 0) rfl, a1, a2, whole_n (T := T) (g := 0) rfl, fin_ex]
  | str s => simp [Pk34.f11, whole_i (T := T) (g := 0) rfl, a1, a2, whole_s (T := T) (g := 0) rfl, fin_ex]
  | tup xs => simp [Pk34.f11, whole_i (T := T) (g := 0) rfl, a1, a2, whole_t (T := T) (g := 0) rfl, fin_ex]
theorem bad2 {f : Nat} {a b : D} (hf : f < 32) (ha : notl a = true) (hb : notl b = true) (hr : callF T wf (k + 8) f [a, b] st = .ex 1 [] st) : callF T wf (k + 10) 23 [.fn f, .tup [a, b]] st = .ok (.bl true) st :=
  bad_ok (T := T) (g := 23) (c := 21) (k := k + 9) rfl (mal2 (T := T) (g := 21) (h := 15) (k := k + 8) hT21 hf ha hb hr)
theorem bad_ham1 {d : D} (h : BadN 1 24 d) {a : Int} : callF T wf (k + 10) 23 [.fn 9, .tup [d, .int a]] st = .ok (.bl true) st :=
  bad2 (by decide) h.notl rfl (ham_bad (k := k + 5) h.notl rfl (length_bad1 h rfl))
theorem bad_ham2 {d : D} (h : BadN 2 4 d) : callF T wf (k + 10) 23 [.fn 9, .tup [.int 3, d]] st = .ok (.bl true) st :=
  bad2 (by decide) rfl h.notl (ham_bad (k := k + 5) rfl h.notl (length_bad2 (n := 3) (by decide) (by decide) h))
theorem bad_jo1 {d : D} (h : BadN 2 24 d) {a : Int} : callF T wf (k + 10) 23 [.fn 11, .tup [d, .int a]] st = .ok (.bl true) st :=
  bad2 (by decide) h.notl rfl (jo_bad1 (k := k + 6) h rfl)
theorem bad_jo2 {d : D} (h : BadN 1 3 d) (hs : ∀ a, d = .int a → sm 10 a) : callF T wf (k + 10) 23 [.fn 11, .tup [.int 6, d]] st = .ok (.bl true) st :=
  bad2 (by decide) rfl h.notl (jo_bad2 (k := k + 6) (n := 6) (by decide) (by decide) h hs)
/-! ### the law -/
def bA : List S := [.ifS (.or (.not (.call 23 [.cst (.fn 9), .tupE [.var 3, .cst (.int 2)]])) (.not (.call 23 [.cst (.fn 11), .tupE [.var 3, .cst (.int 1)]]))) [.ret (.cst (.bl false))] []]
def bB : List S := [.ifS (.not (.call 23 [.cst (.fn 9), .tupE [.cst (.int 3), .var 3]])) [.ret (.cst (.bl false))] []]
def bT : List S := [.asg (.tp [.nm 5, .nm 6]) (.tupE [.prim .add [.cst (.int 1), .call 13 [.var 1, .prim .ix [.lstE [.cst (.int 6), .cst (.int 12), .cst (.int 24)], .var 2]]], .prim .add [.cst (.int 2), .call 13 [.var 1, .cst (.int 3)]]]), .ifS (.or (.not (.call 22 [.cst (.fn 9), .tupE [.var 5, .var 6], .call 27 [.var 5, .var 6]])) (.and (.prim .lt [.var 5, .cst (.int 13)]) (.not (.call 29 [.var 5, .var 6])))) [.ret (.cst (.bl false))] [], .asg (.nm 4) (.prim .add [.cst (.int 2), .call 13 [.var 1, .prim .ix [.lstE [.cst (.int 6), .cst (.int 12), .cst (.int 23)], .var 2]]]), .ifS (.not (.call 30 [.var 4, .prim .add [.cst (.int 1), .call 13 [.var 1, .prim .fdiv [.var 4, .cst (.int 2)]]]])) [.ret (.cst (.bl false))] []]
def eT : E := .call 22 [.cst (.fn 9), .tupE [.cst (.int 2), .cst (.int 2)], .tupE [.tupE [.tupE [.cst (.int 1), .cst (.int 1)], .tupE [.cst (.int 2), .cst (.int 1)], .tupE [.cst (.int 1), .cst (.int 1)]], .tupE [.tupE [.cst (.int 1), .cst (.int 1)], .tupE [.cst (.int 0), .cst (.int 1)], .tupE [.prim .neg [.cst (.int 1)], .cst (.int 1)]], .tupE [.tupE [.cst (.int 1), .cst (.int 1)], .tupE [.prim .neg [.cst (.int 2)], .cst (.int 1)], .tupE [.cst (.int 1), .cst (.int 1)]]]]
def sA : Src := .ex (.lstE [.cst (.int 0), .cst (.int 25), .prim .neg [.cst (.int 1)], .cst (.bl true), .cst (.non), .cst (.str [51]), .tupE [.cst (.int 3)]])
def sB : Src := .ex (.lstE [.cst (.int 0), .cst (.int 1), .cst (.int 5), .prim .neg [.cst (.int 2)], .cst (.bl true), .cst (.non), .cst (.str [50])])
def eC : E := .and (.prim .all [.comp (.call 23 [.cst (.fn 11), .tupE [.cst (.int 6), .var 3]]) (.nm 3) (.ex (.lstE [.cst (.int 0), .cst (.int 4), .prim .neg [.cst (.int 1)], .cst (.bl true), .cst (.non), .cst (.str [50])])) [] [3]]) (.call 23 [.cst (.fn 11), .tupE [.cst (.int 1), .cst (.int 1)]])
theorem f31_eq : Pk34.f31 = ⟨1, 7, [.asg (.nm 1) (.call 12 [.var 0]), .for (.nm 2) (.rng [.cst (.int 3)]) bT, .ifS (.not eT) [.ret (.cst (.bl false))] [], .for (.nm 3) sA bA, .for (.nm 3) sB bB, .ret eC]⟩ := rfl
theorem ham22 : hmD 2 2 = .tup [.tup [.tup [.int 1, .int 1], .tup [.int 2, .int 1], .tup [.int 1, .int 1]], .tup [.tup [.int 1, .int 1], .tup [.int 0, .int 1], .tup [.int (-1), .int 1]], .tup [.tup [.int 1, .int 1], .tup [.int (-2), .int 1], .tup [.int 1, .int 1]]] := rfl
end Qk34
namespace Qk34
open Mn PySem Lb
variable {wf k g : Nat} {st : Sto}
theorem for_list {cf : Cf} {t : Tg} {b : List S} {xs : List D} (R : Option D → Rho) (w0 : Option D) (h : ∀ d ∈ xs, ∀ w, ∃ w', kBody cf b (evTg cf t d (R w) st) = .ok (.nx, R w') st) : ∃ w, forB cf t b (.fix xs) xs.length 0 (R w0) st = .ok (.nx, R w) st := by
  obtain ⟨ρ', st', h1, w, h2, h3⟩ := for_inv (cf := cf) (t := t) (b := b) (sv := .fix xs) (k := xs.length) (i := 0) (ρ := R w0) (st := st) (fun i ρ s => ∃ w, ρ = R w ∧ s = st) ⟨w0, rfl, rfl⟩
    (fun j ρ s _ hj ⟨w, hρ, hs⟩ => by
      subst hρ hs
      have hj' : j < xs.length := by omega
      obtain ⟨w', e⟩ := h xs[j] (List.getElem_mem hj') w
      exact ⟨xs[j], _, _, List.getElem?_eq_getElem hj', .inl e, w', rfl, rfl⟩) (fun _ _ _ => by simp)
  subst h2 h3
  exact ⟨w, h1⟩
theorem comp_list {cf : Cf} {elt : E} {tg : Tg} {cs : List E} {own : List Nat} {ρ : Rho} {xs : List D} (hx : xs.length ≤ 1000) (h : ∀ d ∈ xs, ∀ acc, acc.length < 1000 → turnB cf elt tg cs own ρ d acc st = .ok (acc ++ [.bl true]) st) :
    compB cf elt tg cs own ρ (.fix xs) xs.length st = .ok (.tl (((List.range xs.length).map fun _ => true).map D.bl)) st := by
  rw [Mn.comp_map (fun _ => D.bl true) (fun j acc hj ha => ⟨xs[j], List.getElem?_eq_getElem hj, h xs[j] (List.getElem_mem hj) acc (by omega)⟩) (by simp), List.map_map]
  rfl
theorem all_true (n : Nat) : semP .all [.tl (((List.range n).map fun _ => true).map D.bl)] st = some (.bl true, st) := by
  rw [sp_all]
  simp
theorem wf_one (h : StOk st 0) (hl : st.length = 1) : Wf st := by
  obtain ⟨s, t, e, _⟩ := h
  match st, hl with
  | [o], _ =>
    have : o = .lst [.int s, .int t] := by simpa using e
    subst this
    rfl
def lev : Nat := 20
theorem law_ok (hwf : 2 ^ 400 ≤ wf) {ns : List Int} (hl : ns.length ≤ 63) (hb : ∀ z ∈ ns, Builtin.Int.intBits z ≤ 1048576) : ∃ st', callF T wf (k + 12) 31 [.kl (ns.map D.int)] [] = .ok (.bl true) st' := by
  obtain ⟨s0, t0, h12, hs0, ht0, ht1⟩ := state_ok (T := T) (g := 12) (wf := wf) (k := k + 10) (st := []) rfl hl hb
  obtain ⟨ρ1, st1, hT, ⟨w2, w4, w5, w6⟩, hρ, hso, hsl⟩ := for_inv (cf := ⟨callF T wf (k + 11), wf, T.length⟩) (t := .nm 2) (b := bT) (sv := .rng 0 1) (k := 3) (i := 0) (ρ := [some (.kl (ns.map D.int)), some (.lr 0), none, none, none, none, none]) (st := [.lst [.int s0, .int t0]])
    (fun i ρ s => ∃ w : Option D × Option D × Option D × Option D, ρ = [some (.kl (ns.map D.int)), some (.lr 0), w.1, none, w.2.1, w.2.2.1, w.2.2.2] ∧ StOk s 0 ∧ s.length = 1) ⟨(none, none, none, none), rfl, ⟨s0, t0, rfl, hs0, ht0, ht1⟩, rfl⟩
    (fun j ρ s _ hj ⟨w, hρ, hso, hsl⟩ => by
      subst hρ
      have e1 : ∃ m : Int, [D.int 6, D.int 12, D.int 24][j]? = some (.int m) ∧ 1 ≤ m ∧ m ≤ 24 := by
        match j, hj with
        | 0, _ => exact ⟨6, rfl, by decide, by decide⟩
        | 1, _ => exact ⟨12, rfl, by decide, by decide⟩
        | 2, _ => exact ⟨24, rfl, by decide, by decide⟩
      have e2 : ∃ m : Int, [D.int 6, D.int 12, D.int 23][j]? = some (.int m) ∧ 1 ≤ m ∧ m ≤ 23 := by
        match j, hj with
        | 0, _ => exact ⟨6, rfl, by decide, by decide⟩
        | 1, _ => exact ⟨12, rfl, by decide, by decide⟩
        | 2, _ => exact ⟨23, rfl, by decide, by decide⟩
      obtain ⟨m1, i1, m1a, m1b⟩ := e1
      obtain ⟨m2, i2, m2a, m2b⟩ := e2
      have x1 := fun s => sp_ixL (st := s) i1
      have x2 := fun s => sp_ixL (st := s) i2
      obtain ⟨v1, a1, b1, c1, ⟨p1, q1⟩, k1⟩ := take_ok (T := T) (g := 13) (wf := wf) (k := k + 10) rfl hso m1a (by omega)
      obtain ⟨s1, hs1⟩ : ∃ s1, s1 = s.set 0 (.lst [.int a1, .int b1]) := ⟨_, rfl⟩
      rw [← hs1] at c1 k1
      obtain ⟨v2, a2, b2, c2, ⟨p2, q2⟩, k2⟩ := take_ok (T := T) (g := 13) (wf := wf) (k := k + 10) rfl k1 (m := 3) (by decide) (by decide)
      obtain ⟨s2, hs2⟩ : ∃ s2, s2 = s1.set 0 (.lst [.int a2, .int b2]) := ⟨_, rfl⟩
      rw [← hs2] at c2 k2
      obtain ⟨v3, a3, b3, c3, ⟨p3, q3⟩, k3⟩ := take_ok (T := T) (g := 13) (wf := wf) (k := k + 10) rfl k2 m2a (by omega)
      obtain ⟨s3, hs3⟩ : ∃ s3, s3 = s2.set 0 (.lst [.int a3, .int b3]) := ⟨_, rfl⟩
      rw [← hs3] at c3 k3
      obtain ⟨N, hN⟩ : ∃ N : Nat, (N : Int) = 1 + v1 := ⟨(1 + v1).toNat, by omega⟩
      obtain ⟨Q, hQ⟩ : ∃ Q : Nat, (Q : Int) = 2 + v2 := ⟨(2 + v2).toNat, by omega⟩
      obtain ⟨V, hV⟩ : ∃ V : Nat, (V : Int) = 2 + v3 := ⟨(2 + v3).toNat, by omega⟩
      have hfd : (V : Int).fdiv 2 = (V : Int) / 2 := Int.fdiv_eq_ediv_of_nonneg _ (by decide)
      obtain ⟨v4, a4, b4, c4, ⟨p4, q4⟩, k4⟩ := take_ok (T := T) (g := 13) (wf := wf) (k := k + 10) rfl k3 (m := (V : Int).fdiv 2) (by rw [hfd]; omega) (by rw [hfd]; omega)
      obtain ⟨s4, hs4⟩ : ∃ s4, s4 = s3.set 0 (.lst [.int a4, .int b4]) := ⟨_, rfl⟩
      rw [← hs4] at c4 k4
      rw [hfd] at q4
      obtain ⟨C, hC⟩ : ∃ C : Nat, (C : Int) = 1 + v4 := ⟨(1 + v4).toNat, by omega⟩
      have hl4 : s4.length = 1 := by rw [hs4, hs3, hs2, hs1]; simpa using hsl
      have hl2 : s2.length = 1 := by rw [hs2, hs1]; simpa using hsl
      have y1 := lham_ok (wf := wf) (k := k + 8) (st := s2) (n := N) (q := Q) (by omega) (by omega) (by omega)
      have y2 := tells_ham (wf := wf) (k := k + 1) (st := s2) (n := N) (q := Q) (by omega) (by omega) (by omega) (by omega)
      have y4 := choices_ok (wf := wf) (k := k) (st := s4) (v := V) (c := C) (wf_one k4 hl4) hwf (by omega) (by omega) (by omega) (by omega)
      have hnt : notl (hmD N Q) = true := rfl
      have l2 : Nat.log2 2 < 9000 := by decide
      have ej : (0 : Int) + (j : Int) * 1 = j := by omega
      refine ⟨.int j, [some (.kl (ns.map D.int)), some (.lr 0), some (.int j), none, some (.int V), some (.int N), some (.int Q)], s4, by rw [item_rng, ej], .inl ?_, (some (.int j), some (.int V), some (.int N), some (.int Q)), rfl, k4, hl4⟩
      by_cases h13 : (N : Int) < 13
      · have y3 := square_ok (wf := wf) (k := k + 7) (st := s2) (n := N) (q := Q) (by omega) (by omega) (by omega)
        simp [bT, x1, x2, c1, c2, ← hN, ← hQ, seqOf, y1, mat_notl hnt, y2, h13, y3, c3, ← hV, l2, c4, ← hC, y4]
      · simp [bT, x1, x2, c1, c2, ← hN, ← hQ, seqOf, y1, mat_notl hnt, y2, h13, c3, ← hV, l2, c4, ← hC, y4])
    (fun _ _ _ => rfl)
  subst hρ
  -- the fixed table
  have hE : evE ⟨callF T wf (k + 11), wf, T.length⟩ eT [some (.kl (ns.map D.int)), some (.lr 0), w2, none, w4, w5, w6] st1 = .ok (.bl true) st1 := by
    have y := tells_ham (wf := wf) (k := k + 1) (st := st1) (n := 2) (q := 2) (by decide) (by decide) (by decide) (by decide)
    rw [ham22] at y
    have y' : callF T wf (k + 11) 22 [.fn 9, .tup [.int 2, .int 2], .tup [.tup [.tup [.int 1, .int 1], .tup [.int 2, .int 1], .tup [.int 1, .int 1]], .tup [.tup [.int 1, .int 1], .tup [.int 0, .int 1], .tup [.int (-1), .int 1]], .tup [.tup [.int 1, .int 1], .tup [.int (-2), .int 1], .tup [.int 1, .int 1]]]] st1 = .ok (.bl true) st1 := y
    simp [eT, y']
  -- refused forms
  obtain ⟨x3, hA⟩ := for_list (cf := ⟨callF T wf (k + 11), wf, T.length⟩) (t := .nm 3) (b := bA) (st := st1) (xs := [.int 0, .int 25, .int (-1), .bl true, .non, .str [51], .tup [.int 3]]) (fun w => [some (.kl (ns.map D.int)), some (.lr 0), w2, w, w4, w5, w6]) none
    (fun d hd w => ⟨some d, by
      have hB : BadN 1 24 d ∧ BadN 2 24 d := by
        simp only [List.mem_cons, List.not_mem_nil, or_false] at hd
        rcases hd with rfl | rfl | rfl | rfl | rfl | rfl | rfl <;> exact ⟨by constructor <;> decide, by constructor <;> decide⟩
      have r1 := bad_ham1 (wf := wf) (k := k + 1) (st := st1) hB.1 (a := 2)
      have r2 := bad_jo1 (wf := wf) (k := k + 1) (st := st1) hB.2 (a := 1)
      simp [bA, mat_notl hB.1.notl, r1, r2]⟩)
  obtain ⟨x4, hBl⟩ := for_list (cf := ⟨callF T wf (k + 11), wf, T.length⟩) (t := .nm 3) (b := bB) (st := st1) (xs := [.int 0, .int 1, .int 5, .int (-2), .bl true, .non, .str [50]]) (fun w => [some (.kl (ns.map D.int)), some (.lr 0), w2, w, w4, w5, w6]) x3
    (fun d hd w => ⟨some d, by
      have hB : BadN 2 4 d := by
        simp only [List.mem_cons, List.not_mem_nil, or_false] at hd
        rcases hd with rfl | rfl | rfl | rfl | rfl | rfl | rfl <;> (constructor <;> decide)
      have r1 := bad_ham2 (wf := wf) (k := k + 1) (st := st1) hB
      simp [bB, mat_notl hB.notl, r1]⟩)
  have hCm := comp_list (cf := ⟨callF T wf (k + 11), wf, T.length⟩) (elt := .call 23 [.cst (.fn 11), .tupE [.cst (.int 6), .var 3]]) (tg := .nm 3) (cs := []) (own := [3]) (ρ := [some (.kl (ns.map D.int)), some (.lr 0), w2, x4, w4, w5, w6]) (st := st1) (xs := [.int 0, .int 4, .int (-1), .bl true, .non, .str [50]]) (by decide)
    (fun d hd acc ha => by
      have hB : BadN 1 3 d ∧ ∀ a, d = .int a → sm 10 a := by
        simp only [List.mem_cons, List.not_mem_nil, or_false] at hd
        rcases hd with rfl | rfl | rfl | rfl | rfl | rfl <;> exact ⟨by constructor <;> decide, fun a e => by cases e <;> exact sm_lit (by decide)⟩
      have r1 := bad_jo2 (wf := wf) (k := k + 1) (st := st1) hB.1 hB.2
      have hs : acc.length < sizeLine := small_acc ha (by decide)
      simp [turnB, wipe, mat_notl hB.1.notl, r1, hs])
  have hall := all_true (st := st1) 6
  have r3 := bad_jo1 (wf := wf) (k := k + 1) (st := st1) (d := .int 1) (.int (by decide)) (a := 1)
  rw [call_def (f := Pk34.f31) rfl rfl]
  have fin1 : ∀ ρ : Rho, ∃ st', fin ([] : Sto).length (.ok (.ret (.bl true), ρ) st1) = .ok (.bl true) st' := fun ρ => by
    have hw := wf_one hso hsl
    have := retn_app (st := []) (ext := st1) (d := .bl true) Wf_nil rfl
    exact ⟨_, this⟩
  obtain ⟨st', hf⟩ := fin1 [some (.kl (ns.map D.int)), some (.lr 0), w2, x4, w4, w5, w6]
  refine ⟨st', ?_⟩
  have r3' : rngOf [.int 3] = some (.rng 0 1, 3) := rngN (n := 3) (by decide)
  simp at hA hBl hCm hall hf hT
  simp [f31_eq, h12, r3', hT, hE, sA, hA, sB, hBl, eC, hCm, hall, r3, hf]
theorem plain : Mn.Plain Pk34.T lev 31 := fun ns h1 h2 => by
  obtain ⟨st', h⟩ := law_ok (wf := 2 ^ 400) (k := 8) (Nat.le_refl _) h1 h2
  exact ⟨2 ^ 400, st', h⟩
end Qk34
namespace Ek34
open PySem PySem.Spec PyProof.Rows L2
def top (i : Nat) : Stmt := PySem.Challenge.pw_dualroads_k34_whole_transform_tables.main.body.getD i (.Pass ⟨0, 0, 0, 0⟩)
def sts : List Stmt := [top 5, top 6, top 7, top 8, top 9, top 13, top 14, top 15, top 16, top 17, top 18, top 19, top 21, top 22, top 23, top 24, top 25, top 26, top 27, top 28, top 29, top 30, top 31, top 32, top 33, top 34, top 35, top 36, top 37, top 38, top 39, top 40]
abbrev hk : PySem.W.Hook := He.hookX 4 (Mn.faOf Pk34.md) (Mn.ddsOf Pk34.md.fns sts) [] [] (Mn.exB Pk34.md)
def ob (s : PySem.W.SharedT) : He.AlX := He.obsX 4 (Mn.faOf Pk34.md) (Mn.ddsOf Pk34.md.fns sts) [] [] (Mn.exB Pk34.md) (HandSHeadRun.getT s)
theorem ob_eq (s : PySem.W.SharedT) : ob s = hk.obs s.abs := He.obsX_eq (HandSHeadRun.getT_eq s)
theorem run (w : World) : HandSHeadRun.RunEq (PySem.W.OpenLaw.row PySem.Challenge.rw_dualroads_k34_whole_transform_tables) (PySem.W.view (PySem.W.OpenLaw.row PySem.Challenge.rw_dualroads_k34_whole_transform_tables).prog [40]) hk ob 4000 ((["Fault", "Malformed", "Refused", "is_integer", "greatest_common", "chosen_of", "lowest", "ratio_over", "MOST_LENGTH", "MOST_LETTERS", "power", "chosen", "krawtchouk", "check_length", "hamming_transform", "johnson_value", "johnson_transform", "_law_state", "_law_take", "_law_odd", "_law_honest", "_law_is_whole", "_law_same", "_law_frac", "_law_plus"] : List PySem.Str) ++ (["_law_times", "_law_call", "_law_tells", "_law_bad", "_law_over_of", "_law_whole_power", "_law_krawtchouk", "_law_hamming_transform", "_law_johnson_transform", "_law_square_holds", "_law_choices_hold"] : List PySem.Str)) w := by
  intro os
  kernel_rfl
theorem text : Mn.textB Pk34.md Pk34.T Pk34.NN sts = true := by decide +kernel
end Ek34
open PySem PySem.W PySem.Calls PyProof.Rows
theorem PySem.Challenge.cw_dualroads_k34_whole_transform_tables_holds : PySem.Challenge.rw_dualroads_k34_whole_transform_tables.Holds := by
  w_on; o_law
  refine HandSHeadRun.head_any (r := OpenLaw.row PySem.Challenge.rw_dualroads_k34_whole_transform_tables) (q := view (OpenLaw.row PySem.Challenge.rw_dualroads_k34_whole_transform_tables).prog [40]) (H := Ek34.hk) (ob := Ek34.ob) (M := 4000) (loose := ((["Fault", "Malformed", "Refused", "is_integer", "greatest_common", "chosen_of", "lowest", "ratio_over", "MOST_LENGTH", "MOST_LETTERS", "power", "chosen", "krawtchouk", "check_length", "hamming_transform", "johnson_value", "johnson_transform", "_law_state", "_law_take", "_law_odd", "_law_honest", "_law_is_whole", "_law_same", "_law_frac", "_law_plus"] : List PySem.Str) ++ (["_law_times", "_law_call", "_law_tells", "_law_bad", "_law_over_of", "_law_whole_power", "_law_krawtchouk", "_law_hamming_transform", "_law_johnson_transform", "_law_square_holds", "_law_choices_hold"] : List PySem.Str))) (d := HandSHeadRun.topDef (OpenLaw.row PySem.Challenge.rw_dualroads_k34_whole_transform_tables).prog 40) (kwd := []) Ek34.ob_eq
    (by kernel_rfl) (fun s => by kernel_rfl) Ek34.run (by kernel_rfl) (by kernel_rfl) (by kernel_rfl) (by rfl) (by first | assumption | decide +kernel) (by decide +kernel) ⟨rfl, rfl, rfl, rfl, rfl, by decide +kernel⟩ ?hw ?hc
  case hw => w_witness2
  case hc =>
    exact Mn.law_walk (l := PySem.Challenge.rw_dualroads_k34_whole_transform_tables) (md := Pk34.md) (T := Pk34.T) (NN := Pk34.NN) (sts := Ek34.sts) (k := Qk34.lev) (g := 31) (f := Pk34.f31) (x := "script") rfl (by kernel_rfl) ⟨rfl, by decide, by decide⟩ Ek34.text rfl (by kernel_rfl) (fun N h => by cases h; rfl) Qk34.plain
