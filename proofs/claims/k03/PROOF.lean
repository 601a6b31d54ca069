import PyProof.Rows.All
import Wide.All
import OpenK.AllK
import Wide.FinOn
import HandS.ForMost
import HandS.ForExc
import KE.SortData
import KE.KeyNested
import HandS.TupSets
import HandS.Strs
import HandS.Lambda
import HandS.HeadHook4
import HandS.Flow
import HandS.Wide
import HandS.IsInst
import HandS.TupAny
import HandS.Star
import HandS.Style
import HandS.TupMul
import HandS.Deep
import HandS.Rev
import HandS.Text
import HandS.Zip
import HandS.Conv
import HandS.Ends
import HandS.EndBits
import HandS.ExcOwn
import HandS.ExcIs
import HandS.ExcField
import KE.KExcIs
import HandS.RaiseMore
import PyProof.ReprRoads
import PyProof.P3In
import KE.GoesMore
import KE.GoesEnum
import HandS.SetFor
import PyProof.WalksMore
import PyProof.Transfer
import HandS.Nested
import HandS.ExcInit
import HandS.EndTab
import HandS.WordsExc
import KE.KExcInit
import HandS.Head2
import HandS.HeadHook2
import PyProof.StrLawsRepr
import PySem.Challenge.RW_howeverdeep_k03_stands_and_steps
set_option Elab.async false
set_option linter.all false
set_option maxRecDepth 100000
set_option maxHeartbeats 1000000
/-! DL0: plain data, the store, the own syntax trees and what they come to. No machine here. -/
namespace DL
open PySem

/-- plain data; `ref` points into the store, `fn` is one of the functions -/
inductive D where
  | non | bl (b : Bool) | int (i : Int) | str (x : Str)
  | tup (xs : List D) | lst (xs : List D) | dic (ks vs : List D) | set (xs : List D)
  | ref (n : Nat) | fn (x : Str) (xs : List D)
  /-- a list of integers that nobody writes: the script -/
  | scr (xs : List Int)
  /-- an own error that was caught: its class's name, its value -/
  | err (x : Str) (d : D)
  deriving Inhabited

/-- what stands in the store -/
inductive O where
  | lst (xs : List D) | dic (kvs : List (D × D)) | set (xs : List D) | ins (c : Str) (fs : List (Str × D))
  deriving Inhabited

abbrev Env := List (Option D)
abbrev Sto := List O

/-- how an expression ends -/
inductive Res (α : Type) where
  | ok (a : α) (S : Sto) | exc (c : Str) (v : D) (S : Sto) | bad

def Res.bind {α β : Type} (r : Res α) (f : α → Sto → Res β) : Res β := match r with
  | .ok a S => f a S
  | .exc c v S => .exc c v S
  | .bad => .bad
@[simp] theorem Res.bind_ok {α β : Type} (a : α) (S : Sto) (f : α → Sto → Res β) : (Res.ok a S).bind f = f a S := (rfl)
@[simp] theorem Res.bind_exc {α β : Type} (c : Str) (v : D) (S : Sto) (f : α → Sto → Res β) : (Res.exc c v S : Res α).bind f = .exc c v S := (rfl)
@[simp] theorem Res.bind_bad {α β : Type} (f : α → Sto → Res β) : (Res.bad : Res α).bind f = .bad := (rfl)

/-- how a statement ends -/
inductive Out where
  | next (ρ : Env) (S : Sto) | ret (d : D) (S : Sto) | brk (ρ : Env) (S : Sto) | cont (ρ : Env) (S : Sto)
  | exc (c : Str) (v : D) (ρ : Env) (S : Sto) | bad

def ofRes {α : Type} (ρ : Env) (r : Res α) (f : α → Sto → Out) : Out := match r with
  | .ok a S => f a S
  | .exc c v S => .exc c v ρ S
  | .bad => .bad
@[simp] theorem ofRes_ok {α : Type} (ρ : Env) (a : α) (S : Sto) (f : α → Sto → Out) : ofRes ρ (.ok a S) f = f a S := (rfl)
@[simp] theorem ofRes_exc {α : Type} (ρ : Env) (c : Str) (v : D) (S : Sto) (f : α → Sto → Out) : ofRes ρ (.exc c v S : Res α) f = .exc c v ρ S := (rfl)
@[simp] theorem ofRes_bad {α : Type} (ρ : Env) (f : α → Sto → Out) : ofRes ρ (.bad : Res α) f = .bad := (rfl)
def Out.seq (o : Out) (f : Env → Sto → Out) : Out := match o with
  | .next ρ S => f ρ S
  | o => o
@[simp] theorem Out.seq_next (ρ : Env) (S : Sto) (f : Env → Sto → Out) : (Out.next ρ S).seq f = f ρ S := (rfl)
@[simp] theorem Out.seq_ret (d : D) (S : Sto) (f : Env → Sto → Out) : (Out.ret d S).seq f = .ret d S := (rfl)
@[simp] theorem Out.seq_brk (ρ : Env) (S : Sto) (f : Env → Sto → Out) : (Out.brk ρ S).seq f = .brk ρ S := (rfl)
@[simp] theorem Out.seq_cont (ρ : Env) (S : Sto) (f : Env → Sto → Out) : (Out.cont ρ S).seq f = .cont ρ S := (rfl)
@[simp] theorem Out.seq_exc (c : Str) (v : D) (ρ : Env) (S : Sto) (f : Env → Sto → Out) : (Out.exc c v ρ S).seq f = .exc c v ρ S := (rfl)
@[simp] theorem Out.seq_bad (f : Env → Sto → Out) : Out.bad.seq f = .bad := (rfl)
end DL

namespace DL
open PySem

/-! ### data -/
mutual
/-- no ref, no function, no set, no dict within -/
def D.pure : D → Bool
  | .non => true | .bl _ => true | .int _ => true | .str _ => true
  | .tup xs => pureL xs
  | .lst xs => pureL xs
  | _ => false
def pureL : List D → Bool
  | [] => true
  | x :: xs => x.pure && pureL xs
end
mutual
def D.toP : D → PyData
  | .non => .none | .bl b => .bool b | .int i => .int i | .str x => .str x
  | .tup xs => .tuple (toPL xs)
  | .lst xs => .list (toPL xs)
  | _ => .none
def toPL : List D → List PyData
  | [] => []
  | x :: xs => x.toP :: toPL xs
end
theorem toPL_eq : ∀ xs : List D, toPL xs = xs.map D.toP
  | [] => rfl
  | x :: xs => by simp [toPL, toPL_eq xs]
theorem pureL_eq : ∀ xs : List D, pureL xs = xs.all D.pure
  | [] => rfl
  | x :: xs => by simp [pureL, pureL_eq xs]
mutual
/-- all refs within are below n -/
def D.low (n : Nat) : D → Bool
  | .ref k => decide (k < n)
  | .tup xs => lowL n xs
  | .lst xs => lowL n xs
  | .dic ks vs => lowL n ks && lowL n vs
  | .set xs => lowL n xs
  | .fn _ xs => lowL n xs
  | .err _ d => d.low n
  | _ => true
def lowL (n : Nat) : List D → Bool
  | [] => true
  | x :: xs => x.low n && lowL n xs
end
theorem lowL_eq (n : Nat) : ∀ xs : List D, lowL n xs = xs.all (D.low n)
  | [] => rfl
  | x :: xs => by simp [lowL, lowL_eq n xs]
mutual
theorem D.low_of_pure (n : Nat) : ∀ d : D, d.pure = true → d.low n = true
  | .non, _ => rfl | .bl _, _ => rfl | .int _, _ => rfl | .str _, _ => rfl
  | .tup xs, h => lowL_of_pure n xs h
  | .lst xs, h => lowL_of_pure n xs h
theorem lowL_of_pure (n : Nat) : ∀ xs : List D, pureL xs = true → lowL n xs = true
  | [], _ => rfl
  | x :: xs, h => by
    simp only [pureL, Bool.and_eq_true] at h
    simp only [lowL, Bool.and_eq_true]
    exact ⟨D.low_of_pure n x h.1, lowL_of_pure n xs h.2⟩
end
def O.low (n : Nat) : O → Bool
  | .lst xs => lowL n xs
  | .dic kvs => kvs.all fun p => p.1.low n && p.2.low n
  | .set xs => lowL n xs
  | .ins _ fs => fs.all fun p => p.2.low n
def stoLow (n : Nat) (S : Sto) : Bool := S.all (O.low n)

/-- a value with the lists of the store in it written out -/
def frz (S : Sto) (base : Nat) : Nat → D → Option D
  | 0, _ => none
  | f + 1, .ref n => if n < base then some (.ref n) else match S[n]? with
    | some (.lst xs) => (xs.mapM (frz S base f)).map .lst
    | _ => none
  | f + 1, .tup xs => (xs.mapM (frz S base f)).map .tup
  | f + 1, .lst xs => if lowL base xs then some (.lst xs) else none
  | _ + 1, d => if d.low base then some d else none
/-- what a call leaves of the callee's store -/
def leave (n : Nat) (r : Res D) : Res D := match r with
  | .ok d S => if stoLow n (S.take n) then
      if d.low n then .ok d (S.take n)
      else match frz S n 50 d with
        | some d' => .ok d' (S.take n)
        | none => .bad
    else .ok d S
  | .exc x d S => if stoLow n (S.take n) && d.low n then .exc x d (S.take n) else .exc x d S
  | .bad => .bad
/-- the same where the list that is handed back goes on as one that may change -/
def leaveM (n : Nat) (r : Res D) : Res D := match r with
  | .ok (.ref k) S => if k < n then .bad else match S[k]? with
    | some (.lst xs) => if stoLow n (S.take n) && lowL n xs then .ok (.ref n) (S.take n ++ [.lst xs]) else .bad
    | _ => .bad
  | .ok _ _ => .bad
  | .exc x d S => if stoLow n (S.take n) && d.low n then .exc x d (S.take n) else .exc x d S
  | .bad => .bad

/-! ### what Python's operations say of data -/
/-- data to be looked at as a whole: a list of the store by its items -/
def see (S : Sto) : D → Option D
  | .ref n => match S[n]? with
    | some (.lst xs) => if pureL xs then some (.lst xs) else none
    | _ => none
  | d => if d.pure then some d else none
def tyOf (S : Sto) : D → Option String
  | .non => some "NoneType" | .bl _ => some "bool" | .int _ => some "int" | .str _ => some "str"
  | .tup _ => some "tuple" | .lst _ => some "list"
  | .ref n => match S[n]? with
    | some (.lst _) => some "list"
    | _ => none
  | _ => none
def isiB (a b : String) : Bool := a == b || (a == "bool" && b == "int")
def listOf (S : Sto) : D → Option (List D)
  | .lst xs => some xs
  | .ref n => match S[n]? with
    | some (.lst xs) => some xs
    | _ => none
  | _ => none
def seqOf (S : Sto) : D → Option (List D)
  | .tup xs => some xs
  | .scr ns => some (ns.map .int)
  | d => listOf S d
def lenOf (S : Sto) : D → Option Nat
  | .str x => if x.length ≤ sizeLine then some x.length else none
  | d => (seqOf S d).map List.length
def truth (S : Sto) : D → Option Bool
  | .non => some false
  | .bl b => some b
  | .int i => some (i != 0)
  | .str x => if x.length ≤ sizeLine then some ((x.length : Int) != 0) else none
  | d => (seqOf S d).map fun xs => !xs.isEmpty
def okP (d : D) : Bool := d.toP.canLay0 && decide (d.toP.depth ≤ 60)
def eqD (a b : D) : Bool := PyData.eqv a.toP b.toP
def ltD (a b : D) : Bool := PySem.W.dataLt a.toP b.toP
def alikeD (a b : D) : Bool := PySem.W.alike a.toP b.toP
def cutL {α : Type} (xs : List α) (lo hi : Option Int) : List α :=
  (xs.drop (HT.sIx xs.length 0 lo)).take (HT.sIx xs.length xs.length hi - HT.sIx xs.length 0 lo)
def textD (d : D) : Option Str := if d.pure && d.toP.showable && okP d && decide (d.toP.shown.length ≤ sizeLine) then some d.toP.shown else none

inductive BOp where
  | add | sub | mul | fdiv | mod | pow
  deriving DecidableEq
inductive COp where
  | eq | ne | lt | le | gt | ge | isNon | notNon | inn | notIn
  deriving DecidableEq
inductive P1 where
  | len | abs | int | str | sum | tuple | list | set | sorted | repr | all | any
  deriving DecidableEq

def mulOk (i j : Int) : Bool := (decide (-(2 ^ 64) < i) && decide (i < 2 ^ 64)) || (decide (-(2 ^ 64) < j) && decide (j < 2 ^ 64)) || decide (i.natAbs.log2 + j.natAbs.log2 < 1000000)
def bopI (o : BOp) (i j : Int) : Option Int := match o with
  | .add => some (i + j)
  | .sub => some (i - j)
  | .mul => if mulOk i j then some (i * j) else none
  | .fdiv => if 0 < j ∧ j.natAbs.log2 < 9000 then some (i / j) else none
  | .mod => if 0 < j then some (i % j) else none
  | .pow => if 0 ≤ j ∧ (Builtin.Int.intBits i : Int) * j ≤ 2 ^ 27 then some (i ^ j.toNat) else none
def bopInt (o : BOp) (a b : D) (S : Sto) : Res D := match a, b with
  | .int i, .int j => match bopI o i j with
    | some k => .ok (.int k) S
    | none => .bad
  | _, _ => .bad
def addLst (a b : D) (S : Sto) : Res D := match listOf S a, listOf S b with
  | some xs, some ys => if xs.length + ys.length ≤ sizeLine then .ok (.lst (xs ++ ys)) S else .bad
  | _, _ => .bad
def bopAdd (a b : D) (S : Sto) : Res D := match a with
  | .int i => match b with
    | .int j => .ok (.int (i + j)) S
    | _ => .bad
  | .str x => match b with
    | .str y => if x.length + y.length ≤ sizeLine then .ok (.str (x ++ y)) S else .bad
    | _ => .bad
  | .tup xs => match b with
    | .tup ys => if xs.length + ys.length ≤ sizeLine then .ok (.tup (xs ++ ys)) S else .bad
    | _ => .bad
  | a => addLst a b S
/-- a sequence so many times: 1 to 1000 times, not empty -/
def repOk (n : Nat) (k : Int) : Bool := decide (0 < n) && decide (n ≤ 1000) && decide (1 ≤ k) && decide (k ≤ 1000)
def repOkT (n : Nat) (k : Int) : Bool := decide (0 < n) && decide (n ≤ 1000) && decide (1 ≤ k) && decide (k ≤ 10000)
def bopMul (a b : D) (S : Sto) : Res D := match b with
  | .int j => match a with
    | .int i => if mulOk i j then .ok (.int (i * j)) S else .bad
    | .tup xs => if repOkT xs.length j then .ok (.tup (List.replicate j.toNat xs).flatten) S else .bad
    | a => match listOf S a with
      | some xs => if repOk xs.length j then .ok (.lst (List.replicate j.toNat xs).flatten) S else .bad
      | none => .bad
  | _ => .bad
def bop (o : BOp) (a b : D) (S : Sto) : Res D := match o with
  | .add => bopAdd a b S
  | .mul => bopMul a b S
  | o => bopInt o a b S
def repLst (a b : D) (S : Sto) : Res D := match b with
  | .int j => match listOf S a with
    | some xs => if repOk xs.length j then .ok (.lst (List.replicate j.toNat xs).flatten) S else .bad
    | none => .bad
  | _ => .bad
def isNonD : D → Bool
  | .non => true
  | _ => false
/-- a == b: two texts, or data that is seen as a whole -/
def eqC (S : Sto) (a b : D) : Option Bool := match a, b with
  | .str x, .str y => some (decide (x = y))
  | a, b => match see S a, see S b with
    | some a, some b => if okP a && okP b then some (eqD a b) else none
    | _, _ => none
def cop (o : COp) (a b : D) (S : Sto) : Option Bool := match o with
  | .isNon => match b with
    | .non => some (isNonD a)
    | _ => none
  | .notNon => match b with
    | .non => some (!isNonD a)
    | _ => none
  | .eq => eqC S a b
  | .ne => (eqC S a b).map (!·)
  | .lt => match a, b with
    | .int i, .int j => some (decide (i < j))
    | .tup xs, .tup ys => if pureL xs && pureL ys && okP (.tup xs) && okP (.tup ys) && alikeD (.tup xs) (.tup ys) then some (ltD (.tup xs) (.tup ys)) else none
    | _, _ => none
  | .le => match a, b with
    | .int i, .int j => some (decide (i ≤ j))
    | _, _ => none
  | .gt => match a, b with
    | .int i, .int j => some (decide (j < i))
    | _, _ => none
  | .ge => match a, b with
    | .int i, .int j => some (decide (j ≤ i))
    | _, _ => none
  | .inn => match seqOf S b with
    | some xs => if a.pure && pureL xs && okP a && okP (.tup xs) then some (xs.any fun y => eqD y a) else none
    | none => none
  | .notIn => match seqOf S b with
    | some xs => if a.pure && pureL xs && okP a && okP (.tup xs) then some (!xs.any fun y => eqD y a) else none
    | none => none
def intsOf : List D → Option (List Int)
  | [] => some []
  | .int i :: xs => (intsOf xs).map (i :: ·)
  | _ => none
def blsOf : List D → Option (List Bool)
  | [] => some []
  | .bl b :: xs => (blsOf xs).map (b :: ·)
  | _ => none
/-- each one once, as first met -/
def dedup : List D → List D → List D
  | seen, [] => seen.reverse
  | seen, x :: xs => if seen.any (fun y => eqD y x) then dedup seen xs else dedup (x :: seen) xs
mutual
/-- what may lie in a set: whole numbers, tuples of such -/
def D.keyable : D → Bool
  | .int _ => true
  | .tup xs => keyableL xs
  | _ => false
def keyableL : List D → Bool
  | [] => true
  | x :: xs => x.keyable && keyableL xs
end
theorem keyableL_eq : ∀ xs : List D, keyableL xs = xs.all D.keyable
  | [] => rfl
  | x :: xs => by simp [keyableL, keyableL_eq xs]
def isTupD : D → Bool
  | .tup _ => true
  | _ => false
def isIntD : D → Bool
  | .int _ => true
  | _ => false
/-- what a set may be made of today -/
def setableT (xs : List D) : Bool := xs.all (fun x => isTupD x && x.keyable && decide (x.toP.depth ≤ 8)) && decide (xs.length < 64)
def setable (xs : List D) : Bool := setableT xs || (xs.all isIntD && decide (xs.length < 4000))
def sortable (xs : List D) : Bool := xs.all (fun x => xs.all fun y => alikeD x y) && (xs.all (fun x => match x with | .tup (_ :: _) => true | _ => false) || xs.all fun x => match x with | .int _ => true | .str _ => true | _ => false)
/-- put in at its place, ahead of all that are not lesser -/
def insD (x : D) : List D → List D
  | [] => [x]
  | y :: ys => if ltD y x then y :: insD x ys else x :: y :: ys
def sortD : List D → List D
  | [] => []
  | x :: xs => insD x (sortD xs)
def p1 (p : P1) (a : D) (S : Sto) : Res D := match p with
  | .len => match lenOf S a with
    | some n => .ok (.int n) S
    | none => .bad
  | .abs => match a with
    | .int i => .ok (.int (if i < 0 then -i else i)) S
    | _ => .bad
  | .int => match a with
    | .int i => .ok (.int i) S
    | .bl b => .ok (.int (if b then 1 else 0)) S
    | _ => .bad
  | .str => match a with
    | .int i => if i.natAbs.log2 < 1920 then .ok (.str (toString i)) S else .bad
    | _ => .bad
  | .sum => match listOf S a with
    | some xs => match intsOf xs with
      | some ns => .ok (.int ns.sum) S
      | none => .bad
    | none => .bad
  | .tuple => match a with
    | .tup xs => .ok (.tup xs) S
    | a => match listOf S a with
      | some xs => .ok (.tup xs) S
      | none => .bad
  | .list => match seqOf S a with
    | some xs => .ok (.lst xs) S
    | none => .bad
  | .set => match seqOf S a with
    | some xs => if setable xs then .ok (.set (dedup [] xs)) S else .bad
    | none => .bad
  | .sorted => match a with
    | .set xs => if sortable xs && okP (.tup xs) then .ok (.lst (sortD xs)) S else .bad
    | a => match listOf S a with
      | some xs => if pureL xs && sortable xs && okP (.tup xs) then .ok (.lst (sortD xs)) S else .bad
      | none => .bad
  | .repr => match see S a with
    | some a => match textD a with
      | some x => .ok (.str x) S
      | none => .bad
    | none => .bad
  | .all => match listOf S a with
    | some xs => match blsOf xs with
      | some bs => .ok (.bl (bs.all id)) S
      | none => .bad
    | none => .bad
  | .any => match listOf S a with
    | some xs => match blsOf xs with
      | some bs => .ok (.bl (bs.any id)) S
      | none => .bad
    | none => .bad
end DL

namespace DL
open PySem
/-! ### the own syntax -/
inductive Tg where
  | name (i : Nat) | tup (ts : List Tg)
  deriving Inhabited
/-- expressions; what a for or a comprehension walks begins with i -/
inductive E where
  | var (i : Nat) | cst (d : D) | glb (x : Str)
  | star (e : E) | tup (es : List E) | lst (es : List E) | thaw (e : E)
  | bin (o : BOp) (a b : E) | neg (a : E) | not (a : E)
  | cmp (o : COp) (a b : E) | chain (o1 o2 : COp) (a b c : E)
  | and (a b : E) | or (a b : E) | ite (c a b : E)
  | call (x : Str) (es : List E) | callM (x : Str) (es : List E)
  | prim (p : P1) (a : E) | isi (a : E) (ty : String)
  | max2 (a b : E) | min2 (a b : E)
  | idx (a i : E) | sl (a lo hi : E) | nil | rev (a : E)
  | upper (a : E) | rgs (t : Bool) (it : E)
  /-- lists anew: a + b, a * n -/
  | addL (a b : E) | repL (a b : E)
  | lc (elt : E) (tg : Tg) (own : List Nat) (it : E) (ifs : List E)
  /-- a def as a value, the def in a name called, _law_heard(lambda: b), isinstance(a, own error), a.value -/
  | fnv (x : Str) | callV (i : Nat) (fs : List Str) (es : List E) | heard (b : E) | isx (a : E) (x : Str) | val (a : E)
  | iseq (a : E) | irange1 (a : E) | irange2 (a b : E) | ienum (a : E) | izip (a b : E)
  deriving Inhabited
inductive Stm where
  | asg (t : Tg) (e : E) | par (is : List Nat) (es : List E) | seti (o i v : E)
  | expr (e : E) | app (o v : E) | ext (o v : E)
  | ifs (c : E) (a b : List Stm) | for (t : Tg) (it : E) (b : List Stm) | whil (c : E) (b : List Stm)
  | ret (e : E) | retN | raise (c : Str) (e : E) | pass | brk | cont
  /-- any statement: one that is not come to -/
  | any
  /-- li = [(lambda: b, w, v)], .. appended; for ci, wi, vi in li: hi = _law_heard(ci)[0], body -/
  | calls (li ci wi vi hi : Nat) (bs : List E) (ws : List Str) (vs : List E) (body : List Stm)
  deriving Inhabited

abbrev Go := Str → List D → Sto → Res D
structure Cfg where
  call : Go
  callM : Go
  glb : Str → Option D
  fuel : Nat
  /-- own errors that are told apart -/
  excs : List Str
  /-- calls from deeper within -/
  lows : List Go
/-- two calls deeper -/
def Cfg.down2 (c : Cfg) : Option Cfg := match c.lows with
  | _ :: g :: r => some { call := fun y es S => leave S.length (g y es S), callM := fun y es S => leaveM S.length (g y es S), glb := c.glb, fuel := c.fuel, excs := c.excs, lows := r }
  | _ => none
/-- what is heard of a call -/
def heardR (xs : List Str) (r : Res D) : Res D := match r with
  | .ok d S => .ok (.tup [.non, d]) S
  | .exc x v S => if xs.contains x then .ok (.tup [.err x v, .non]) S else .bad
  | .bad => .bad
/-- is it such an own error? -/
def isxR (xs : List Str) (x : Str) (d : D) (S : Sto) : Res D := match d with
  | .err y _ => if xs.contains y then .ok (.bl (decide (y = x))) S else .bad
  | .non => .ok (.bl false) S
  | _ => .bad
def valR (xs : List Str) (d : D) (S : Sto) : Res D := match d with
  | .err y v => if xs.contains y then .ok v S else .bad
  | _ => .bad
def fnOfD : Option (Option D) → Option Str
  | some (some (.fn x [])) => some x
  | _ => none

/-! ### what it comes to -/
mutual
def bindT : Tg → D → Env → Option Env
  | .name i, d, ρ => some (ρ.set i (some d))
  | .tup ts, d, ρ => match d with
    | .tup xs => bindTs ts xs ρ
    | _ => none
def bindTs : List Tg → List D → Env → Option Env
  | [], [], ρ => some ρ
  | t :: ts, x :: xs, ρ => (bindT t x ρ).bind fun ρ' => bindTs ts xs ρ'
  | _, _, _ => none
end
/-- what is walked: items that stand, or a list of the store by its places -/
inductive Src where
  | fixed (xs : List D) | live (n : Nat) (k : Nat)
def srcOf (S : Sto) (d : D) : Option Src := match d with
  | .tup xs => some (.fixed xs)
  | .lst xs => some (.fixed xs)
  | .ref n => match S[n]? with
    | some (.lst xs) => some (.live n xs.length)
    | _ => none
  | _ => none
def itemAt (S : Sto) (n k i : Nat) : Option D := match S[n]? with
  | some (.lst xs) => if xs.length = k then xs[i]? else none
  | _ => none
def rangeD (i j : D) : Option (List D) := match i, j with
  | .int i, .int j => if -(2 ^ 62) ≤ i ∧ i < 2 ^ 62 ∧ -(2 ^ 62) ≤ j ∧ j < 2 ^ 62 then some ((List.range (j - i).toNat).map fun k : Nat => .int (i + (k : Int))) else none
  | _, _ => none
def enumD : Nat → List D → List D
  | _, [] => []
  | i, x :: xs => .tup [.int (i : Int), x] :: enumD (i + 1) xs
def zipD : List D → List D → List D
  | x :: xs, y :: ys => .tup [x, y] :: zipD xs ys
  | _, _ => []
def wipeE (ρ : Env) : List Nat → Env
  | [] => ρ
  | v :: vs => (wipeE ρ vs).set v none
/-- what is raised within a comprehension isn't told -/
def noexc {α : Type} (r : Res α) : Res α := match r with
  | .exc _ _ _ => .bad
  | r => r
/-- one turn of a comprehension, then the others -/
def compTurn (tg : Tg) (cond : Env → Sto → Res Bool) (elt : Env → Sto → Res D) (ρ : Env) (acc : List D) (x : D) (S : Sto) (go : List D → Sto → Res (List D)) : Res (List D) := match bindT tg x ρ with
  | none => .bad
  | some ρ' => (noexc (cond ρ' S)).bind fun b S1 =>
    if b then (noexc (elt ρ' S1)).bind fun d S2 => if acc.length < sizeLine then go (d :: acc) S2 else .bad
    else go acc S1
/-- a comprehension over items that stand -/
def compL (tg : Tg) (cond : Env → Sto → Res Bool) (elt : Env → Sto → Res D) (ρ : Env) : List D → List D → Sto → Res (List D)
  | acc, [], S => .ok acc.reverse S
  | acc, x :: xs, S => compTurn tg cond elt ρ acc x S fun acc S1 => compL tg cond elt ρ acc xs S1
def compLive (tg : Tg) (cond : Env → Sto → Res Bool) (elt : Env → Sto → Res D) (ρ : Env) (n L : Nat) : Nat → List D → Sto → Res (List D)
  | 0, acc, S => match S[n]? with
    | some (.lst xs) => if xs.length = L then .ok acc.reverse S else .bad
    | _ => .bad
  | k + 1, acc, S => match itemAt S n L (L - (k + 1)) with
    | none => .bad
    | some x => compTurn tg cond elt ρ acc x S fun acc S1 => compLive tg cond elt ρ n L k acc S1
def comp (tg : Tg) (cond : Env → Sto → Res Bool) (elt : Env → Sto → Res D) (ρ : Env) (src : Src) (S : Sto) : Res (List D) := match src with
  | .fixed xs => compL tg cond elt ρ [] xs S
  | .live n k => compLive tg cond elt ρ n k k [] S
/-- a bound of a slice: left out, or a whole number -/
def someI : D → Option (Option Int)
  | .int i => some (some i)
  | _ => none
def boundOf (e : E) (d : D) : Option (Option Int) := match e with
  | .nil => some none
  | _ => someI d
def sliceD (a : D) (l h : Option Int) (S : Sto) : Res D := match a with
  | .tup xs => .ok (.tup (cutL xs l h)) S
  | .str x => if x.length ≤ sizeLine then .ok (.str (L2.cutS x l h)) S else .bad
  | .scr ns => .ok (.lst (cutL (ns.map .int) l h)) S
  | a => match listOf S a with
    | some xs => .ok (.lst (cutL xs l h)) S
    | none => .bad
def indexD (a i : D) (S : Sto) : Res D := match i with
  | .int i => match a with
    | .str x => if x.length ≤ sizeLine then (match L2.atI x.cps.toList i with | some c => .ok (.str ⟨#[c]⟩) S | none => .bad) else .bad
    | a => match seqOf S a with
      | some xs => match L2.atI xs i with
        | some d => .ok d S
        | none => .bad
      | none => .bad
  | _ => .bad
def revD (a : D) (S : Sto) : Res D := match a with
  | .tup xs => .ok (.tup xs.reverse) S
  | a => match listOf S a with
    | some xs => .ok (.lst xs.reverse) S
    | none => .bad

/-- list(range(..)), tuple(range(..)) -/
def rgsD (t : Bool) (src : Src) (S : Sto) : Res D := match src with
  | .fixed xs => if xs.length ≤ 2 ^ 24 then (if t then .ok (.tup xs) S else .ok (.lst xs) S) else .bad
  | _ => .bad

mutual
def evE (c : Cfg) : E → Env → Sto → Res D
  | .var i, ρ, S => match ρ[i]? with
    | some (some d) => .ok d S
    | _ => .bad
  | .cst d, _, S => .ok d S
  | .glb x, _, S => match c.glb x with
    | some d => .ok d S
    | none => .bad
  | .nil, _, S => .ok .non S
  | .tup es, ρ, S => (evL c es ρ S).bind fun xs S1 => if xs.length ≤ sizeLine then .ok (.tup xs) S1 else .bad
  | .lst es, ρ, S => (evL c es ρ S).bind fun xs S1 => if xs.length ≤ sizeLine then .ok (.lst xs) S1 else .bad
  | .thaw e, ρ, S => (evE c e ρ S).bind fun d S1 => match d with
    | .lst xs => .ok (.ref S1.length) (S1 ++ [.lst xs])
    | _ => .bad
  | .bin o a b, ρ, S => (evE c a ρ S).bind fun x S1 => (evE c b ρ S1).bind fun y S2 => bop o x y S2
  | .neg a, ρ, S => (evE c a ρ S).bind fun x S1 => match x with
    | .int i => .ok (.int (-i)) S1
    | _ => .bad
  | .not a, ρ, S => (evE c a ρ S).bind fun x S1 => match truth S1 x with
    | some b => .ok (.bl (!b)) S1
    | none => .bad
  | .cmp o a b, ρ, S => (evE c a ρ S).bind fun x S1 => (evE c b ρ S1).bind fun y S2 => match cop o x y S2 with
    | some k => .ok (.bl k) S2
    | none => .bad
  | .chain o1 o2 a b d, ρ, S => (evE c a ρ S).bind fun x S1 => (evE c b ρ S1).bind fun y S2 => match cop o1 x y S2 with
    | some true => (evE c d ρ S2).bind fun z S3 => match cop o2 y z S3 with
      | some k => .ok (.bl k) S3
      | none => .bad
    | some false => .ok (.bl false) S2
    | none => .bad
  | .and a b, ρ, S => (evE c a ρ S).bind fun x S1 => match truth S1 x with
    | some true => evE c b ρ S1
    | some false => .ok x S1
    | none => .bad
  | .or a b, ρ, S => (evE c a ρ S).bind fun x S1 => match truth S1 x with
    | some true => .ok x S1
    | some false => evE c b ρ S1
    | none => .bad
  | .ite q a b, ρ, S => (evE c q ρ S).bind fun x S1 => match truth S1 x with
    | some true => evE c a ρ S1
    | some false => evE c b ρ S1
    | none => .bad
  | .call x es, ρ, S => (evL c es ρ S).bind fun xs S1 => c.call x xs S1
  | .callM x es, ρ, S => (evL c es ρ S).bind fun xs S1 => c.callM x xs S1
  | .prim p a, ρ, S => (evE c a ρ S).bind fun x S1 => p1 p x S1
  | .isi a ty, ρ, S => (evE c a ρ S).bind fun x S1 => match tyOf S1 x with
    | some t => .ok (.bl (isiB t ty)) S1
    | none => .bad
  | .max2 a b, ρ, S => (evE c a ρ S).bind fun x S1 => (evE c b ρ S1).bind fun y S2 => match x, y with
    | .int i, .int j => .ok (.int (if j > i then j else i)) S2
    | _, _ => .bad
  | .min2 a b, ρ, S => (evE c a ρ S).bind fun x S1 => (evE c b ρ S1).bind fun y S2 => match x, y with
    | .int i, .int j => .ok (.int (if j < i then j else i)) S2
    | _, _ => .bad
  | .idx a i, ρ, S => (evE c a ρ S).bind fun x S1 => (evE c i ρ S1).bind fun y S2 => indexD x y S2
  | .sl a lo hi, ρ, S => (evE c a ρ S).bind fun x S1 => (evE c lo ρ S1).bind fun l S2 => match boundOf lo l with
    | some l => (evE c hi ρ S2).bind fun h S3 => match boundOf hi h with
      | some h => sliceD x l h S3
      | none => .bad
    | none => .bad
  | .rev a, ρ, S => (evE c a ρ S).bind fun x S1 => revD x S1
  | .addL a b, ρ, S => (evE c a ρ S).bind fun x S1 => (evE c b ρ S1).bind fun y S2 => addLst x y S2
  | .repL a b, ρ, S => (evE c a ρ S).bind fun x S1 => (evE c b ρ S1).bind fun y S2 => repLst x y S2
  | .rgs t it, ρ, S => (evI c it ρ S).bind fun src S1 => rgsD t src S1
  | .upper a, ρ, S => (evE c a ρ S).bind fun x S1 => match x with
    | .str z => if z.length ≤ 100000 then .ok (.str (Txt.upper z)) S1 else .bad
    | _ => .bad
  | .lc elt tg own it ifs, ρ, S => (evI c it ρ S).bind fun src S1 =>
      (comp tg (evC c ifs) (evE c elt) (wipeE ρ own) src S1).bind fun xs S2 => .ok (.lst xs) S2
  | .fnv x, _, S => .ok (.fn x []) S
  | .callV i fs es, ρ, S => match fnOfD ρ[i]? with
    | some x => if fs.contains x then (evL c es ρ S).bind fun xs S1 => c.call x xs S1 else .bad
    | none => .bad
  | .heard b, ρ, S => match c.down2 with
    | some c2 => heardR c.excs (evE c2 b ρ S)
    | none => .bad
  | .isx a x, ρ, S => (evE c a ρ S).bind fun d S1 => isxR c.excs x d S1
  | .val a, ρ, S => (evE c a ρ S).bind fun d S1 => valR c.excs d S1
  | _, _, _ => .bad
def evL (c : Cfg) : List E → Env → Sto → Res (List D)
  | [], _, S => .ok [] S
  | .star e :: es, ρ, S => (evE c e ρ S).bind fun x S1 => match seqOf S1 x with
    | some xs => (evL c es ρ S1).bind fun ys S2 => .ok (xs ++ ys) S2
    | none => .bad
  | e :: es, ρ, S => (evE c e ρ S).bind fun x S1 => (evL c es ρ S1).bind fun ys S2 => .ok (x :: ys) S2
def evC (c : Cfg) : List E → Env → Sto → Res Bool
  | [], _, S => .ok true S
  | e :: es, ρ, S => (evE c e ρ S).bind fun x S1 => match truth S1 x with
    | some true => evC c es ρ S1
    | some false => .ok false S1
    | none => .bad
def evI (c : Cfg) : E → Env → Sto → Res Src
  | .iseq a, ρ, S => (evE c a ρ S).bind fun x S1 => match srcOf S1 x with
    | some src => .ok src S1
    | none => .bad
  | .irange1 a, ρ, S => (evE c a ρ S).bind fun x S1 => match rangeD (.int 0) x with
    | some xs => .ok (.fixed xs) S1
    | none => .bad
  | .irange2 a b, ρ, S => (evE c a ρ S).bind fun x S1 => (evE c b ρ S1).bind fun y S2 => match rangeD x y with
    | some xs => .ok (.fixed xs) S2
    | none => .bad
  | .ienum a, ρ, S => (evE c a ρ S).bind fun x S1 => match x with
    | .tup xs => .ok (.fixed (enumD 0 xs)) S1
    | .lst xs => .ok (.fixed (enumD 0 xs)) S1
    | _ => .bad
  | .izip a b, ρ, S => (evE c a ρ S).bind fun x S1 => (evE c b ρ S1).bind fun y S2 => match x, y with
    | .tup xs, .tup ys => .ok (.fixed (zipD xs ys)) S2
    | .lst xs, .lst ys => .ok (.fixed (zipD xs ys)) S2
    | _, _ => .bad
  | _, _, _ => .bad
end
end DL

namespace DL
open PySem
/-! ### statements -/
def loopL (tg : Tg) (body : Env → Sto → Out) : List D → Env → Sto → Out
  | [], ρ, S => .next ρ S
  | x :: xs, ρ, S => match bindT tg x ρ with
    | none => .bad
    | some ρ' => match body ρ' S with
      | .next ρ1 S1 => loopL tg body xs ρ1 S1
      | .cont ρ1 S1 => loopL tg body xs ρ1 S1
      | .brk ρ1 S1 => .next ρ1 S1
      | o => o
def loopLive (tg : Tg) (body : Env → Sto → Out) (n L : Nat) : Nat → Env → Sto → Out
  | 0, ρ, S => match S[n]? with
    | some (.lst xs) => if xs.length = L then .next ρ S else .bad
    | _ => .bad
  | k + 1, ρ, S => match itemAt S n L (L - (k + 1)) with
    | none => .bad
    | some x => match bindT tg x ρ with
      | none => .bad
      | some ρ' => match body ρ' S with
        | .next ρ1 S1 => loopLive tg body n L k ρ1 S1
        | .cont ρ1 S1 => loopLive tg body n L k ρ1 S1
        | .brk ρ1 S1 => .next ρ1 S1
        | o => o
def loopW (cond : Env → Sto → Res Bool) (body : Env → Sto → Out) : Nat → Env → Sto → Out
  | 0, _, _ => .bad
  | k + 1, ρ, S => ofRes ρ (cond ρ S) fun b S1 => if b then (match body ρ S1 with
      | .next ρ1 S2 => loopW cond body k ρ1 S2
      | .cont ρ1 S2 => loopW cond body k ρ1 S2
      | .brk ρ1 S2 => .next ρ1 S2
      | o => o)
    else .next ρ S1
def loop (tg : Tg) (body : Env → Sto → Out) (src : Src) (ρ : Env) (S : Sto) : Out := match src with
  | .fixed xs => loopL tg body xs ρ S
  | .live n k => loopLive tg body n k k ρ S
/-- what is heard of a lambda's body -/
def hearB (c : Cfg) (b : E) (ρ : Env) (S : Sto) : Res D := match c.down2 with
  | some c2 => heardR c.excs (evE c2 b ρ S)
  | none => .bad
def fstT : D → Option D
  | .tup (e :: _) => some e
  | _ => none
/-- lambdas, words, values, one after another -/
def loopC (c : Cfg) (ci wi vi hi : Nat) (body : Env → Sto → Out) : List E → List Str → List D → Env → Sto → Out
  | b :: bs, w :: ws, v :: vs, ρ, S =>
    if ci < ρ.length then ofRes (((ρ.set ci none).set wi (some (.str w))).set vi (some v)) (hearB c b (((ρ.set ci none).set wi (some (.str w))).set vi (some v)) S) fun d S1 => match fstT d with
      | none => .bad
      | some e => match body ((((ρ.set ci none).set wi (some (.str w))).set vi (some v)).set hi (some e)) S1 with
        | .next ρ1 S2 => loopC c ci wi vi hi body bs ws vs ρ1 S2
        | .cont ρ1 S2 => loopC c ci wi vi hi body bs ws vs ρ1 S2
        | .brk ρ1 S2 => .next ρ1 S2
        | o => o
    else .bad
  | [], [], [], ρ, S => .next ρ S
  | _, _, _, _, _ => .bad
def evT (c : Cfg) (e : E) (ρ : Env) (S : Sto) : Res Bool := (evE c e ρ S).bind fun x S1 => match truth S1 x with
  | some b => .ok b S1
  | none => .bad
def setAll : Env → List Nat → List D → Option Env
  | ρ, [], [] => some ρ
  | ρ, i :: is, d :: ds => setAll (ρ.set i (some d)) is ds
  | _, _, _ => none
def setO (S : Sto) (o i v : D) : Option Sto := match o, i with
  | .ref n, .int k => match S[n]? with
    | some (.lst xs) => match L2.ixN xs.length k with
      | some j => some (S.set n (.lst (xs.set j v)))
      | none => none
    | _ => none
  | _, _ => none
def isRefD : D → Bool
  | .ref _ => true
  | _ => false
def appO (S : Sto) (o v : D) : Option Sto := match o with
  | .ref n => match S[n]? with
    | some (.lst xs) => if xs.length < sizeLine then some (S.set n (.lst (xs ++ [v]))) else none
    | _ => none
  | _ => none
def extO (S : Sto) (o v : D) : Option Sto := match o with
  | .ref n => match S[n]?, listOf S v with
    | some (.lst xs), some ys => if xs.length + ys.length ≤ sizeLine then some (S.set n (.lst (xs ++ ys))) else none
    | _, _ => none
  | _ => none
mutual
def evS (c : Cfg) : Stm → Env → Sto → Out
  | .asg t e, ρ, S => ofRes ρ (evE c e ρ S) fun d S1 => match bindT t d ρ with
    | some ρ' => .next ρ' S1
    | none => .bad
  | .par is es, ρ, S => ofRes ρ (evL c es ρ S) fun ds S1 => match setAll ρ is ds with
    | some ρ' => .next ρ' S1
    | none => .bad
  | .seti o i v, ρ, S => ofRes ρ (evE c v ρ S) fun v S1 => ofRes ρ (evE c o ρ S1) fun o S2 => ofRes ρ (evE c i ρ S2) fun i S3 => match setO S3 o i v with
    | some S4 => .next ρ S4
    | none => .bad
  | .expr e, ρ, S => ofRes ρ (evE c e ρ S) fun _ S1 => .next ρ S1
  | .app o v, ρ, S => ofRes ρ (evE c o ρ S) fun o S1 => if isRefD o then ofRes ρ (evE c v ρ S1) fun v S2 => match appO S2 o v with
      | some S3 => .next ρ S3
      | none => .bad
    else .bad
  | .ext o v, ρ, S => ofRes ρ (evE c o ρ S) fun o S1 => if isRefD o then ofRes ρ (evE c v ρ S1) fun v S2 => match extO S2 o v with
      | some S3 => .next ρ S3
      | none => .bad
    else .bad
  | .ifs q a b, ρ, S => ofRes ρ (evT c q ρ S) fun k S1 => if k then evSs c a ρ S1 else evSs c b ρ S1
  | .for t it b, ρ, S => ofRes ρ (evI c it ρ S) fun src S1 => loop t (evSs c b) src ρ S1
  | .whil q b, ρ, S => loopW (evT c q) (evSs c b) c.fuel ρ S
  | .ret e, ρ, S => ofRes ρ (evE c e ρ S) fun d S1 => .ret d S1
  | .retN, _, S => .ret .non S
  | .raise x e, ρ, S => ofRes ρ (evE c e ρ S) fun d S1 => .exc x d ρ S1
  | .pass, ρ, S => .next ρ S
  | .brk, ρ, S => .brk ρ S
  | .cont, ρ, S => .cont ρ S
  | .any, _, _ => .bad
  | .calls li ci wi vi hi bs ws vs b, ρ, S => if li < ρ.length then match evL c vs (ρ.set li none) S with
    | .ok ds S1 => loopC c ci wi vi hi (evSs c b) bs ws ds (ρ.set li none) S1
    | _ => .bad
    else .bad
def evSs (c : Cfg) : List Stm → Env → Sto → Out
  | [], ρ, S => .next ρ S
  | s :: ss, ρ, S => (evS c s ρ S).seq fun ρ1 S1 => evSs c ss ρ1 S1
end

/-- a def: its name, how many names it has, how many parameters, its body -/
structure Fn where
  name : Str
  names : List Str
  pars : Nat
  body : List Stm
structure Prg where
  fns : List Fn
  glb : Str → Option D
  /-- own errors -/
  excs : List Str
  fuel : Nat
  heard : Bool := false
def runFn (c : Cfg) (f : Fn) (ds : List D) (S : Sto) : Res D :=
  if ds.length = f.pars then match evSs c f.body (ds.map some ++ List.replicate (f.names.length - ds.length) none) S with
    | .next _ S1 => .ok .non S1
    | .ret d S1 => .ok d S1
    | .exc x v _ S1 => .exc x v S1
    | _ => .bad
  else .bad
/-- what the body of a def finds, of whatever calls come to -/
def cfgL (P : Prg) : List Go → Cfg
  | [] => { call := fun _ _ _ => .bad, callM := fun _ _ _ => .bad, glb := P.glb, fuel := P.fuel, excs := P.excs, lows := [] }
  | g :: r => { call := fun y es S => leave S.length (g y es S), callM := fun y es S => leaveM S.length (g y es S), glb := P.glb, fuel := P.fuel, excs := P.excs, lows := r }
/-- calls within n calls, n - 1 calls, .. -/
def goTab (P : Prg) : Nat → List Go
  | 0 => [fun _ _ _ => .bad]
  | n + 1 => (fun x ds S => match P.fns.find? (fun f => f.name == x) with
    | none => .bad
    | some f => runFn (cfgL P (goTab P n)) f ds S) :: goTab P n
/-- a call within n calls -/
def callF (P : Prg) (n : Nat) : Go := (goTab P n).headD fun _ _ _ => .bad
def cfgAt (P : Prg) (n : Nat) : Cfg := cfgL P (goTab P n)
theorem callF_zero (P : Prg) (x : Str) (ds : List D) (S : Sto) : callF P 0 x ds S = .bad := rfl
theorem callF_succ (P : Prg) (n : Nat) (x : Str) (ds : List D) (S : Sto) : callF P (n + 1) x ds S = match P.fns.find? (fun f => f.name == x) with
    | none => .bad
    | some f => runFn (cfgAt P n) f ds S := rfl
theorem goTab_eq (P : Prg) (n : Nat) : ∃ r, goTab P n = callF P n :: r := by
  cases n with
  | zero => exact ⟨[], rfl⟩
  | succ n => exact ⟨_, rfl⟩
@[simp] theorem cfg_call (P : Prg) (n : Nat) (y : Str) (es : List D) (S : Sto) : (cfgAt P n).call y es S = leave S.length (callF P n y es S) := by
  obtain ⟨r, e⟩ := goTab_eq P n
  unfold cfgAt
  rw [e]
  rfl
@[simp] theorem cfg_callM (P : Prg) (n : Nat) (y : Str) (es : List D) (S : Sto) : (cfgAt P n).callM y es S = leaveM S.length (callF P n y es S) := by
  obtain ⟨r, e⟩ := goTab_eq P n
  unfold cfgAt
  rw [e]
  rfl
@[simp] theorem cfg_glb (P : Prg) (n : Nat) : (cfgAt P n).glb = P.glb := by
  obtain ⟨r, e⟩ := goTab_eq P n
  unfold cfgAt
  rw [e]
  rfl
@[simp] theorem cfg_fuel (P : Prg) (n : Nat) : (cfgAt P n).fuel = P.fuel := by
  obtain ⟨r, e⟩ := goTab_eq P n
  unfold cfgAt
  rw [e]
  rfl
@[simp] theorem cfg_excs (P : Prg) (n : Nat) : (cfgAt P n).excs = P.excs := by
  obtain ⟨r, e⟩ := goTab_eq P n
  unfold cfgAt
  rw [e]
  rfl
@[simp] theorem cfg_down2 (P : Prg) (n : Nat) : (cfgAt P (n + 2)).down2 = some (cfgAt P n) := by
  obtain ⟨r, e⟩ := goTab_eq P n
  have e2 : goTab P (n + 2) = callF P (n + 2) :: callF P (n + 1) :: goTab P n := rfl
  unfold cfgAt Cfg.down2
  rw [e2, e]
  rfl
theorem down2_none (P : Prg) {n : Nat} (h : n < 2) : (cfgAt P n).down2 = none := by
  match n, h with
  | 0, _ => rfl
  | 1, _ => rfl
end DL
set_option Elab.async false
set_option linter.all false
set_option maxRecDepth 100000
set_option maxHeartbeats 1000000
/-! DL1: what data is on the machine (over HandS' values and heap); how a state follows another -/
namespace DL
open PySem PySem.Spec PyProof.Rows L2

/-- the program, the world, the written part -/
structure Kt where
  P : Program
  w : World
  K : PySem.W.Frag
  /-- what stands where no data leads -/
  hid : List Addr

mutual
/-- data as a key of the machine's -/
def D.toK : D → NestedKey
  | .int i => .num i
  | .str x => .text x
  | .tup xs => .tup (toKL xs)
  | _ => .none
def toKL : List D → List NestedKey
  | [] => []
  | x :: xs => x.toK :: toKL xs
end
/-- a set of tuples stands at a, its members at these addresses, in the machine's own order -/
structure SetN0 (w : World) (h : Heap) (a : Addr) (L : List (Addr × NestedKey)) : Prop where
  ex : ∃ (es : Array (Int × Value)) (ep : Nat) (t : SetTable), (∃ o, h.get? a = some o ∧ o.ExactSet ∧ o.data = .set es ep t) ∧
    es.toList = (L.map fun p => (p.2.hash w, Value.ref p.1)) ∧ TabOk t (L.map fun p => p.2.hash w) ∧ (L.map (·.2)).Nodup ∧ t.plain = true ∧
    (w.params.followText "set-order" = true ∨ t.led = true) ∧ L.length * 5 < t.mask * 3 ∧ L.length < 64
def setHO (w : World) (a : Addr) (L : List (Addr × NestedKey)) : HO := .ext fun h => SetN0 w h a L

/-- a list that nobody writes -/
def FzL (K : PySem.W.Frag) (H : Hp) (p : Addr) (vs : List V) : Prop := (∃ o, H p = some (.frz o (.lst vs))) ∨
  ∃ (o : Obj) (its : Array Value) (n : Nat), K.lookup p = some o ∧ o.cls = .type "list" ∧ o.dict = none ∧ o.data = .seq its n ∧ its.size ≤ sizeLine ∧ Vals vs its.toList
theorem FzL.sq {K : PySem.W.Frag} {H : Hp} {p : Addr} {vs : List V} (h : FzL K H p vs) : SqL K H p vs := by
  rcases h with ⟨o, h⟩ | h
  · exact .inl (.inr ⟨o, h⟩)
  · exact .inr h
/-- an own error that has been caught stands at a -/
def ErrO (cls : Value) (d : Option Addr) (a : Addr) : HO := .ext fun h => ∃ (oe : Obj) (vs : Array Value), h.get? a = some oe ∧ Zc cls d oe ∧ oe.data = .fields vs
/-- not one of the things that the machine itself leans on -/
structure Live (o : HO) : Prop where
  tup : ∀ xs, o ≠ .tup xs
  frz : ∀ b u, o ≠ .frz b u
  tbl : ∀ ps, o ≠ .tbl ps
  code : ∀ c q, o ≠ LamX.CodeO c q
  xd : ∀ fs, o ≠ .xd fs
theorem live_lst {vs : List V} : Live (.lst vs) := ⟨(fun _ z => by cases z), (fun _ _ z => by cases z), (fun _ z => by cases z), (fun _ _ z => by unfold LamX.CodeO at z; cases z), fun _ z => by cases z⟩
/-- the defs of the program's top, their tables of code objects -/
def defNames (P : Program) : List Str := P.main.body.filterMap fun st => match st with
  | .FunctionDef name .. => some name
  | _ => none
def lamQ (x : Str) : Str := ((x ++ ".<locals>." : Str) ++ "<lambda>" : Str)
def tabsOf (P : Program) (K : PySem.W.Frag) : List (Addr × Str) := (defNames P).map fun x => ((He.cT K (x, none)).2, lamQ x)
/-- a set of whole numbers stands at p -/
def SetI (k : Kt) (H : Hp) (p : Addr) (xs : List D) : Prop := ∃ (ns : List Int) (f : Int → Bool) (c : Nat), xs = ns.map D.int ∧ ns.Nodup ∧ (∀ j, f j = true ↔ j ∈ ns) ∧ H p = some (SetO k.w p f c)
mutual
/-- the value v is the data d; m: where the store's objects stand -/
def Rp (k : Kt) (m : List Addr) (H : Hp) : D → V → Prop
  | .non, v => v = .non
  | .bl b, v => v = .bl b
  | .int i, v => v = .int i
  | .str x, v => v = .str x
  | .tup xs, v => ∃ p vs, v = .ref p ∧ SqT k.K H p vs ∧ RpL k m H xs vs
  | .lst xs, v => ∃ p vs, v = .ref p ∧ H p = some (.lst vs) ∧ (p ∉ m ∧ p ∉ k.hid) ∧ RpL k m H xs vs
  | .ref n, v => ∃ p, m[n]? = some p ∧ v = .ref p
  | .fn x xs, v => xs = [] ∧ v = .ref (He.ga k.K x)
  | .scr ns, v => ∃ p, v = .ref p ∧ FzL k.K H p (ns.map V.int)
  | .err x d, v => ∃ a dx fs u, v = .ref a ∧ (a ∉ m ∧ a ∉ k.hid) ∧ (dx ∉ m ∧ dx ∉ k.hid) ∧ H a = some (ErrO (.ref (He.ga k.K x)) (some dx) a) ∧ H dx = some (.xd fs) ∧ fs.lookup ("value" : Str) = some u ∧ Rp k m H d u
  | .set xs, v => ∃ p, v = .ref p ∧ (p ∉ m ∧ p ∉ k.hid) ∧
      ((∃ (L : List Addr) (L2 : List (Addr × NestedKey)), RpL k m H xs (L.map V.ref) ∧ xs.all (fun x => isTupD x && x.keyable && decide (x.toP.depth ≤ 8)) = true ∧
          L2.Perm (L.zip (xs.map D.toK)) ∧ H p = some (setHO k.w p L2)) ∨ SetI k H p xs)
  | _, _ => False
def RpL (k : Kt) (m : List Addr) (H : Hp) : List D → List V → Prop
  | [], vs => vs = []
  | d :: ds, vs => ∃ v r, vs = v :: r ∧ Rp k m H d v ∧ RpL k m H ds r
end

theorem RpL.length {k : Kt} {m : List Addr} {H : Hp} : ∀ {ds : List D} {vs : List V}, RpL k m H ds vs → ds.length = vs.length
  | [], vs, h => by simp only [RpL] at h; subst h; rfl
  | d :: ds, vs, h => by
    simp only [RpL] at h
    obtain ⟨v, r, rfl, _, h2⟩ := h
    simp [RpL.length h2]
theorem RpL.get {k : Kt} {m : List Addr} {H : Hp} : ∀ {ds : List D} {vs : List V} {i : Nat} {d : D}, RpL k m H ds vs → ds[i]? = some d → ∃ v, vs[i]? = some v ∧ Rp k m H d v
  | [], _, _, _, _, e => by simp at e
  | d :: ds, vs, i, x, h, e => by
    simp only [RpL] at h
    obtain ⟨v, r, rfl, h1, h2⟩ := h
    cases i with
    | zero => simp at e; subst e; exact ⟨v, rfl, h1⟩
    | succ i => simpa using RpL.get h2 (by simpa using e)
theorem RpL.getV {k : Kt} {m : List Addr} {H : Hp} : ∀ {ds : List D} {vs : List V} {i : Nat} {v : V}, RpL k m H ds vs → vs[i]? = some v → ∃ d, ds[i]? = some d ∧ Rp k m H d v
  | [], vs, _, _, h, e => by simp only [RpL] at h; subst h; simp at e
  | d :: ds, vs, i, x, h, e => by
    simp only [RpL] at h
    obtain ⟨v, r, rfl, h1, h2⟩ := h
    cases i with
    | zero => simp at e; subst e; exact ⟨d, rfl, h1⟩
    | succ i => simpa using RpL.getV h2 (by simpa using e)
theorem RpL.append {k : Kt} {m : List Addr} {H : Hp} : ∀ {ds es : List D} {vs us : List V}, RpL k m H ds vs → RpL k m H es us → RpL k m H (ds ++ es) (vs ++ us)
  | [], _, _, _, h, h' => by simp only [RpL] at h; subst h; simpa using h'
  | d :: ds, es, vs, us, h, h' => by
    simp only [RpL] at h
    obtain ⟨v, r, rfl, h1, h2⟩ := h
    simp only [List.cons_append, RpL]
    exact ⟨v, r ++ us, rfl, h1, RpL.append h2 h'⟩
theorem RpL.one {k : Kt} {m : List Addr} {H : Hp} {d : D} {v : V} (h : Rp k m H d v) : RpL k m H [d] [v] := by
  simp only [RpL]; exact ⟨v, [], rfl, h, rfl⟩
theorem RpL.nil {k : Kt} {m : List Addr} {H : Hp} : RpL k m H [] [] := by simp only [RpL]
theorem RpL.cons {k : Kt} {m : List Addr} {H : Hp} {d : D} {v : V} {ds : List D} {vs : List V} (h : Rp k m H d v) (h' : RpL k m H ds vs) : RpL k m H (d :: ds) (v :: vs) := by
  simp only [RpL]; exact ⟨v, vs, rfl, h, h'⟩
theorem RpL.take {k : Kt} {m : List Addr} {H : Hp} : ∀ {ds : List D} {vs : List V} (n : Nat), RpL k m H ds vs → RpL k m H (ds.take n) (vs.take n)
  | [], vs, n, h => by simp only [RpL] at h; subst h; simp [RpL]
  | d :: ds, vs, n, h => by
    simp only [RpL] at h
    obtain ⟨v, r, rfl, h1, h2⟩ := h
    cases n with
    | zero => simp [RpL]
    | succ n => simpa using RpL.cons h1 (RpL.take n h2)
theorem RpL.drop {k : Kt} {m : List Addr} {H : Hp} : ∀ {ds : List D} {vs : List V} (n : Nat), RpL k m H ds vs → RpL k m H (ds.drop n) (vs.drop n)
  | [], vs, n, h => by simp only [RpL] at h; subst h; simp [RpL]
  | d :: ds, vs, n, h => by
    cases n with
    | zero => simpa using h
    | succ n =>
      simp only [RpL] at h
      obtain ⟨v, r, rfl, h1, h2⟩ := h
      simpa using RpL.drop n h2
theorem RpL.reverse {k : Kt} {m : List Addr} {H : Hp} : ∀ {ds : List D} {vs : List V}, RpL k m H ds vs → RpL k m H ds.reverse vs.reverse
  | [], vs, h => by simp only [RpL] at h; subst h; simp [RpL]
  | d :: ds, vs, h => by
    simp only [RpL] at h
    obtain ⟨v, r, rfl, h1, h2⟩ := h
    simpa using RpL.append (RpL.reverse h2) (RpL.one h1)
theorem RpL.set {k : Kt} {m : List Addr} {H : Hp} {x : D} {u : V} (hx : Rp k m H x u) : ∀ {ds : List D} {vs : List V} (i : Nat), RpL k m H ds vs → RpL k m H (ds.set i x) (vs.set i u)
  | [], vs, i, h => by simp only [RpL] at h; subst h; simp [RpL]
  | d :: ds, vs, i, h => by
    simp only [RpL] at h
    obtain ⟨v, r, rfl, h1, h2⟩ := h
    cases i with
    | zero => simpa using RpL.cons hx h2
    | succ i => simpa using RpL.cons h1 (RpL.set hx i h2)
theorem RpL.split {k : Kt} {m : List Addr} {H : Hp} : ∀ {ds es : List D} {vs : List V}, RpL k m H (ds ++ es) vs → ∃ a b, vs = a ++ b ∧ RpL k m H ds a ∧ RpL k m H es b
  | [], _, vs, h => ⟨[], vs, rfl, RpL.nil, by simpa using h⟩
  | d :: ds, es, vs, h => by
    simp only [List.cons_append, RpL] at h
    obtain ⟨v, r, rfl, h1, h2⟩ := h
    obtain ⟨a, b, rfl, h3, h4⟩ := RpL.split h2
    exact ⟨v :: a, b, rfl, RpL.cons h1 h3, h4⟩

/-- what an object of the store is on the machine -/
def ORp (k : Kt) (m : List Addr) (H : Hp) (p : Addr) : O → Prop
  | .lst xs => ∃ vs, H p = some (.lst vs) ∧ RpL k m H xs vs
  | _ => False
structure Sim (k : Kt) (m : List Addr) (S : Sto) (H : Hp) : Prop where
  len : m.length = S.length
  nd : m.Nodup
  at_ : ∀ (n : Nat) (o : O) (p : Addr), S[n]? = some o → m[n]? = some p → ORp k m H p o
  hid : ∀ p ∈ k.hid, p ∉ m ∧ ∃ o, H p = some o ∧ Live o
  tabs : LamX.Tabs (tabsOf k.P k.K) H
/-- nothing is tracked there, but a table perhaps -/
def Fre (H : Hp) (a : Addr) : Prop := ∀ o, H a = some o → ∃ ps, o = .tbl ps
theorem fre_none {H : Hp} {a : Addr} (h : H a = none) : Fre H a := fun o e => by rw [h] at e; cases e
theorem Fre.ne {H : Hp} {a b : Addr} {o : HO} (h : Fre H a) (e : H b = some o) (ho : ∀ ps, o ≠ .tbl ps) : b ≠ a := fun z => by
  subst z
  obtain ⟨ps, r⟩ := h o e
  exact ho ps r
/-- what stands aside from the store goes on standing -/
structure Step (m : List Addr) (H : Hp) (m' : List Addr) (H' : Hp) : Prop where
  pre : ∃ e, m' = m ++ e
  new : ∀ p ∈ m', p ∉ m → Fre H p
  keep : ∀ b o, H b = some o → b ∉ m → (∀ ps, o ≠ .tbl ps) → H' b = some o
  tups : ∀ b xs, H b = some (.tup xs) → H' b = some (.tup xs)
  frzs : ∀ b o u, H b = some (.frz o u) → H' b = some (.frz o u)
theorem Step.refl {m : List Addr} {H : Hp} : Step m H m H := ⟨⟨[], by simp⟩, fun _ h h' => absurd h h', fun _ _ h _ _ => h, fun _ _ h => h, fun _ _ _ h => h⟩
theorem Step.mem {m m' : List Addr} {H H' : Hp} (s : Step m H m' H') {p : Addr} (h : p ∈ m) : p ∈ m' := by
  obtain ⟨e, rfl⟩ := s.pre; simp [h]
theorem Step.get {m m' : List Addr} {H H' : Hp} (s : Step m H m' H') {n : Nat} {p : Addr} (h : m[n]? = some p) : m'[n]? = some p := by
  obtain ⟨e, rfl⟩ := s.pre
  rw [List.getElem?_append_left (List.getElem?_eq_some_iff.mp h).1]; exact h
theorem Step.notin {m m' : List Addr} {H H' : Hp} (s : Step m H m' H') {p : Addr} {o : HO} (h : H p = some o) (hm : p ∉ m) (ht : ∀ ps, o ≠ .tbl ps) : p ∉ m' := fun hp => (s.new p hp hm).ne h ht rfl
theorem Step.trans {m m1 m2 : List Addr} {H H1 H2 : Hp} (a : Step m H m1 H1) (b : Step m1 H1 m2 H2) : Step m H m2 H2 where
  pre := by
    obtain ⟨e, rfl⟩ := a.pre
    obtain ⟨e', rfl⟩ := b.pre
    exact ⟨e ++ e', by simp⟩
  new := fun p hp hm o h => by
    by_cases ht : ∃ ps, o = .tbl ps
    · exact ht
    · have ht' : ∀ ps, o ≠ .tbl ps := fun ps z => ht ⟨ps, z⟩
      exact b.new p hp (a.notin h hm ht') o (a.keep p o h hm ht')
  keep := fun p o h hm ht => b.keep p o (a.keep p o h hm ht) (a.notin h hm ht) ht
  tups := fun p xs h => b.tups p xs (a.tups p xs h)
  frzs := fun p o u h => b.frzs p o u (a.frzs p o u h)
theorem Step.sqT {m m' : List Addr} {H H' : Hp} (s : Step m H m' H') {K : PySem.W.Frag} {p : Addr} {xs : List V} (h : SqT K H p xs) : SqT K H' p xs := by
  rcases h with (h | ⟨o, h⟩) | h
  · exact .inl (.inl (s.tups _ _ h))
  · exact .inl (.inr ⟨o, s.frzs _ _ _ h⟩)
  · exact .inr h

theorem Step.fzL {m m' : List Addr} {H H' : Hp} (s : Step m H m' H') {K : PySem.W.Frag} {p : Addr} {xs : List V} (h : FzL K H p xs) : FzL K H' p xs := by
  rcases h with ⟨o, h⟩ | h
  · exact .inl ⟨o, s.frzs _ _ _ h⟩
  · exact .inr h

theorem errO_tbl {cls : Value} {d : Option Addr} {a : Addr} {ps : Array Value} : ErrO cls d a ≠ .tbl ps := fun z => by
  unfold ErrO at z
  cases z
theorem setHO_tbl {w : World} {a : Addr} {L : List (Addr × NestedKey)} {ps : Array Value} : setHO w a L ≠ .tbl ps := fun z => by
  unfold setHO at z
  cases z
theorem setO_tbl {w : World} {a : Addr} {f : Int → Bool} {c : Nat} {ps : Array Value} : SetO w a f c ≠ .tbl ps := fun z => by
  unfold SetO at z
  cases z
mutual
theorem Rp.step {k : Kt} {m m' : List Addr} {H H' : Hp} (s : Step m H m' H') : ∀ {d : D} {v : V}, Rp k m H d v → Rp k m' H' d v
  | .non, _, h => by simpa only [Rp] using h
  | .bl _, _, h => by simpa only [Rp] using h
  | .int _, _, h => by simpa only [Rp] using h
  | .str _, _, h => by simpa only [Rp] using h
  | .tup xs, _, h => by
    simp only [Rp] at h ⊢
    obtain ⟨p, vs, rfl, h1, h2⟩ := h
    exact ⟨p, vs, rfl, s.sqT h1, RpL.step s h2⟩
  | .lst xs, _, h => by
    simp only [Rp] at h ⊢
    obtain ⟨p, vs, rfl, h1, h2, h3⟩ := h
    exact ⟨p, vs, rfl, s.keep _ _ h1 h2.1 (fun _ z => by cases z), ⟨s.notin h1 h2.1 (fun _ z => by cases z), h2.2⟩, RpL.step s h3⟩
  | .ref n, _, h => by
    simp only [Rp] at h ⊢
    obtain ⟨p, h1, rfl⟩ := h
    exact ⟨p, s.get h1, rfl⟩
  | .set xs, _, h => by
    simp only [Rp] at h ⊢
    obtain ⟨p, rfl, h2, h3⟩ := h
    rcases h3 with ⟨L, L2, h4, h5, h6, h7⟩ | ⟨ns, f, c, h4, h5, h6, h7⟩
    · exact ⟨p, rfl, ⟨s.notin h7 h2.1 (fun _ => setHO_tbl), h2.2⟩, .inl ⟨L, L2, RpL.step s h4, h5, h6, s.keep _ _ h7 h2.1 (fun _ => setHO_tbl)⟩⟩
    · exact ⟨p, rfl, ⟨s.notin h7 h2.1 (fun _ => setO_tbl), h2.2⟩, .inr ⟨ns, f, c, h4, h5, h6, s.keep _ _ h7 h2.1 (fun _ => setO_tbl)⟩⟩
  | .dic _ _, _, h => by simp only [Rp] at h
  | .fn _ _, _, h => by simpa only [Rp] using h
  | .err x d, _, h => by
    simp only [Rp] at h ⊢
    obtain ⟨a, dx, fs, u, rfl, h1, h2, h3, h4, h5, h6⟩ := h
    exact ⟨a, dx, fs, u, rfl, ⟨s.notin h3 h1.1 (fun _ => errO_tbl), h1.2⟩, ⟨s.notin h4 h2.1 (fun _ z => by cases z), h2.2⟩, s.keep _ _ h3 h1.1 (fun _ => errO_tbl), s.keep _ _ h4 h2.1 (fun _ z => by cases z), h5, Rp.step s h6⟩
  | .scr ns, _, h => by
    simp only [Rp] at h ⊢
    obtain ⟨p, rfl, h⟩ := h
    exact ⟨p, rfl, s.fzL h⟩
theorem RpL.step {k : Kt} {m m' : List Addr} {H H' : Hp} (s : Step m H m' H') : ∀ {ds : List D} {vs : List V}, RpL k m H ds vs → RpL k m' H' ds vs
  | [], _, h => by simpa only [RpL] using h
  | d :: ds, _, h => by
    simp only [RpL] at h ⊢
    obtain ⟨v, r, rfl, h1, h2⟩ := h
    exact ⟨v, r, rfl, Rp.step s h1, RpL.step s h2⟩
end

/-- the slots of a frame are what the environment says -/
structure EnvR (k : Kt) (m : List Addr) (H : Hp) (ρ : Env) (σ : L2.St) : Prop where
  len : ρ.length = σ.length
  at_ : ∀ (i : Nat) (d : D), ρ[i]? = some (some d) → ∃ v, σ[i]? = some (some v) ∧ Rp k m H d v
theorem EnvR.step {k : Kt} {m m' : List Addr} {H H' : Hp} {ρ : Env} {σ : L2.St} (h : EnvR k m H ρ σ) (s : Step m H m' H') : EnvR k m' H' ρ σ :=
  ⟨h.len, fun i d e => let ⟨v, h1, h2⟩ := h.at_ i d e; ⟨v, h1, h2.step s⟩⟩
theorem EnvR.set {k : Kt} {m : List Addr} {H : Hp} {ρ : Env} {σ : L2.St} (h : EnvR k m H ρ σ) {d : D} {v : V} (r : Rp k m H d v) (i : Nat) : EnvR k m H (ρ.set i (some d)) (σ.set i (some v)) :=
  ⟨by simp [h.len], fun j x e => by
    rw [List.getElem?_set] at e
    rw [List.getElem?_set]
    by_cases hi : i = j
    · subst hi
      rw [if_pos rfl] at e ⊢
      rw [h.len] at e
      split at e
      · rename_i hl
        simp at e
        subst e
        exact ⟨v, by rw [if_pos hl], r⟩
      · cases e
    · rw [if_neg hi] at e ⊢
      exact h.at_ j x e⟩
theorem EnvR.unset {k : Kt} {m : List Addr} {H : Hp} {ρ : Env} {σ : L2.St} (h : EnvR k m H ρ σ) (i : Nat) : EnvR k m H (ρ.set i none) (σ.set i none) :=
  ⟨by simp [h.len], fun j x e => by
    rw [List.getElem?_set] at e
    rw [List.getElem?_set]
    by_cases hi : i = j
    · subst hi
      rw [if_pos rfl] at e
      split at e <;> simp at e
    · rw [if_neg hi] at e ⊢
      exact h.at_ j x e⟩
theorem EnvR.wipe {k : Kt} {m : List Addr} {H : Hp} {ρ : Env} {σ : L2.St} (h : EnvR k m H ρ σ) : ∀ vs : List Nat, EnvR k m H (wipeE ρ vs) (wipe σ vs)
  | [] => h
  | v :: vs => (EnvR.wipe h vs).unset v

/-! ### steps that are taken -/
section
variable {k : Kt} {m : List Addr} {S : Sto} {H : Hp}
/-- a new thing beside the store -/
theorem Step.aside {p : Addr} {o : HO} (hp : H p = none) : Step m H m (upd H p o) :=
  ⟨⟨[], by simp⟩, fun _ h h' => absurd h h', fun b o h _ _ => by rw [upd_ne (ne_of_none h hp)]; exact h, fun b _ h => by rw [upd_ne (ne_of_none h hp)]; exact h, fun b _ _ h => by rw [upd_ne (ne_of_none h hp)]; exact h⟩
theorem ORp.isL {p : Addr} {o : O} (h : ORp k m H p o) : ∃ u, H p = some u ∧ Live u := by
  cases o with
  | lst xs => obtain ⟨vs, h, _⟩ := h; exact ⟨_, h, live_lst⟩
  | _ => exact h.elim
theorem Sim.tracked (s : Sim k m S H) {p : Addr} (hp : p ∈ m) : ∃ u, H p = some u ∧ Live u := by
  obtain ⟨n, hn, rfl⟩ := List.mem_iff_getElem.mp hp
  have hs : n < S.length := by rw [← s.len]; exact hn
  exact (s.at_ n S[n] m[n] (List.getElem?_eq_getElem hs) (List.getElem?_eq_getElem hn)).isL
theorem Sim.trackedL (s : Sim k m S H) {p : Addr} (hp : p ∈ m) : ∃ vs, H p = some (.lst vs) := by
  obtain ⟨n, hn, rfl⟩ := List.mem_iff_getElem.mp hp
  have hs : n < S.length := by rw [← s.len]; exact hn
  have h := s.at_ n S[n] m[n] (List.getElem?_eq_getElem hs) (List.getElem?_eq_getElem hn)
  generalize S[n] = o at h
  cases o with
  | lst xs => obtain ⟨vs, h, _⟩ := h; exact ⟨vs, h⟩
  | _ => exact h.elim
theorem Sim.notin (s : Sim k m S H) {p : Addr} (hp : H p = none) : p ∉ m := fun h => by
  obtain ⟨u, e, _⟩ := s.tracked h
  rw [hp] at e; cases e
theorem ORp.step {m' : List Addr} {H' : Hp} {p : Addr} (s : Step m H m' H') (hp : ∀ u, H p = some u → Live u → H' p = some u) {o : O} (h : ORp k m H p o) : ORp k m' H' p o := by
  cases o with
  | lst xs => obtain ⟨vs, h, r⟩ := h; exact ⟨vs, hp _ h live_lst, r.step s⟩
  | _ => exact h.elim
/-- the store follows a step that lets its objects be -/
theorem Sim.same {H' : Hp} (s : Sim k m S H) (st : Step m H m H') (hm : ∀ p ∈ m, ∀ u, H p = some u → Live u → H' p = some u) (ht : LamX.Tabs (tabsOf k.P k.K) H') : Sim k m S H' :=
  ⟨s.len, s.nd, fun n o p h1 h2 => (s.at_ n o p h1 h2).step st (hm p (List.mem_of_getElem? h2)), fun p hp => let ⟨h1, o, h2, h3⟩ := s.hid p hp; ⟨h1, o, st.keep p o h2 h1 h3.tbl, h3⟩, ht⟩
theorem Sim.nohid (s : Sim k m S H) {p : Addr} (hp : H p = none) : p ∉ k.hid := fun h => by
  obtain ⟨_, o, e, _⟩ := s.hid p h
  rw [hp] at e; cases e
theorem tabs_new {T : List (Addr × Str)} {p : Addr} {o : HO} (t : LamX.Tabs T H) (hp : H p = none) : LamX.Tabs T (upd H p o) := t.ext fun b u h => by rw [upd_ne (ne_of_none h hp)]; exact h
theorem tabs_live {T : List (Addr × Str)} {p : Addr} {u o : HO} (t : LamX.Tabs T H) (hp : H p = some u) (l : Live u) : LamX.Tabs T (upd H p o) := fun q hq => by
  obtain ⟨ps, h1, h2, h3⟩ := t q hq
  refine ⟨ps, by rw [upd_ne fun e => by rw [e, hp] at h1; exact l.tbl _ (Option.some.inj h1)]; exact h1, h2, fun pos cv hc => ?_⟩
  obtain ⟨c, e1, e2⟩ := h3 pos cv hc
  exact ⟨c, e1, by rw [upd_ne fun e => by rw [e, hp] at e2; exact l.code _ _ (Option.some.inj e2)]; exact e2⟩
theorem Sim.aside {p : Addr} {o : HO} (s : Sim k m S H) (hp : H p = none) : Sim k m S (upd H p o) :=
  s.same (Step.aside hp) (fun q _ vs h _ => by rw [upd_ne (ne_of_none h hp)]; exact h) (tabs_new s.tabs hp)
/-- a new object of the store -/
theorem Step.fresh {p : Addr} {o : HO} (hp : H p = none) : Step m H (m ++ [p]) (upd H p o) :=
  ⟨⟨[p], rfl⟩, fun q h h' => by
    rcases List.mem_append.mp h with h | h
    · exact absurd h h'
    · rw [List.mem_singleton.mp h]; exact fre_none hp, (Step.aside (m := m) hp).keep, (Step.aside (m := m) hp).tups, (Step.aside (m := m) hp).frzs⟩
theorem Sim.fresh {p : Addr} {o : O} {ho : HO} (s : Sim k m S H) (hp : H p = none) (h : ORp k (m ++ [p]) (upd H p ho) p o) : Sim k (m ++ [p]) (S ++ [o]) (upd H p ho) where
  len := by simp [s.len]
  nd := by
    rw [List.nodup_append]
    exact ⟨s.nd, by simp, fun a ha b hb => by rw [List.mem_singleton.mp hb]; rintro rfl; exact s.notin hp ha⟩
  at_ := fun n o' q h1 h2 => by
    by_cases hn : n < m.length
    · rw [List.getElem?_append_left hn] at h2
      rw [List.getElem?_append_left (by rw [← s.len]; exact hn)] at h1
      exact (s.at_ n o' q h1 h2).step (Step.fresh hp) fun vs e _ => by rw [upd_ne (ne_of_none e hp)]; exact e
    · have hl := (List.getElem?_eq_some_iff.mp h2).1
      rw [List.length_append, List.length_singleton] at hl
      have hn' : n = m.length := by omega
      subst hn'
      rw [s.len] at h1
      simp at h1 h2
      subst h1; subst h2
      exact h
  hid := fun q hq => by
    obtain ⟨h1, o, h2, h3⟩ := s.hid q hq
    refine ⟨fun h => ?_, o, by rw [upd_ne (ne_of_none h2 hp)]; exact h2, h3⟩
    rcases List.mem_append.mp h with h | h
    · exact h1 h
    · rw [List.mem_singleton.mp h, hp] at h2; cases h2
  tabs := tabs_new s.tabs hp
/-- a list that stands beside the store is taken into it -/
theorem Step.adopt {p : Addr} {H' : Hp} (s : Step m H m H') (hp : H p = none) : Step m H (m ++ [p]) H' :=
  ⟨⟨[p], rfl⟩, fun q h h' => by
    rcases List.mem_append.mp h with h | h
    · exact absurd h h'
    · rw [List.mem_singleton.mp h]; exact fre_none hp, s.keep, s.tups, s.frzs⟩
/-- an object of the store changes -/
theorem Step.write {n : Nat} {p : Addr} {o : HO} (s : Sim k m S H) (hn : m[n]? = some p) : Step m H m (upd H p o) := by
  obtain ⟨u, e, l⟩ := s.tracked (List.mem_of_getElem? hn)
  refine ⟨⟨[], by simp⟩, fun _ h h' => absurd h h', fun b o h hb _ => ?_, fun b _ h => ?_, fun b _ _ h => ?_⟩
  · rw [upd_ne fun z => hb (by rw [z]; exact List.mem_of_getElem? hn)]; exact h
  · rw [upd_ne fun z => by subst z; rw [e] at h; exact l.tup _ (Option.some.inj h)]; exact h
  · rw [upd_ne fun z => by subst z; rw [e] at h; exact l.frz _ _ (Option.some.inj h)]; exact h
theorem Sim.write {n : Nat} {p : Addr} {o : O} {ho : HO} (s : Sim k m S H) (hn : m[n]? = some p) (h : ORp k m (upd H p ho) p o) : Sim k m (S.set n o) (upd H p ho) where
  len := by simp [s.len]
  nd := s.nd
  at_ := fun i o' q h1 h2 => by
    have hl := (List.getElem?_eq_some_iff.mp hn).1
    rw [List.getElem?_set] at h1
    by_cases hi : n = i
    · subst hi
      rw [if_pos rfl] at h1
      rw [hn] at h2; cases h2
      split at h1
      · cases h1; exact h
      · cases h1
    · rw [if_neg hi] at h1
      have hq : q ≠ p := fun z => hi (nd_ix s.nd hn (z ▸ h2))
      exact (s.at_ i o' q h1 h2).step (Step.write s hn) fun vs e _ => by rw [upd_ne hq]; exact e
  hid := fun q hq => by
    obtain ⟨h1, o, h2, h3⟩ := s.hid q hq
    exact ⟨h1, o, (Step.write s hn).keep q o h2 h1 h3.tbl, h3⟩
  tabs := by
    obtain ⟨u, e, l⟩ := s.tracked (List.mem_of_getElem? hn)
    exact tabs_live s.tabs e l
end
mutual
/-- a new address is nowhere within -/
theorem Rp.hide {k : Kt} {m : List Addr} {H : Hp} {q : Addr} (hq : H q = none) : ∀ {d : D} {v : V}, Rp k m H d v → Rp { k with hid := q :: k.hid } m H d v
  | .non, _, h => by simpa only [Rp] using h
  | .bl _, _, h => by simpa only [Rp] using h
  | .int _, _, h => by simpa only [Rp] using h
  | .str _, _, h => by simpa only [Rp] using h
  | .tup xs, _, h => by
    simp only [Rp] at h ⊢
    obtain ⟨p, vs, rfl, h1, h2⟩ := h
    exact ⟨p, vs, rfl, h1, RpL.hide hq h2⟩
  | .lst xs, _, h => by
    simp only [Rp] at h ⊢
    obtain ⟨p, vs, rfl, h1, h2, h3⟩ := h
    exact ⟨p, vs, rfl, h1, ⟨h2.1, fun h => by
      rcases List.mem_cons.mp h with h | h
      · rw [h, hq] at h1; cases h1
      · exact h2.2 h⟩, RpL.hide hq h3⟩
  | .ref n, _, h => by simpa only [Rp] using h
  | .set xs, _, h => by
    simp only [Rp] at h ⊢
    obtain ⟨p, rfl, h2, h3⟩ := h
    have hp : ∀ o, H p = some o → p ∉ q :: k.hid := fun o e h => by
      rcases List.mem_cons.mp h with h | h
      · rw [h, hq] at e; cases e
      · exact h2.2 h
    rcases h3 with ⟨L, L2, h4, h5, h6, h7⟩ | ⟨ns, f, c, h4, h5, h6, h7⟩
    · exact ⟨p, rfl, ⟨h2.1, hp _ h7⟩, .inl ⟨L, L2, RpL.hide hq h4, h5, h6, h7⟩⟩
    · exact ⟨p, rfl, ⟨h2.1, hp _ h7⟩, .inr ⟨ns, f, c, h4, h5, h6, h7⟩⟩
  | .dic _ _, _, h => by simp only [Rp] at h
  | .err x d, _, h => by
    simp only [Rp] at h ⊢
    obtain ⟨a, dx, fs, u, rfl, h1, h2, h3, h4, h5, h6⟩ := h
    have hp : ∀ p o, H p = some o → p ∉ k.hid → p ∉ q :: k.hid := fun p o e hn h => by
      rcases List.mem_cons.mp h with h | h
      · rw [h, hq] at e; cases e
      · exact hn h
    exact ⟨a, dx, fs, u, rfl, ⟨h1.1, hp _ _ h3 h1.2⟩, ⟨h2.1, hp _ _ h4 h2.2⟩, h3, h4, h5, Rp.hide hq h6⟩
  | .fn _ _, _, h => by simpa only [Rp] using h
  | .scr _, _, h => by simpa only [Rp] using h
theorem RpL.hide {k : Kt} {m : List Addr} {H : Hp} {q : Addr} (hq : H q = none) : ∀ {ds : List D} {vs : List V}, RpL k m H ds vs → RpL { k with hid := q :: k.hid } m H ds vs
  | [], _, h => by simpa only [RpL] using h
  | d :: ds, _, h => by
    simp only [RpL] at h ⊢
    obtain ⟨v, r, rfl, h1, h2⟩ := h
    exact ⟨v, r, rfl, Rp.hide hq h1, RpL.hide hq h2⟩
end
mutual
/-- what was hidden comes into the store, or is let go -/
theorem Rp.unhide {k : Kt} {m e : List Addr} {H : Hp} {q : Addr} (he : ∀ p ∈ e, p = q) : ∀ {d : D} {v : V}, Rp { k with hid := q :: k.hid } m H d v → Rp k (m ++ e) H d v
  | .non, _, h => by simpa only [Rp] using h
  | .bl _, _, h => by simpa only [Rp] using h
  | .int _, _, h => by simpa only [Rp] using h
  | .str _, _, h => by simpa only [Rp] using h
  | .tup xs, _, h => by
    simp only [Rp] at h ⊢
    obtain ⟨p, vs, rfl, h1, h2⟩ := h
    exact ⟨p, vs, rfl, h1, RpL.unhide he h2⟩
  | .lst xs, _, h => by
    simp only [Rp] at h ⊢
    obtain ⟨p, vs, rfl, h1, h2, h3⟩ := h
    exact ⟨p, vs, rfl, h1, ⟨fun h => by
      rcases List.mem_append.mp h with h | h
      · exact h2.1 h
      · exact h2.2 (by rw [he p h]; exact List.mem_cons_self ..), fun h => h2.2 (List.mem_cons_of_mem _ h)⟩, RpL.unhide he h3⟩
  | .ref n, _, h => by
    simp only [Rp] at h ⊢
    obtain ⟨p, h1, rfl⟩ := h
    exact ⟨p, by rw [List.getElem?_append_left (List.getElem?_eq_some_iff.mp h1).1]; exact h1, rfl⟩
  | .set xs, _, h => by
    simp only [Rp] at h ⊢
    obtain ⟨p, rfl, h2, h3⟩ := h
    have hp : p ∉ m ++ e ∧ p ∉ k.hid := ⟨fun h => by
      rcases List.mem_append.mp h with h | h
      · exact h2.1 h
      · exact h2.2 (by rw [he p h]; exact List.mem_cons_self ..), fun h => h2.2 (List.mem_cons_of_mem _ h)⟩
    rcases h3 with ⟨L, L2, h4, h5, h6, h7⟩ | h3
    · exact ⟨p, rfl, hp, .inl ⟨L, L2, RpL.unhide he h4, h5, h6, h7⟩⟩
    · exact ⟨p, rfl, hp, .inr h3⟩
  | .dic _ _, _, h => by simp only [Rp] at h
  | .err x d, _, h => by
    simp only [Rp] at h ⊢
    obtain ⟨a, dx, fs, u, rfl, h1, h2, h3, h4, h5, h6⟩ := h
    have hp : ∀ p : Addr, p ∉ m ∧ p ∉ q :: k.hid → p ∉ m ++ e ∧ p ∉ k.hid := fun p hpp => ⟨fun h => by
      rcases List.mem_append.mp h with h | h
      · exact hpp.1 h
      · exact hpp.2 (by rw [he p h]; exact List.mem_cons_self ..), fun h => hpp.2 (List.mem_cons_of_mem _ h)⟩
    exact ⟨a, dx, fs, u, rfl, hp _ h1, hp _ h2, h3, h4, h5, Rp.unhide he h6⟩
  | .fn _ _, _, h => by simpa only [Rp] using h
  | .scr _, _, h => by simpa only [Rp] using h
theorem RpL.unhide {k : Kt} {m e : List Addr} {H : Hp} {q : Addr} (he : ∀ p ∈ e, p = q) : ∀ {ds : List D} {vs : List V}, RpL { k with hid := q :: k.hid } m H ds vs → RpL k (m ++ e) H ds vs
  | [], _, h => by simpa only [RpL] using h
  | d :: ds, _, h => by
    simp only [RpL] at h ⊢
    obtain ⟨v, r, rfl, h1, h2⟩ := h
    exact ⟨v, r, rfl, Rp.unhide he h1, RpL.unhide he h2⟩
end

theorem ORp.hide {k : Kt} {m : List Addr} {H : Hp} {p q : Addr} (hq : H q = none) {o : O} (h : ORp k m H p o) : ORp { k with hid := q :: k.hid } m H p o := by
  cases o with
  | lst xs => obtain ⟨vs, h, r⟩ := h; exact ⟨vs, h, RpL.hide hq r⟩
  | _ => exact h.elim
theorem ORp.unhide {k : Kt} {m e : List Addr} {H : Hp} {p q : Addr} (he : ∀ p ∈ e, p = q) {o : O} (h : ORp { k with hid := q :: k.hid } m H p o) : ORp k (m ++ e) H p o := by
  cases o with
  | lst xs => obtain ⟨vs, h, r⟩ := h; exact ⟨vs, h, RpL.unhide he r⟩
  | _ => exact h.elim
/-- a new thing, to which no data leads -/
theorem Sim.hide {k : Kt} {m : List Addr} {S : Sto} {H : Hp} {q : Addr} {o : HO} (s : Sim k m S H) (hq : H q = none) (hl : Live o) : Sim { k with hid := q :: k.hid } m S (upd H q o) where
  len := s.len
  nd := s.nd
  at_ := fun n o' p h1 h2 => ((s.at_ n o' p h1 h2).hide hq).step (.aside hq) fun vs e _ => by rw [upd_ne (ne_of_none e hq)]; exact e
  hid := fun p hp => by
    rcases List.mem_cons.mp hp with rfl | hp
    · exact ⟨s.notin hq, o, upd_same, hl⟩
    · obtain ⟨h1, u, h2, h3⟩ := s.hid p hp
      exact ⟨h1, u, by rw [upd_ne (ne_of_none h2 hq)]; exact h2, h3⟩
  tabs := tabs_new s.tabs hq
theorem Sim.unhide {k : Kt} {m : List Addr} {S : Sto} {H : Hp} {q : Addr} (s : Sim { k with hid := q :: k.hid } m S H) : Sim k m S H where
  len := s.len
  nd := s.nd
  at_ := fun n o' p h1 h2 => by
    have h := ORp.unhide (k := k) (q := q) (e := []) (by simp) (s.at_ n o' p h1 h2)
    rwa [List.append_nil] at h
  hid := fun p hp => s.hid p (List.mem_cons_of_mem _ hp)
  tabs := s.tabs
/-- a hidden list comes into the store -/
theorem Sim.adopt {k : Kt} {m : List Addr} {S : Sto} {H : Hp} {q : Addr} {vs : List V} {xs : List D} (s : Sim { k with hid := q :: k.hid } m S H) (hz : q ∉ k.hid) (hq : H q = some (.lst vs)) (r : RpL { k with hid := q :: k.hid } m H xs vs) : Sim k (m ++ [q]) (S ++ [.lst xs]) H where
  len := by simp [s.len]
  nd := by
    rw [List.nodup_append]
    exact ⟨s.nd, by simp, fun a ha b hb => by rw [List.mem_singleton.mp hb]; intro e; rw [e] at ha; exact (s.hid q (List.mem_cons_self ..)).1 ha⟩
  at_ := fun n o a e2 e3 => by
    by_cases hn : n < m.length
    · rw [List.getElem?_append_left hn] at e3
      rw [List.getElem?_append_left (by rw [← s.len]; exact hn)] at e2
      exact ORp.unhide (k := k) (q := q) (by simp) (s.at_ n o a e2 e3)
    · have hl := (List.getElem?_eq_some_iff.mp e3).1
      rw [List.length_append, List.length_singleton] at hl
      have hn' : n = m.length := by omega
      subst hn'
      rw [s.len] at e2
      simp at e2 e3
      subst e2; subst e3
      exact ⟨vs, hq, RpL.unhide (k := k) (q := q) (e := [q]) (by simp) r⟩
  hid := fun a ha => by
    obtain ⟨h7, o, h8⟩ := s.hid a (List.mem_cons_of_mem _ ha)
    refine ⟨fun h => ?_, o, h8⟩
    rcases List.mem_append.mp h with h | h
    · exact h7 h
    · rw [List.mem_singleton.mp h] at ha; exact hz ha
  tabs := s.tabs
theorem Step.adoptNew {m m1 : List Addr} {H H1 : Hp} {q : Addr} (st : Step m H m1 H1) (h : Fre H q) : Step m H (m1 ++ [q]) H1 := by
  obtain ⟨e, he⟩ := st.pre
  refine ⟨⟨e ++ [q], by rw [he, List.append_assoc]⟩, fun r hr hm => ?_, st.keep, st.tups, st.frzs⟩
  rcases List.mem_append.mp hr with hr | hr
  · exact st.new r hr hm
  · rw [List.mem_singleton.mp hr]; exact h
/-- what is free behind was free ahead -/
theorem Step.back {k : Kt} {m m' : List Addr} {S' : Sto} {H H' : Hp} (st : Step m H m' H') (s' : Sim k m' S' H') {q : Addr} (hq : Fre H' q) : Fre H q := fun o e => by
  by_cases ht : ∃ ps, o = .tbl ps
  · exact ht
  · have ht' : ∀ ps, o ≠ .tbl ps := fun ps z => ht ⟨ps, z⟩
    by_cases h : q ∈ m
    · obtain ⟨u, e2, l⟩ := s'.tracked (st.mem h)
      exact absurd rfl (hq.ne e2 l.tbl)
    · exact hq o (st.keep q o e h ht')

/-! ### a hidden list changes -/
mutual
theorem Rp.hwrite {k : Kt} {m : List Addr} {H : Hp} {q : Addr} {us vs : List V} (hq : q ∈ k.hid) (h0 : H q = some (.lst us)) : ∀ {d : D} {v : V}, Rp k m H d v → Rp k m (upd H q (.lst vs)) d v
  | .non, _, h => by simpa only [Rp] using h
  | .bl _, _, h => by simpa only [Rp] using h
  | .int _, _, h => by simpa only [Rp] using h
  | .str _, _, h => by simpa only [Rp] using h
  | .tup xs, _, h => by
    simp only [Rp] at h ⊢
    obtain ⟨p, vs', rfl, h1, h2⟩ := h
    refine ⟨p, vs', rfl, ?_, RpL.hwrite hq h0 h2⟩
    rcases h1 with (h1 | ⟨o, h1⟩) | h1
    · exact .inl (.inl (by rw [upd_ne (ne_of h1 h0 (by intro z; cases z))]; exact h1))
    · exact .inl (.inr ⟨o, by rw [upd_ne (ne_of h1 h0 (by intro z; cases z))]; exact h1⟩)
    · exact .inr h1
  | .lst xs, _, h => by
    simp only [Rp] at h ⊢
    obtain ⟨p, vs', rfl, h1, h2, h3⟩ := h
    exact ⟨p, vs', rfl, by rw [upd_ne fun e => h2.2 (by rw [e]; exact hq)]; exact h1, h2, RpL.hwrite hq h0 h3⟩
  | .ref n, _, h => by simpa only [Rp] using h
  | .set xs, _, h => by
    simp only [Rp] at h ⊢
    obtain ⟨p, rfl, h2, h3⟩ := h
    have hne : p ≠ q := fun e => h2.2 (by rw [e]; exact hq)
    rcases h3 with ⟨L, L2, h4, h5, h6, h7⟩ | ⟨ns, f, c, h4, h5, h6, h7⟩
    · exact ⟨p, rfl, h2, .inl ⟨L, L2, RpL.hwrite hq h0 h4, h5, h6, by rw [upd_ne hne]; exact h7⟩⟩
    · exact ⟨p, rfl, h2, .inr ⟨ns, f, c, h4, h5, h6, by rw [upd_ne hne]; exact h7⟩⟩
  | .dic _ _, _, h => by simp only [Rp] at h
  | .fn _ _, _, h => by simpa only [Rp] using h
  | .err x d, _, h => by
    simp only [Rp] at h ⊢
    obtain ⟨a, dx, fs, u, rfl, h1, h2, h3, h4, h5, h6⟩ := h
    exact ⟨a, dx, fs, u, rfl, h1, h2, by rw [upd_ne fun e => h1.2 (by rw [e]; exact hq)]; exact h3, by rw [upd_ne fun e => h2.2 (by rw [e]; exact hq)]; exact h4, h5, Rp.hwrite hq h0 h6⟩
  | .scr ns, _, h => by
    simp only [Rp] at h ⊢
    obtain ⟨p, rfl, h⟩ := h
    refine ⟨p, rfl, ?_⟩
    rcases h with ⟨o, h⟩ | h
    · exact .inl ⟨o, by rw [upd_ne (ne_of h h0 (by intro z; cases z))]; exact h⟩
    · exact .inr h
theorem RpL.hwrite {k : Kt} {m : List Addr} {H : Hp} {q : Addr} {us vs : List V} (hq : q ∈ k.hid) (h0 : H q = some (.lst us)) : ∀ {ds : List D} {ws : List V}, RpL k m H ds ws → RpL k m (upd H q (.lst vs)) ds ws
  | [], _, h => by simpa only [RpL] using h
  | d :: ds, _, h => by
    simp only [RpL] at h ⊢
    obtain ⟨v, r, rfl, h1, h2⟩ := h
    exact ⟨v, r, rfl, Rp.hwrite hq h0 h1, RpL.hwrite hq h0 h2⟩
end
theorem Sim.hwrite {k : Kt} {m : List Addr} {S : Sto} {H : Hp} {q : Addr} {us vs : List V} (s : Sim k m S H) (hq : q ∈ k.hid) (h0 : H q = some (.lst us)) : Sim k m S (upd H q (.lst vs)) where
  len := s.len
  nd := s.nd
  at_ := fun n o p h1 h2 => by
    have h := s.at_ n o p h1 h2
    have hp : p ≠ q := fun e => (s.hid q hq).1 (by rw [← e]; exact List.mem_of_getElem? h2)
    cases o with
    | lst xs => obtain ⟨ws, e, r⟩ := h; exact ⟨ws, by rw [upd_ne hp]; exact e, r.hwrite hq h0⟩
    | _ => exact h.elim
  hid := fun p hp => by
    obtain ⟨h1, o, h2, h3⟩ := s.hid p hp
    by_cases e : p = q
    · subst e; exact ⟨h1, _, upd_same, live_lst⟩
    · exact ⟨h1, o, by rw [upd_ne e]; exact h2, h3⟩
  tabs := tabs_live s.tabs h0 live_lst
theorem EnvR.hwrite {k : Kt} {m : List Addr} {H : Hp} {ρ : Env} {σ : L2.St} {q : Addr} {us vs : List V} (h : EnvR k m H ρ σ) (hq : q ∈ k.hid) (h0 : H q = some (.lst us)) : EnvR k m (upd H q (.lst vs)) ρ σ :=
  ⟨h.len, fun i d e => let ⟨v, h1, h2⟩ := h.at_ i d e; ⟨v, h1, h2.hwrite hq h0⟩⟩
theorem EnvR.hide {k : Kt} {m : List Addr} {H : Hp} {ρ : Env} {σ : L2.St} {q : Addr} (h : EnvR k m H ρ σ) (hq : H q = none) : EnvR { k with hid := q :: k.hid } m H ρ σ :=
  ⟨h.len, fun i d e => let ⟨v, h1, h2⟩ := h.at_ i d e; ⟨v, h1, h2.hide hq⟩⟩
/-- what was not there ahead may be anything behind -/
theorem Step.over {m m' : List Addr} {H H' : Hp} {q : Addr} {o : HO} (s : Step m H m' H') (hq : H q = none) : Step m H m' (upd H' q o) :=
  ⟨s.pre, s.new, fun b u h hb ht => by rw [upd_ne (ne_of_none h hq)]; exact s.keep b u h hb ht, fun b xs h => by rw [upd_ne (ne_of_none h hq)]; exact s.tups b xs h, fun b u v h => by rw [upd_ne (ne_of_none h hq)]; exact s.frzs b u v h⟩
end DL
set_option Elab.async false
set_option linter.all false
set_option maxRecDepth 100000
set_option maxHeartbeats 1000000
/-! DL2: what an expression of Python comes to: the own evaluator's word is the machine's -/
namespace DL
open PySem PySem.Spec PyProof.Rows L2

/-! ### the strongest readings -/
def semE (X : Cx) (e : Expr) : TE := fun σ H Q => ∀ pins s, Inv X pins σ H s → wpAny (model X.prog X.w) X.A (eval e X.env) (EP X pins σ Q) X.xe s
def semT (X : Cx) (e : Expr) : TT := fun σ H Q => ∀ pins s, Inv X pins σ H s → wpAny (model X.prog X.w) X.A (isTrue e X.env (eval e X.env)) (TP X pins σ Q) X.xe s
def semW (X : Cx) (e : Expr) : TT := fun σ H Q => ∀ (whole : Sem Value) pins s, Inv X pins σ H s → wpAny (model X.prog X.w) X.A (isTrue e X.env whole) (TP X pins σ Q) X.xe s
def semA (X : Cx) (es : List Expr) : TA := fun σ H Q => ∀ (pos : Pos) pins s, Inv X pins σ H s → wpAny (model X.prog X.w) X.A (spliced (backTo pos (starEach es X.env))) (AP X pins σ Q) X.xe s
def semO (X : Cx) (f : Value → Value → Sem Value) : R2 := fun x y H Q => ∀ pins s σ v u, Inv X pins σ H s → RelV x v → RelV y u → wpAny (model X.prog X.w) X.A (f v u) (EP X pins σ Q) X.xe s
def semC (X : Cx) (f : Value) : List V → Hp → VK → Prop := fun xs H Q => ∀ pins s σ us, Inv X pins σ H s → Vals xs us → wpAny (model X.prog X.w) X.A (call f us) (EP X pins σ Q) X.xe s
theorem pe_sem {X : Cx} {e : Expr} : PE X e (semE X e) := ⟨fun pins s σ H Q I h => h pins s I⟩
theorem pt_sem {X : Cx} {e : Expr} : PT X e (semT X e) := ⟨fun pins s σ H Q I h => h pins s I⟩
theorem pw_sem {X : Cx} {e : Expr} : PW X e (semW X e) := ⟨fun whole pins s σ H Q I h => h whole pins s I⟩
theorem pa_sem {X : Cx} {es : List Expr} : PA X es (semA X es) := ⟨fun pos pins s σ H Q I h => h pos pins s I⟩
theorem op_sem {X : Cx} {f : Value → Value → Sem Value} : OpR X f (semO X f) := fun pins s σ H x y v u Q I rx ry h => h pins s σ v u I rx ry
theorem call_sem {X : Cx} {f : Value} : CallR X f (semC X f) := fun pins s σ H xs us Q I r h => h pins s σ us I r
theorem semE_of {X : Cx} {e : Expr} {t : TE} (h : PE X e t) {σ : L2.St} {H : Hp} {Q : VK} (q : t σ H Q) : semE X e σ H Q := fun pins s I => h.run pins s σ H Q I q
theorem semT_of {X : Cx} {e : Expr} {t : TT} (h : PT X e t) {σ : L2.St} {H : Hp} {Q : Bool → Hp → Prop} (q : t σ H Q) : semT X e σ H Q := fun pins s I => h.run pins s σ H Q I q
theorem semW_of {X : Cx} {e : Expr} {t : TT} (h : PW X e t) {σ : L2.St} {H : Hp} {Q : Bool → Hp → Prop} (q : t σ H Q) : semW X e σ H Q := fun whole pins s I => h.run whole pins s σ H Q I q
theorem semA_of {X : Cx} {es : List Expr} {t : TA} (h : PA X es t) {σ : L2.St} {H : Hp} {Q : List V → Hp → Prop} (q : t σ H Q) : semA X es σ H Q := fun pos pins s I => h.run pos pins s σ H Q I q
theorem semO_of {X : Cx} {f : Value → Value → Sem Value} {r : R2} (h : OpR X f r) {x y : V} {H : Hp} {Q : VK} (q : r x y H Q) : semO X f x y H Q := fun pins s σ v u I rx ry => h pins s σ H x y v u Q I rx ry q
theorem semC_of {X : Cx} {f : Value} {r : List V → Hp → VK → Prop} (h : CallR X f r) {xs : List V} {H : Hp} {Q : VK} (q : r xs H Q) : semC X f xs H Q := fun pins s σ us I rx => h pins s σ H xs us Q I rx q

abbrev kt (X : Cx) (z : List Addr) : Kt := ⟨X.prog, X.w, X.K, z⟩
/-- the exception of the class named x that bears d -/
def ExRk (mg : Str → Option Value) (k : Kt) (m : List Addr) (H : Hp) (x : Str) (d : D) (cls : Value) (dx : Option Addr) : Prop :=
  ∃ (C a : Addr) (v : V) (fs : List (Str × V)), mg x = some (.ref C) ∧ cls = .ref C ∧ dx = some a ∧ H a = some (.xd fs) ∧ fs.lookup ("value" : Str) = some v ∧ Rp k m H d v
abbrev ExR (X : Cx) (z : List Addr) := ExRk X.mg (kt X z)
/-- what holds behind: of a value that comes to r -/
def Post {α β : Type} (R : List Addr → Hp → α → β → Prop) (X : Cx) (z : List Addr) (W : WX) (σ : L2.St) (m : List Addr) (H : Hp) (r : Res α) (Q : β → Hp → Prop) : Prop :=
  match r with
  | .ok a S => ∀ m' H' b, Step m H m' H' → Sim (kt X z) m' S H' → R m' H' a b → Q b H'
  | .exc x d S => ∀ m' H' cls dx, Step m H m' H' → Sim (kt X z) m' S H' → ExR X z m' H' x d cls dx → W cls dx σ H'
  | .bad => False
theorem Post.later {α β : Type} {R : List Addr → Hp → α → β → Prop} {X : Cx} {z : List Addr} {W : WX} {σ : L2.St} {m m1 : List Addr} {H H1 : Hp} {r : Res α} {Q : β → Hp → Prop} (st : Step m H m1 H1) (h : Post R X z W σ m H r Q) : Post R X z W σ m1 H1 r Q := by
  cases r with
  | ok a S => exact fun m' H' b s1 s2 s3 => h m' H' b (st.trans s1) s2 s3
  | exc x d S => exact fun m' H' c dx s1 s2 s3 => h m' H' c dx (st.trans s1) s2 s3
  | bad => exact h
theorem Post.bind {α β γ δ : Type} {R1 : List Addr → Hp → α → γ → Prop} {R2 : List Addr → Hp → β → δ → Prop} {X : Cx} {z : List Addr} {W : WX} {σ : L2.St} {m : List Addr} {H : Hp} {r : Res α} {f : α → Sto → Res β} {Q1 : γ → Hp → Prop} {Q : δ → Hp → Prop}
    (h : Post R2 X z W σ m H (r.bind f) Q) (k : ∀ a S1 m1 H1 b, Step m H m1 H1 → Sim (kt X z) m1 S1 H1 → R1 m1 H1 a b → Post R2 X z W σ m1 H1 (f a S1) Q → Q1 b H1) : Post R1 X z W σ m H r Q1 := by
  cases r with
  | ok a S => exact fun m' H' b s1 s2 s3 => k a S m' H' b s1 s2 s3 (h.later s1)
  | exc x d S => exact h
  | bad => exact h
abbrev RE (X : Cx) (z : List Addr) : List Addr → Hp → D → V → Prop := fun m H d v => Rp (kt X z) m H d v
abbrev RL (X : Cx) (z : List Addr) : List Addr → Hp → List D → List V → Prop := fun m H d v => RpL (kt X z) m H d v
abbrev RB : List Addr → Hp → Bool → Bool → Prop := fun _ _ a b => a = b
abbrev PostE (X : Cx) (z : List Addr) := Post (RE X z) X z
abbrev PostL (X : Cx) (z : List Addr) := Post (RL X z) X z
abbrev PostB (X : Cx) (z : List Addr) := Post RB X z

def SE (X : Cx) (W : WX) (e : Expr) (f : Env → Sto → Res D) : Prop :=
  ∀ (z m : List Addr) (ρ : Env) (S : Sto) (σ : L2.St) (H : Hp) (Q : VK), Sim (kt X z) m S H → EnvR (kt X z) m H ρ σ → PostE X z W σ m H (f ρ S) Q → semE X e σ H Q
def STe (X : Cx) (W : WX) (e : Expr) (f : Env → Sto → Res Bool) : Prop :=
  ∀ (z m : List Addr) (ρ : Env) (S : Sto) (σ : L2.St) (H : Hp) (Q : Bool → Hp → Prop), Sim (kt X z) m S H → EnvR (kt X z) m H ρ σ → PostB X z W σ m H (f ρ S) Q → semT X e σ H Q
def SWe (X : Cx) (W : WX) (e : Expr) (f : Env → Sto → Res Bool) : Prop :=
  ∀ (z m : List Addr) (ρ : Env) (S : Sto) (σ : L2.St) (H : Hp) (Q : Bool → Hp → Prop), Sim (kt X z) m S H → EnvR (kt X z) m H ρ σ → PostB X z W σ m H (f ρ S) Q → semW X e σ H Q
def SA (X : Cx) (W : WX) (es : List Expr) (f : Env → Sto → Res (List D)) : Prop :=
  ∀ (z m : List Addr) (ρ : Env) (S : Sto) (σ : L2.St) (H : Hp) (Q : List V → Hp → Prop), Sim (kt X z) m S H → EnvR (kt X z) m H ρ σ → PostL X z W σ m H (f ρ S) Q → semA X es σ H Q
/-- an operation of two values -/
def SO (X : Cx) (g : Value → Value → Sem Value) (f : D → D → Sto → Res D) : Prop :=
  ∀ (z : List Addr) (W : WX) (m : List Addr) (S : Sto) (σ : L2.St) (H : Hp) (x y : D) (v u : V) (Q : VK), Sim (kt X z) m S H → Rp (kt X z) m H x v → Rp (kt X z) m H y u → PostE X z W σ m H (f x y S) Q → semO X g v u H Q
/-- a built-in of one value -/
def SC1 (X : Cx) (g : Value) (f : D → Sto → Res D) : Prop :=
  ∀ (z : List Addr) (W : WX) (m : List Addr) (S : Sto) (σ : L2.St) (H : Hp) (x : D) (v : V) (Q : VK), Sim (kt X z) m S H → Rp (kt X z) m H x v → PostE X z W σ m H (f x S) Q → semC X g [v] H Q
def SC2 (X : Cx) (g : Value) (f : D → D → Sto → Res D) : Prop :=
  ∀ (z : List Addr) (W : WX) (m : List Addr) (S : Sto) (σ : L2.St) (H : Hp) (x y : D) (v u : V) (Q : VK), Sim (kt X z) m S H → Rp (kt X z) m H x v → Rp (kt X z) m H y u → PostE X z W σ m H (f x y S) Q → semC X g [v, u] H Q

section
variable {X : Cx} {z : List Addr} {W : WX} {σ : L2.St} {m : List Addr} {S : Sto} {H : Hp}
/-- nothing but a value has come -/
theorem Post.ok {α β : Type} {R : List Addr → Hp → α → β → Prop} {a : α} {b : β} {Q : β → Hp → Prop} (h : Post R X z W σ m H (.ok a S) Q) (s : Sim (kt X z) m S H) (r : R m H a b) : Q b H := h m H b .refl s r
/-- a new thing aside has come -/
theorem Post.aside {α β : Type} {R : List Addr → Hp → α → β → Prop} {a : α} {b : β} {o : HO} {p : Addr} {Q : β → Hp → Prop} (h : Post R X z W σ m H (.ok a S) Q) (s : Sim (kt X z) m S H) (hp : H p = none) (r : R m (upd H p o) a b) : Q b (upd H p o) :=
  h m _ b (.aside hp) (s.aside hp) r
theorem Rp.newTup {k : Kt} {m : List Addr} {H : Hp} {p : Addr} {ds : List D} {vs : List V} (hp : H p = none) (r : RpL k m H ds vs) : Rp k m (upd H p (.tup vs)) (.tup ds) (.ref p) := by
  simp only [Rp]
  exact ⟨p, vs, rfl, SqT.of upd_same, r.step (.aside hp)⟩
theorem Rp.newLst {k : Kt} {m : List Addr} {S : Sto} {H : Hp} {p : Addr} {ds : List D} {vs : List V} (s : Sim k m S H) (hp : H p = none) (r : RpL k m H ds vs) : Rp k m (upd H p (.lst vs)) (.lst ds) (.ref p) := by
  simp only [Rp]
  exact ⟨p, vs, rfl, upd_same, ⟨s.notin hp, s.nohid hp⟩, r.step (.aside hp)⟩
theorem listOf_at {k : Kt} {m : List Addr} {S : Sto} {H : Hp} {d : D} {v : V} {xs : List D} (s : Sim k m S H) (r : Rp k m H d v) (e : listOf S d = some xs) : ∃ p vs, v = .ref p ∧ H p = some (.lst vs) ∧ RpL k m H xs vs := by
  cases d with
  | lst ys =>
    simp only [listOf, Option.some.injEq] at e
    subst e
    simp only [Rp] at r
    obtain ⟨p, vs, h1, h2, _, h3⟩ := r
    exact ⟨p, vs, h1, h2, h3⟩
  | ref n =>
    simp only [Rp] at r
    obtain ⟨p, h1, h2⟩ := r
    simp only [listOf] at e
    cases hS : S[n]? with
    | none => rw [hS] at e; cases e
    | some o =>
      rw [hS] at e
      cases o with
      | lst ys =>
        simp only [Option.some.injEq] at e
        subst e
        obtain ⟨vs, h3, h4⟩ := s.at_ n _ p hS h1
        exact ⟨p, vs, h2, h3, h4⟩
      | _ => cases e
  | _ => cases e
theorem RpL.intsI {k : Kt} {m : List Addr} {H : Hp} : ∀ {ns : List Int}, RpL k m H (ns.map D.int) (ns.map V.int)
  | [] => RpL.nil
  | n :: ns => RpL.cons (by simp only [Rp]) RpL.intsI
theorem seqOf_at {k : Kt} {m : List Addr} {S : Sto} {H : Hp} {d : D} {v : V} {xs : List D} (s : Sim k m S H) (r : Rp k m H d v) (e : seqOf S d = some xs) : ∃ p vs, v = .ref p ∧ (SqL k.K H p vs ∨ SqT k.K H p vs) ∧ RpL k m H xs vs := by
  cases d with
  | tup ys =>
    simp only [seqOf, Option.some.injEq] at e
    subst e
    simp only [Rp] at r
    obtain ⟨p, vs, h1, h2, h3⟩ := r
    exact ⟨p, vs, h1, .inr h2, h3⟩
  | scr ns =>
    simp only [seqOf, Option.some.injEq] at e
    subst e
    simp only [Rp] at r
    obtain ⟨p, h1, h2⟩ := r
    exact ⟨p, _, h1, .inl h2.sq, RpL.intsI⟩
  | _ =>
    obtain ⟨p, vs, h1, h2, h3⟩ := listOf_at s r e
    exact ⟨p, vs, h1, .inl (SqL.of h2), h3⟩
theorem Rp.int {k : Kt} {m : List Addr} {H : Hp} {i : Int} {v : V} (r : Rp k m H (.int i) v) : v = .int i := by simpa only [Rp] using r
theorem Rp.str {k : Kt} {m : List Addr} {H : Hp} {i : Str} {v : V} (r : Rp k m H (.str i) v) : v = .str i := by simpa only [Rp] using r
theorem Rp.bl {k : Kt} {m : List Addr} {H : Hp} {i : Bool} {v : V} (r : Rp k m H (.bl i) v) : v = .bl i := by simpa only [Rp] using r
theorem Rp.tupAt {k : Kt} {m : List Addr} {H : Hp} {xs : List D} {v : V} (r : Rp k m H (.tup xs) v) : ∃ p vs, v = .ref p ∧ SqT k.K H p vs ∧ RpL k m H xs vs := by simpa only [Rp] using r
theorem Rp.intI {k : Kt} {m : List Addr} {H : Hp} {i : Int} : Rp k m H (.int i) (.int i) := by simp only [Rp]
theorem Rp.strI {k : Kt} {m : List Addr} {H : Hp} {i : Str} : Rp k m H (.str i) (.str i) := by simp only [Rp]
theorem Rp.blI {k : Kt} {m : List Addr} {H : Hp} {i : Bool} : Rp k m H (.bl i) (.bl i) := by simp only [Rp]
theorem Rp.nonI {k : Kt} {m : List Addr} {H : Hp} : Rp k m H .non .non := by simp only [Rp]

/-! ### truth -/
theorem truth_ok {x : D} {v : V} {b : Bool} (s : Sim (kt X z) m S H) (r : Rp (kt X z) m H x v) (e : truth S x = some b) : TruV X.K v H b := by
  have seq : ∀ xs, seqOf S x = some xs → b = (!xs.isEmpty) → TruV X.K v H b := fun xs e1 e2 => by
    obtain ⟨p, vs, rfl, h1, h2⟩ := seqOf_at s r e1
    have hl := h2.length
    have e3 : b = !vs.isEmpty := by rw [e2]; cases xs <;> cases vs <;> simp_all
    rcases h1 with h1 | h1
    · exact .inl ⟨vs, h1, e3⟩
    · exact .inr (.inl ⟨vs, h1, e3⟩)
  have seq' : (seqOf S x).map (fun xs => !xs.isEmpty) = some b → TruV X.K v H b := fun e => by
    cases h : seqOf S x with
    | none => rw [h] at e; cases e
    | some xs => rw [h] at e; simp at e; exact seq xs h (by rw [e]; simp)
  cases x with
  | non => simp only [Rp] at r; subst r; simp only [truth, Option.some.injEq] at e; exact e.symm
  | bl c => cases r.bl; simp only [truth, Option.some.injEq] at e; exact e.symm
  | int i => cases r.int; simp only [truth, Option.some.injEq] at e; exact e.symm
  | str z =>
    cases r.str
    simp only [truth] at e
    split at e
    · rename_i hz; simp only [Option.some.injEq] at e; exact ⟨hz, e.symm⟩
    · cases e
  | _ => exact seq' e
end
end DL
set_option Elab.async false
set_option linter.all false
set_option maxRecDepth 100000
set_option maxHeartbeats 1000000
/-! DL3: rules for expressions, operations, built-ins -/
namespace DL
open PySem PySem.Spec PyProof.Rows L2
/-- a list that nothing else leads to has come -/
def PostF (X : Cx) (z : List Addr) (W : WX) (σ : L2.St) (m : List Addr) (H : Hp) (r : Res D) (Q : VK) : Prop :=
  match r with
  | .ok d S => ∀ m' H' q vs xs, d = .lst xs → Step m H m' H' → Sim (kt X (q :: z)) m' S H' → Fre H q → q ∉ z → H' q = some (.lst vs) → RpL (kt X (q :: z)) m' H' xs vs → Q (.ref q) H'
  | .exc x d S => ∀ m' H' cls dx, Step m H m' H' → Sim (kt X z) m' S H' → ExR X z m' H' x d cls dx → W cls dx σ H'
  | .bad => False
def SF (X : Cx) (W : WX) (e : Expr) (f : Env → Sto → Res D) : Prop :=
  ∀ (z m : List Addr) (ρ : Env) (S : Sto) (σ : L2.St) (H : Hp) (Q : VK), Sim (kt X z) m S H → EnvR (kt X z) m H ρ σ → PostF X z W σ m H (f ρ S) Q → semE X e σ H Q
section
variable {X : Cx} {W : WX} {a b q : Expr} {f g h : Env → Sto → Res D} {pos : Pos}

theorem s_var {i : Nat} {x : Str} {pos : Pos} (hN : X.N[i]? = some x) (hv : Vis X.env.scope x) (hd : (x == ("__debug__" : Str)) = false) (hcd : (x == ("__classdict__" : Str)) = false) (c : Cfg) : SE X W (.Name x pos) (evE c (.var i)) := by
  intro z m ρ S σ H Q s en p
  simp only [evE] at p
  cases e : ρ[i]? with
  | none => rw [e] at p; exact p.elim
  | some o =>
    rw [e] at p
    cases o with
    | none => exact p.elim
    | some d =>
      obtain ⟨v, h1, h2⟩ := en.at_ i d e
      exact semE_of (pe_var hN hv hd hcd) ⟨v, h1, p.ok s h2⟩
theorem s_int {i : Int} {j pos} (c : Cfg) : SE X W (.Constant (.int i) j pos) (evE c (.cst (.int i))) := fun z m ρ S σ H Q s en p => semE_of pe_int (p.ok s Rp.intI)
theorem s_bl {i : Bool} {j pos} (c : Cfg) : SE X W (.Constant (.bool i) j pos) (evE c (.cst (.bl i))) := fun z m ρ S σ H Q s en p => semE_of pe_bl (p.ok s Rp.blI)
theorem s_str {i : Str} {j pos} (c : Cfg) : SE X W (.Constant (.str i) j pos) (evE c (.cst (.str i))) := fun z m ρ S σ H Q s en p => semE_of pe_str (p.ok s Rp.strI)
theorem s_non {j pos} (c : Cfg) : SE X W (.Constant .none j pos) (evE c (.cst .non)) := fun z m ρ S σ H Q s en p => semE_of pe_non (p.ok s Rp.nonI)
/-- a constant of the module -/
theorem s_glb {x : Str} {v : V} {u : Value} {d : D} {pos : Pos} (hg : Gl X x) (hm : X.mg x = some u) (r : RelV v u) (rd : ∀ z m H, Rp (kt X z) m H d v) (hd : (x == ("__debug__" : Str)) = false) (c : Cfg) (hc : c.glb x = some d) : SE X W (.Name x pos) (evE c (.glb x)) := by
  intro z m ρ S σ H Q s en p
  simp only [evE, hc] at p
  exact semE_of (pe_glob hg hm r hd) (p.ok s (rd z m H))

/-! ### arguments -/
theorem sa_nil (c : Cfg) : SA X W [] (evL c []) := fun z m ρ S σ H Q s en p => semA_of pa_nil (by
  simp only [evL] at p
  exact p.ok s RpL.nil)
theorem sa_cons {es : List Expr} {x : E} {xs : List E} (c : Cfg) (hx : ∀ e, x ≠ .star e) (ha : SE X W a (evE c x)) (hr : SA X W es (evL c xs)) (hs : starEach (a :: es) X.env = (false, eval a X.env) :: starEach es X.env) : SA X W (a :: es) (evL c (x :: xs)) := by
  intro z m ρ S σ H Q s en p
  have e1 : evL c (x :: xs) ρ S = (evE c x ρ S).bind fun d S1 => (evL c xs ρ S1).bind fun ys S2 => .ok (d :: ys) S2 := by
    cases x <;> first | rfl | exact absurd rfl (hx _)
  rw [e1] at p
  refine semA_of (pa_cons pe_sem pa_sem hs) (ha z m ρ S σ H _ s en (p.bind fun d S1 m1 H1 v st1 s1 r1 p1 => ?_))
  refine hr z m1 ρ S1 σ H1 _ s1 (en.step st1) (p1.bind fun ds S2 m2 H2 vs st2 s2 r2 p2 => ?_)
  exact p2.ok s2 (RpL.cons (r1.step st2) r2)
theorem sa_star {es : List Expr} {x : E} {xs : List E} {p0 : Pos} (c : Cfg) (ha : SE X W a (evE c x)) (hr : SA X W es (evL c xs)) (hs : starEach (.Starred a p0 :: es) X.env = (true, eval a X.env) :: starEach es X.env) : SA X W (.Starred a p0 :: es) (evL c (.star x :: xs)) := by
  intro z m ρ S σ H Q s en p
  simp only [evL] at p
  refine semA_of (StX.pa_star pe_sem pa_sem hs) (ha z m ρ S σ H _ s en (p.bind fun d S1 m1 H1 v st1 s1 r1 p1 => ?_))
  cases e : seqOf S1 d with
  | none => rw [e] at p1; exact p1.elim
  | some ys =>
    rw [e] at p1
    obtain ⟨q, vs, rfl, h1, h2⟩ := seqOf_at s1 r1 e
    refine ⟨q, vs, rfl, h1.symm, ?_⟩
    refine hr z m1 ρ S1 σ H1 _ s1 (en.step st1) (p1.bind fun ds S2 m2 H2 us st2 s2 r2 p2 => ?_)
    exact p2.ok s2 (RpL.append (h2.step st2) r2)
theorem s_tup {es : List Expr} {xs : List E} {x1 : Nat} (c : Cfg) (ha : SA X W es (evL c xs)) : SE X W (.Tuple es x1 pos) (evE c (.tup xs)) := by
  intro z m ρ S σ H Q s en p
  simp only [evE] at p
  refine semE_of (pe_tup pa_sem) (ha z m ρ S σ H _ s en (p.bind fun ds S1 m1 H1 vs st1 s1 r1 p1 => ?_))
  split at p1
  · rename_i hl
    refine ⟨by rw [← r1.length]; exact hl, fun q hq => p1.aside s1 hq (Rp.newTup hq r1)⟩
  · exact p1.elim
theorem PostF.later {z m m1 : List Addr} {σ : L2.St} {H H1 : Hp} {S1 : Sto} {r : Res D} {Q : VK} (st : Step m H m1 H1) (s1 : Sim (kt X z) m1 S1 H1) (h : PostF X z W σ m H r Q) : PostF X z W σ m1 H1 r Q := by
  cases r with
  | ok d S => exact fun m' H' q vs xs e st1 s2 h1 h2 h3 h4 => h m' H' q vs xs e (st.trans st1) s2 (st.back s1 h1) h2 h3 h4
  | exc x d S => exact fun m' H' c dx s1 s2 s3 => h m' H' c dx (st.trans s1) s2 s3
  | bad => exact h
theorem PostF.bind {α γ : Type} {R1 : List Addr → Hp → α → γ → Prop} {z m : List Addr} {σ : L2.St} {H : Hp} {r : Res α} {f : α → Sto → Res D} {Q1 : γ → Hp → Prop} {Q : VK}
    (h : PostF X z W σ m H (r.bind f) Q) (k : ∀ a S1 m1 H1 b, Step m H m1 H1 → Sim (kt X z) m1 S1 H1 → R1 m1 H1 a b → PostF X z W σ m1 H1 (f a S1) Q → Q1 b H1) : Post R1 X z W σ m H r Q1 := by
  cases r with
  | ok a S => exact fun m' H' b s1 s2 s3 => k a S m' H' b s1 s2 s3 (h.later s1 s2)
  | exc x d S => exact h
  | bad => exact h
theorem PostF.new {z m : List Addr} {σ : L2.St} {S : Sto} {H : Hp} {q : Addr} {ds : List D} {vs : List V} {Q : VK} (h : PostF X z W σ m H (.ok (.lst ds) S) Q) (s : Sim (kt X z) m S H) (hq : H q = none) (r : RpL (kt X z) m H ds vs) : Q (.ref q) (upd H q (.lst vs)) :=
  h m _ q vs ds rfl (.aside hq) (s.hide hq live_lst) (fre_none hq) (s.nohid hq) upd_same ((RpL.hide hq r).step (.aside hq))
theorem SF.se {e : Expr} (h : SF X W e f) : SE X W e f := by
  intro z m ρ S σ H Q s en p
  refine h z m ρ S σ H Q s en ?_
  cases e : f ρ S with
  | ok d S' =>
    rw [e] at p
    rintro m' H' q vs xs rfl st s1 h1 h2 h3 h4
    refine p m' H' _ st s1.unhide ?_
    simp only [Rp]
    have h6 := RpL.unhide (k := kt X z) (q := q) (e := []) (by simp) h4
    rw [List.append_nil] at h6
    exact ⟨q, vs, rfl, h3, ⟨(s1.hid q (List.mem_cons_self ..)).1, h2⟩, h6⟩
  | exc x d S' => rw [e] at p; exact p
  | bad => rw [e] at p; exact p
theorem sf_lst {es : List Expr} {xs : List E} (c : Cfg) (ha : SA X W es (evL c xs)) : SF X W (.List es pos) (evE c (.lst xs)) := by
  intro z m ρ S σ H Q s en p
  simp only [evE] at p
  refine semE_of (pe_lst pa_sem) (ha z m ρ S σ H _ s en (p.bind fun ds S1 m1 H1 vs st1 s1 r1 p1 => ?_))
  split at p1
  · rename_i hl
    refine ⟨by rw [← r1.length]; exact hl, fun q hq => p1.new s1 hq r1⟩
  · exact p1.elim
theorem s_thaw {x : E} (c : Cfg) {e : Expr} (h : SF X W e (evE c x)) : SE X W e (evE c (.thaw x)) := by
  intro z m ρ S σ H Q s en p
  simp only [evE] at p
  refine h z m ρ S σ H Q s en ?_
  cases e1 : evE c x ρ S with
  | exc x d S' => rw [e1] at p; exact p
  | bad => rw [e1] at p; exact p
  | ok d S1 =>
    rw [e1] at p
    rintro m1 H1 q vs xs rfl st1 s1 h1 h2 h3 h4
    simp only [Res.bind_ok] at p
    refine p (m1 ++ [q]) H1 _ (st1.adoptNew h1) (s1.adopt h2 h3 h4) ?_
    simp only [Rp]
    exact ⟨q, by rw [s1.len.symm]; simp, rfl⟩
end
end DL
set_option Elab.async false
set_option linter.all false
set_option maxRecDepth 100000
set_option maxHeartbeats 1000000
/-! DLm: a tuple so many times -/
namespace DL
open PySem PySem.Spec PyProof.Rows L2
theorem tuple_mul1 (l : Addr) (items : Array Value) (n : Nat) (dd : Option Addr) (sl : Array (Option Value)) (u : Tok) :
    Meets (Builtin.«tuple.__mul__» ⟨[.ref l, .int 1 u], []⟩) (fun _ R s => s.heap.get? l = some { cls := .type "tuple", dict := dd, data := .seq items n, slots := sl } ∧ R (.ok (.ret (Value.ref l))) s) :=
  .of_wp fun prog w A R s h => by
    obtain ⟨hp, g, d, tk, os⟩ := s
    obtain ⟨hl, h⟩ := h
    have f1 := AutoSeq1.idx_int
    have c1 : (items.isEmpty || (1 : Int) == 1) = true := by simp
    wp_walk using wpAny_loadPart' hl
    repeat (first
      | (refine wpAny_ite_false (decide_eq_false (by simp)) ?_; wp_walk using wpAny_loadPart' hl)
      | (refine wpAny_ite_true (decide_eq_true c1) ?_; wp_walk using wpAny_loadPart' hl))
    exact ⟨_, rfl, h⟩
theorem op_repT1 {X : Cx} {pins : List (Addr × Obj)} {σ : L2.St} {H : Hp} {s : Shared} (I : Inv X pins σ H s) {l : Addr} {xs : List V} {k : Int} {t : Tok} {Q : VK} (hT : SqT X.K H l xs) (hne : xs ≠ []) (hk : 1 ≤ k) (hk2 : k ≤ 10000) (hz : xs.length ≤ 1000)
    (q1 : k = 1 → Q (.ref l) H) (q2 : ∀ p, H p = none → Q (.ref p) (upd H p (.tup (List.replicate k.toNat xs).flatten))) :
    wpAny (model X.prog X.w) X.A (binaryOp .Mult (.ref l) (.int k t)) (fun v s' => EP X pins σ Q v s') X.xe s := by
  obtain ⟨its, r, ⟨⟨cls, dd, data, sl⟩, ho, hc, n, hd⟩, hs⟩ := I.tuple hT
  obtain rfl : cls = .type "tuple" := hc
  obtain rfl : data = .seq its.toArray n := hd
  have hle : its.length = xs.length := r.length.symm
  have hpos : 0 < its.length := by
    rw [hle]
    exact List.length_pos_iff.mpr hne
  have hi : its.toArray.isEmpty = false := by
    cases its with
    | nil => simp at hpos
    | cons a b => rfl
  by_cases h1 : k = 1
  · subst h1
    refine wpAny_binaryOp_repeat_ref (T := "tuple") (U := "int") (by decide) ⟨_, ho, rfl⟩ (fun s' => typeIs_int s' _ t) noFill_tuple_mul F.fills_int_mul F.slot_int_rmul repeat_tuple F.slot_int_index.lookup ?_
    refine call_meets F.slot_int_rmul (typeIs_int s _ t) F.entry_int_rmul (F.args_int_rmul_2 _ _) (int_rmul_tuple _ t l its.toArray n dd sl) ⟨ho, rfl, ⟨_, ho, rfl⟩, ?_⟩
    refine call_meets F.slot_tuple_mul ⟨_, ho, rfl⟩ F.entry_tuple_mul (F.args_tuple_mul_2 _ _) (tuple_mul1 l its.toArray n dd sl t) ⟨ho, ?_⟩
    exact ⟨.ref l, H, I, rfl, q1 rfl⟩
  · have hm : ((its.toArray.size : Nat) : Int) * k ≤ 10000000 := by
      rw [List.size_toArray, hle]
      have a1 : (xs.length : Int) * k ≤ 1000 * k := Int.mul_le_mul_of_nonneg_right (by omega) (by omega)
      omega
    have a2 : k.toNat * xs.length ≤ 10000 * 1000 := Nat.mul_le_mul (by omega) hz
    have flen : (List.replicate k.toNat its).flatten.length ≤ sizeLine := by
      rw [PyProof.Rows.lm_len_rep_flat, hle, sizeLine_eq]; omega
    have c0 : (decide (k < -(2 ^ 63)) || decide (k ≥ 2 ^ 63)) = false := by
      simp only [Bool.or_eq_false_iff, decide_eq_false_iff_not]; omega
    have c1 : (its.toArray.isEmpty || k == 1) = false := by
      simp only [hi, Bool.false_or, beq_eq_false_iff_ne]; exact h1
    have c2 : (decide (k ≤ 0) || its.toArray.isEmpty) = false := by
      simp only [hi, Bool.or_false, decide_eq_false_iff_not]; omega
    have c4 : Builtin.Tuple.tupleTooMany (((its.toArray.size : Nat) : Int) * k) = false := by
      unfold Builtin.Tuple.tupleTooMany
      simp only [sizeLine_eq, decide_eq_false_iff_not]; omega
    refine wpAny_binaryOp_repeat_ref (T := "tuple") (U := "int") (by decide) ⟨_, ho, rfl⟩ (fun s' => typeIs_int s' _ t) noFill_tuple_mul F.fills_int_mul F.slot_int_rmul repeat_tuple F.slot_int_index.lookup ?_
    refine call_meets F.slot_int_rmul (typeIs_int s _ t) F.entry_int_rmul (F.args_int_rmul_2 _ _) (int_rmul_tuple _ t l its.toArray n dd sl) ⟨ho, rfl, ⟨_, ho, rfl⟩, ?_⟩
    refine call_meets F.slot_tuple_mul ⟨_, ho, rfl⟩ F.entry_tuple_mul (F.args_tuple_mul_2 _ _) (tuple_mulW l its.toArray n dd sl k t c0 c1 c2 (by omega) c4 (by rw [size_rep, List.size_toArray]; exact flen)) ⟨ho, ?_⟩
    rw [size_rep]
    refine ⟨.ref s.heap.objs.size, _, I.laid (t' := s.toks) (o := .tup (List.replicate k.toNat xs).flatten) (fun b ob q => Heap.get?_push_of_some _ q) (Nat.le_refl _) ?_, rfl, q2 _ (I.hok.fresh (Nat.le_refl _))⟩
    refine ⟨?_, _, r.rep k.toNat, IsTup.new _ _⟩
    rw [PyProof.Rows.lm_len_rep_flat, sizeLine_eq]; omega
end DL
set_option Elab.async false
set_option linter.all false
set_option maxRecDepth 100000
set_option maxHeartbeats 1000000
/-! DL4: operations -/
namespace DL
open PySem PySem.Spec PyProof.Rows L2
section
variable {X : Cx} {W : WX} {a b q : Expr} {pos : Pos}

theorem s_bin {o : BOp} {op : Operator} {x y : E} (c : Cfg) (ho : SO X (binaryOp op) (bop o)) (ha : SE X W a (evE c x)) (hb : SE X W b (evE c y)) : SE X W (.BinOp a op b pos) (evE c (.bin o x y)) := by
  intro z m ρ S σ H Q s en p
  simp only [evE] at p
  refine semE_of (pe_op op_sem pe_sem pe_sem) (ha z m ρ S σ H _ s en (p.bind fun d S1 m1 H1 v st1 s1 r1 p1 => ?_))
  refine hb z m1 ρ S1 σ H1 _ s1 (en.step st1) (p1.bind fun d2 S2 m2 H2 v2 st2 s2 r2 p2 => ?_)
  exact ho z W m2 S2 σ H2 d d2 v v2 Q s2 (r1.step st2) r2 p2

/-! ### + - * // % ** -/
theorem so_addLst {z m : List Addr} {S : Sto} {σ : L2.St} {H : Hp} {x y : D} {v u : V} {Q : VK} (s : Sim (kt X z) m S H) (rx : Rp (kt X z) m H x v) (ry : Rp (kt X z) m H y u) (p : PostE X z W σ m H (addLst x y S) Q) : semO X (binaryOp .Add) v u H Q := by
  unfold addLst at p
  split at p
  · rename_i xs ys e1 e2
    split at p
    · rename_i hl
      obtain ⟨a, vs, rfl, h1, h2⟩ := listOf_at s rx e1
      obtain ⟨b, us, rfl, h3, h4⟩ := listOf_at s ry e2
      exact semO_of op_cat ⟨a, b, vs, us, rfl, rfl, h1, h3, by rw [← h2.length, ← h4.length]; exact hl, fun q hq => p.aside s hq (Rp.newLst s hq (RpL.append h2 h4))⟩
    · exact p.elim
  · exact p.elim
theorem so_add : SO X (binaryOp .Add) (bop .add) := by
  intro z W m S σ H x y v u Q s rx ry p
  simp only [bop] at p
  cases x with
  | int i =>
    cases y with
    | int j =>
      cases rx.int; cases ry.int
      exact semO_of op_add ⟨i, j, rfl, rfl, p.ok s Rp.intI⟩
    | _ => exact p.elim
  | str i =>
    cases y with
    | str j =>
      simp only [bopAdd] at p
      split at p
      · rename_i hl
        cases rx.str; cases ry.str
        exact semO_of op_add_str ⟨i, j, rfl, rfl, hl, p.ok s Rp.strI⟩
      · exact p.elim
    | _ => exact p.elim
  | tup xs =>
    cases y with
    | tup ys =>
      simp only [bopAdd] at p
      split at p
      · rename_i hl
        obtain ⟨a, vs, rfl, h1, h2⟩ := rx.tupAt
        obtain ⟨b, us, rfl, h3, h4⟩ := ry.tupAt
        refine semO_of op_catA ⟨a, b, vs, us, rfl, rfl, h1, h3, by rw [← h2.length, ← h4.length]; exact hl, fun e => ?_, fun _ e => ?_, fun _ _ q hq => ?_⟩
        · refine p.ok s ?_
          simp only [Rp]
          refine ⟨b, us, rfl, h3, ?_⟩
          have := RpL.append h2 h4
          rw [e] at this; simpa using this
        · refine p.ok s ?_
          simp only [Rp]
          refine ⟨a, vs, rfl, h1, ?_⟩
          have := RpL.append h2 h4
          rw [e] at this; simpa using this
        · exact p.aside s hq (Rp.newTup hq (RpL.append h2 h4))
      · exact p.elim
    | _ => exact p.elim
  | _ => exact so_addLst s rx ry p
theorem so_int {op : Operator} {o : BOp} {C : Int → Int → Prop} {g : Int → Int → Int} (h : OpR X (binaryOp op) (rI C fun i j => .int (g i j))) (hk : ∀ i j k, bopI o i j = some k → C i j ∧ g i j = k) : SO X (binaryOp op) (bopInt o) := by
  intro z W m S σ H x y v u Q s rx ry p
  cases x with
  | int i =>
    cases y with
    | int j =>
      simp only [bopInt] at p
      split at p
      · rename_i k e
        cases rx.int; cases ry.int
        obtain ⟨h1, rfl⟩ := hk i j k e
        exact semO_of h ⟨i, j, rfl, rfl, h1, p.ok s Rp.intI⟩
      · exact p.elim
    | _ => exact p.elim
  | _ => exact p.elim
theorem so_sub : SO X (binaryOp .Sub) (bop .sub) := so_int (o := .sub) (C := fun _ _ => True) (g := fun i j => i - j) (fun pins s σ H x y v u Q I rx ry h => op_sub pins s σ H x y v u Q I rx ry (by obtain ⟨i, j, h1, h2, _, h3⟩ := h; exact ⟨i, j, h1, h2, h3⟩)) fun i j k e => by
  simp only [bopI, Option.some.injEq] at e; exact ⟨trivial, e⟩
theorem so_mod : SO X (binaryOp .Mod) (bop .mod) := so_int (o := .mod) op_mod fun i j k e => by
  simp only [bopI] at e
  split at e
  · rename_i h; cases e; exact ⟨h, rfl⟩
  · cases e
theorem so_fdiv : SO X (binaryOp .FloorDiv) (bop .fdiv) := so_int (o := .fdiv) op_fdivW fun i j k e => by
  simp only [bopI] at e
  split at e
  · rename_i h; cases e; exact ⟨h, rfl⟩
  · cases e
theorem op_powW : OpR X (binaryOp .Pow) (rI (fun i j => 0 ≤ j ∧ (Builtin.Int.intBits i : Int) * j ≤ 2 ^ 27) fun i j => .int (i ^ j.toNat)) :=
  opI (f := binaryOp .Pow) (g := fun i j => i ^ j.toNat) fun i j t u s Q E hc h => pow_int hc.1 hc.2 h
theorem so_pow : SO X (binaryOp .Pow) (bop .pow) := so_int (o := .pow) op_powW fun i j k e => by
  simp only [bopI] at e
  split at e
  · rename_i h; cases e; exact ⟨h, rfl⟩
  · cases e
theorem mulOk_ok {i j : Int} (h : mulOk i j = true) : CMul i j ∨ CMulW i j := by
  simp only [mulOk, Bool.or_eq_true, Bool.and_eq_true, decide_eq_true_eq] at h
  rcases h with (h | h) | h
  · exact .inl (.inl h)
  · exact .inl (.inr h)
  · exact .inr h
theorem RpL.rep {k : Kt} {m : List Addr} {H : Hp} {ds : List D} {vs : List V} (h : RpL k m H ds vs) : ∀ n : Nat, RpL k m H (List.replicate n ds).flatten (List.replicate n vs).flatten
  | 0 => by simpa using RpL.nil
  | n + 1 => by simpa [List.replicate_succ] using RpL.append h (RpL.rep h n)
theorem so_mul : SO X (binaryOp .Mult) (bop .mul) := by
  intro z W m S σ H x y v u Q s rx ry p
  simp only [bop] at p
  cases y with
  | int j =>
    cases ry.int
    have lists : ∀ xs, listOf S x = some xs → repOk xs.length j = true → PostE X z W σ m H (.ok (.lst (List.replicate j.toNat xs).flatten) S) Q → semO X (binaryOp .Mult) v (.int j) H Q := fun xs e hj p => by
      obtain ⟨a, vs, rfl, h1, h2⟩ := listOf_at s rx e
      simp only [repOk, Bool.and_eq_true, decide_eq_true_eq] at hj
      refine semO_of op_rep ⟨a, j, vs, rfl, rfl, h1, by omega, by omega, ?_, fun q hq => p.aside s hq (Rp.newLst s hq (h2.rep _))⟩
      rw [← h2.length]
      have h3 : xs.length * j.toNat ≤ 1000 * 1000 := Nat.mul_le_mul hj.1.1.2 (by omega)
      rw [sizeLine_eq]; omega
    cases x with
    | int i =>
      cases rx.int
      simp only [bopMul] at p
      split at p
      · rename_i h
        rcases mulOk_ok h with h | h
        · exact semO_of op_mul ⟨i, j, rfl, rfl, h, p.ok s Rp.intI⟩
        · exact semO_of op_mulW ⟨i, j, rfl, rfl, h, p.ok s Rp.intI⟩
      · exact p.elim
    | tup xs =>
      simp only [bopMul] at p
      split at p
      · rename_i hj
        simp only [repOkT, Bool.and_eq_true, decide_eq_true_eq] at hj
        obtain ⟨a, vs, rfl, h1, h2⟩ := rx.tupAt
        have hl := h2.length
        intro pins s1 σ' v1 u1 I rv ru
        cases rv
        obtain ⟨t, rfl⟩ := ru
        refine op_repT1 I h1 (fun e => by rw [e, List.length_nil] at hl; omega) (by omega) (by omega) (by omega) (fun e => ?_) fun q hq => p.aside s hq (Rp.newTup hq (h2.rep _))
        subst e
        have e1 : (List.replicate (1 : Int).toNat xs).flatten = xs := by simp
        rw [e1] at p
        exact p.ok s rx
      · exact p.elim
    | lst xs =>
      simp only [bopMul, listOf] at p
      split at p
      · rename_i hj; exact lists xs rfl hj p
      · exact p.elim
    | ref n =>
      simp only [bopMul] at p
      split at p
      · rename_i xs e
        split at p
        · rename_i hj; exact lists xs e hj p
        · exact p.elim
      · exact p.elim
    | _ => exact p.elim
  | _ => exact p.elim
/-! lists anew -/
theorem sf_addL {x y : E} (c : Cfg) (ha : SE X W a (evE c x)) (hb : SE X W b (evE c y)) : SF X W (.BinOp a .Add b pos) (evE c (.addL x y)) := by
  intro z m ρ S σ H Q s en p
  simp only [evE] at p
  refine semE_of (pe_op op_sem pe_sem pe_sem) (ha z m ρ S σ H _ s en (p.bind fun d S1 m1 H1 v st1 s1 r1 p1 => ?_))
  refine hb z m1 ρ S1 σ H1 _ s1 (en.step st1) (p1.bind fun d2 S2 m2 H2 v2 st2 s2 r2 p2 => ?_)
  unfold addLst at p2
  split at p2
  · rename_i xs ys e1 e2
    split at p2
    · rename_i hl
      obtain ⟨a, vs, rfl, h1, h2⟩ := listOf_at s2 (r1.step st2) e1
      obtain ⟨b, us, rfl, h3, h4⟩ := listOf_at s2 r2 e2
      exact semO_of op_cat ⟨a, b, vs, us, rfl, rfl, h1, h3, by rw [← h2.length, ← h4.length]; exact hl, fun q hq => p2.new s2 hq (RpL.append h2 h4)⟩
    · exact p2.elim
  · exact p2.elim
theorem sf_repL {x y : E} (c : Cfg) (ha : SE X W a (evE c x)) (hb : SE X W b (evE c y)) : SF X W (.BinOp a .Mult b pos) (evE c (.repL x y)) := by
  intro z m ρ S σ H Q s en p
  simp only [evE] at p
  refine semE_of (pe_op op_sem pe_sem pe_sem) (ha z m ρ S σ H _ s en (p.bind fun d S1 m1 H1 v st1 s1 r1 p1 => ?_))
  refine hb z m1 ρ S1 σ H1 _ s1 (en.step st1) (p1.bind fun d2 S2 m2 H2 v2 st2 s2 r2 p2 => ?_)
  unfold repLst at p2
  split at p2
  · rename_i j
    cases r2.int
    split at p2
    · rename_i xs e1
      split at p2
      · rename_i hj
        obtain ⟨a, vs, rfl, h1, h2⟩ := listOf_at s2 (r1.step st2) e1
        simp only [repOk, Bool.and_eq_true, decide_eq_true_eq] at hj
        refine semO_of op_rep ⟨a, j, vs, rfl, rfl, h1, by omega, by omega, ?_, fun q hq => p2.new s2 hq (h2.rep _)⟩
        rw [← h2.length]
        have h3 : xs.length * j.toNat ≤ 1000 * 1000 := Nat.mul_le_mul hj.1.1.2 (by omega)
        rw [sizeLine_eq]; omega
      · exact p2.elim
    · exact p2.elim
  · exact p2.elim
end
end DL
set_option Elab.async false
set_option linter.all false
set_option maxRecDepth 100000
set_option maxHeartbeats 1000000
/-! DL5: comparisons -/
namespace DL
open PySem PySem.Spec PyProof.Rows L2
mutual
theorem dp_of {k : Kt} {m : List Addr} {H : Hp} : ∀ {d : D} {v : V}, d.pure = true → Rp k m H d v → Dp k.K H v d.toP
  | .non, v, _, h => by simp only [Rp] at h; subst h; exact .non
  | .bl b, v, _, h => by simp only [Rp] at h; subst h; exact .bl b
  | .int i, v, _, h => by simp only [Rp] at h; subst h; exact .int i
  | .str x, v, _, h => by simp only [Rp] at h; subst h; exact .str x
  | .tup xs, v, hp, h => by
    simp only [Rp] at h
    obtain ⟨p, vs, rfl, h1, h2⟩ := h
    exact .tup h1 (dpAll_of (by simpa only [D.pure] using hp) h2)
  | .lst xs, v, hp, h => by
    simp only [Rp] at h
    obtain ⟨p, vs, rfl, h1, _, h2⟩ := h
    exact .lst (SqL.of h1) (dpAll_of (by simpa only [D.pure] using hp) h2)
  | .ref _, _, hp, _ => by simp [D.pure] at hp
  | .set _, _, hp, _ => by simp [D.pure] at hp
  | .dic _ _, _, hp, _ => by simp [D.pure] at hp
  | .fn _ _, _, hp, _ => by simp [D.pure] at hp
  | .scr _, _, hp, _ => by simp [D.pure] at hp
theorem dpAll_of {k : Kt} {m : List Addr} {H : Hp} : ∀ {ds : List D} {vs : List V}, pureL ds = true → RpL k m H ds vs → DpAll k.K H vs (toPL ds)
  | [], vs, _, h => by simp only [RpL] at h; subst h; exact .nil
  | d :: ds, vs, hp, h => by
    simp only [pureL, Bool.and_eq_true] at hp
    simp only [RpL] at h
    obtain ⟨v, r, rfl, h1, h2⟩ := h
    exact .cons (dp_of hp.1 h1) (dpAll_of hp.2 h2)
end
section
variable {X : Cx} {W : WX} {a b q : Expr} {pos : Pos}
theorem see_at {z m : List Addr} {S : Sto} {H : Hp} {d e : D} {v : V} (s : Sim (kt X z) m S H) (r : Rp (kt X z) m H d v) (h : see S d = some e) : e.pure = true ∧ Dp X.K H v e.toP := by
  cases d with
  | ref n =>
    simp only [see] at h
    split at h
    · rename_i xs e1
      split at h
      · rename_i hp
        cases h
        obtain ⟨p, vs, rfl, h1, h2⟩ := listOf_at (xs := xs) s r (by simp only [listOf, e1])
        exact ⟨by simpa only [D.pure] using hp, .lst (SqL.of h1) (dpAll_of (k := kt X z) hp h2)⟩
      · cases h
    · cases h
  | _ =>
    simp only [see] at h
    split at h
    · rename_i hp
      cases h
      exact ⟨hp, dp_of (k := kt X z) hp r⟩
    · cases h
theorem okP_shaped {d : D} (h : okP d = true) : SeqAt.shaped d.toP = true := by
  simp only [okP, Bool.and_eq_true, decide_eq_true_eq] at h
  simp only [SeqAt.shaped, Bool.and_eq_true, decide_eq_true_eq]
  exact ⟨h.1, by omega⟩
theorem okP_depth {d : D} (h : okP d = true) : d.toP.depth ≤ 60 := by
  simp only [okP, Bool.and_eq_true, decide_eq_true_eq] at h
  exact h.2
/-- a comparison's answer as an operation's -/
def copD (o : COp) (a b : D) (S : Sto) : Res D := match cop o a b S with
  | some k => .ok (.bl k) S
  | none => .bad
theorem Post.blD {z m : List Addr} {σ : L2.St} {S : Sto} {H : Hp} {k : Bool} {o : COp} {a b : D} {Q : VK} (p : PostE X z W σ m H (copD o a b S) Q) (s : Sim (kt X z) m S H) (e : cop o a b S = some k) : Q (.bl k) H := by
  simp only [copD, e] at p
  exact p.ok s Rp.blI
theorem copD_some {z m : List Addr} {σ : L2.St} {S : Sto} {H : Hp} {o : COp} {a b : D} {Q : VK} (p : PostE X z W σ m H (copD o a b S) Q) : ∃ k, cop o a b S = some k := by
  unfold copD at p
  split at p
  · rename_i k e; exact ⟨k, e⟩
  · exact p.elim
theorem eqC_some {S : Sto} {x y : D} {k : Bool} (e : eqC S x y = some k) : (∃ a b, x = .str a ∧ y = .str b ∧ k = decide (a = b)) ∨ ∃ a b, see S x = some a ∧ see S y = some b ∧ okP a = true ∧ okP b = true ∧ k = eqD a b := by
  unfold eqC at e
  split at e
  · exact .inl ⟨_, _, rfl, rfl, (Option.some.inj e).symm⟩
  · split at e
    · rename_i a b e1 e2
      split at e
      · rename_i h
        simp only [Bool.and_eq_true] at h
        exact .inr ⟨a, b, e1, e2, h.1, h.2, (Option.some.inj e).symm⟩
      · cases e
    · cases e
theorem so_eq (hu : X.A.units + 64 < cLine) : SO X (compareOp .Eq) (copD .eq) := by
  intro z W m S σ H x y v u Q s rx ry p
  obtain ⟨k, e⟩ := copD_some p
  have q := p.blD s e
  simp only [cop] at e
  rcases eqC_some e with ⟨a, b, rfl, rfl, rfl⟩ | ⟨a, b, e1, e2, h1, h2, rfl⟩
  · have r1 : v = .str a := by simpa only [Rp] using rx
    have r2 : u = .str b := by simpa only [Rp] using ry
    subst r1; subst r2
    refine semO_of op_eq ⟨rfl, ?_⟩
    have : decide (V.str a = V.str b) = decide (a = b) := by simp
    rw [this]
    exact q
  · exact semO_of (op_eqD hu) ⟨_, _, (see_at s rx e1).2, (see_at s ry e2).2, okP_shaped h1, okP_shaped h2, q⟩
theorem so_ne (hu : X.A.units + 64 < cLine) : SO X (compareOp .NotEq) (copD .ne) := by
  intro z W m S σ H x y v u Q s rx ry p
  obtain ⟨k, e⟩ := copD_some p
  have q := p.blD s e
  simp only [cop, Option.map_eq_some_iff] at e
  obtain ⟨k, e, rfl⟩ := e
  rcases eqC_some e with ⟨a, b, rfl, rfl, rfl⟩ | ⟨a, b, e1, e2, h1, h2, rfl⟩
  · have r1 : v = .str a := by simpa only [Rp] using rx
    have r2 : u = .str b := by simpa only [Rp] using ry
    subst r1; subst r2
    refine semO_of op_ne ⟨rfl, ?_⟩
    have : (!decide (V.str a = V.str b)) = !decide (a = b) := by simp
    first | (rw [this]; exact q) | (have h2 : decide (V.str a ≠ V.str b) = !decide (a = b) := by simp
                                    rw [h2]; exact q)
  · exact semO_of (op_neD hu) ⟨_, _, (see_at s rx e1).2, (see_at s ry e2).2, okP_shaped h1, okP_shaped h2, q⟩
theorem so_cmpI {op : CmpOp} {o : COp} {g : Int → Int → Bool} (h : OpR X (compareOp op) (rI0 fun i j => .bl (g i j))) (hc : ∀ x y S k, cop o x y S = some k → ∃ i j, x = .int i ∧ y = .int j ∧ k = g i j) : SO X (compareOp op) (copD o) := by
  intro z W m S σ H x y v u Q s rx ry p
  obtain ⟨k, e⟩ := copD_some p
  have q := p.blD s e
  obtain ⟨i, j, rfl, rfl, rfl⟩ := hc x y S k e
  cases rx.int; cases ry.int
  exact semO_of h ⟨i, j, rfl, rfl, q⟩
theorem so_le : SO X (compareOp .LtE) (copD .le) := so_cmpI op_le fun x y S k e => by
  simp only [cop] at e
  split at e
  · cases e; exact ⟨_, _, rfl, rfl, rfl⟩
  · cases e
theorem so_gt : SO X (compareOp .Gt) (copD .gt) := so_cmpI op_gt fun x y S k e => by
  simp only [cop] at e
  split at e
  · cases e; exact ⟨_, _, rfl, rfl, rfl⟩
  · cases e
theorem so_ge : SO X (compareOp .GtE) (copD .ge) := so_cmpI op_ge fun x y S k e => by
  simp only [cop] at e
  split at e
  · cases e; exact ⟨_, _, rfl, rfl, rfl⟩
  · cases e
/-- a < b of data whose places are alike -/
theorem op_ltD (hu : X.A.units + 64 < cLine) : OpR X (compareOp .Lt) (fun x y H Q => ∃ d e, Dp X.K H x d ∧ Dp X.K H y e ∧ PySem.W.alike d e = true ∧ d ≠ .none ∧ d.depth ≤ 60 ∧ Q (.bl (PySem.W.dataLt d e)) H) := by
  intro pins s σ H x y v u Q I rx ry h
  obtain ⟨d, e, hd, he, ha, hn, hdp, q⟩ := h
  obtain ⟨as, r1⟩ := Dp.reads I d x v hd rx
  obtain ⟨bs, r2⟩ := Dp.reads I e y u he ry
  exact PySem.W.rcLt_alike d e X.A s v u as bs r1 r2 ha hn (by have := Nat.min_le_left d.depth e.depth; omega) _ _ _ _ ⟨.bl _, H, I, rfl, q⟩
theorem so_lt (hu : X.A.units + 64 < cLine) : SO X (compareOp .Lt) (copD .lt) := by
  intro z W m S σ H x y v u Q s rx ry p
  obtain ⟨k, e⟩ := copD_some p
  have q := p.blD s e
  simp only [cop] at e
  split at e
  · cases e
    cases rx.int; cases ry.int
    exact semO_of op_lt ⟨_, _, rfl, rfl, q⟩
  · rename_i xs ys
    split at e
    · rename_i h
      simp only [Bool.and_eq_true] at h
      cases e
      refine semO_of (op_ltD hu) ⟨_, _, dp_of (k := kt X z) (d := .tup xs) (by simpa only [D.pure] using h.1.1.1.1) rx, dp_of (k := kt X z) (d := .tup ys) (by simpa only [D.pure] using h.1.1.1.2) ry, h.2, (by intro e; cases e), okP_depth h.1.1.2, q⟩
    · cases e
  · cases e
/-- what isn't None stands so -/
theorem rp_non {k : Kt} {m : List Addr} {H : Hp} {d : D} {v : V} (r : Rp k m H d v) : decide (v = .non) = isNonD d := by
  cases d with
  | non => simp only [Rp] at r; subst r; rfl
  | bl b => cases r.bl; rfl
  | int b => cases r.int; rfl
  | str b => cases r.str; rfl
  | tup xs => obtain ⟨p, vs, rfl, _⟩ := r.tupAt; rfl
  | lst xs => simp only [Rp] at r; obtain ⟨p, vs, rfl, _⟩ := r; rfl
  | ref xs => simp only [Rp] at r; obtain ⟨p, _, rfl⟩ := r; rfl
  | set xs => simp only [Rp] at r; obtain ⟨p, rfl, _⟩ := r; rfl
  | dic _ _ => simp only [Rp] at r
  | fn _ _ => simp only [Rp] at r; obtain ⟨_, rfl⟩ := r; rfl
  | scr _ => simp only [Rp] at r; obtain ⟨p, rfl, _⟩ := r; rfl
  | err _ _ => simp only [Rp] at r; obtain ⟨_, _, _, _, rfl, _⟩ := r; rfl
theorem so_is : SO X (compareOp .Is) (copD .isNon) := by
  intro z W m S σ H x y v u Q s rx ry p
  obtain ⟨k, e⟩ := copD_some p
  have q := p.blD s e
  simp only [cop] at e
  split at e
  · cases e
    simp only [Rp] at ry; subst ry
    exact semO_of op_isN ⟨rfl, by rw [rp_non rx]; exact q⟩
  · cases e
theorem so_isNot : SO X (compareOp .IsNot) (copD .notNon) := by
  intro z W m S σ H x y v u Q s rx ry p
  obtain ⟨k, e⟩ := copD_some p
  have q := p.blD s e
  simp only [cop] at e
  split at e
  · cases e
    simp only [Rp] at ry; subst ry
    exact semO_of op_notN ⟨rfl, by rw [rp_non rx]; exact q⟩
  · cases e
end
end DL
set_option Elab.async false
set_option linter.all false
set_option maxRecDepth 100000
set_option maxHeartbeats 1000000
/-! DL6: tests, and, or, not, choices -/
namespace DL
open PySem PySem.Spec PyProof.Rows L2
section
variable {X : Cx} {W : WX} {a b d q : Expr} {pos : Pos} {c : Cfg} {x y w qx : E}

theorem evE_cmp (o : COp) (x y : E) (ρ : Env) (S : Sto) : evE c (.cmp o x y) ρ S = (evE c x ρ S).bind fun d1 S1 => (evE c y ρ S1).bind fun d2 S2 => copD o d1 d2 S2 := rfl
theorem s_cmp {o : COp} {op : CmpOp} (ho : SO X (compareOp op) (copD o)) (ha : SE X W a (evE c x)) (hb : SE X W b (evE c y)) (hm : behindInMarks op b = false) : SE X W (.Compare a [op] [b] pos) (evE c (.cmp o x y)) := by
  intro z m ρ S σ H Q s en p
  rw [evE_cmp] at p
  refine semE_of (pe_cmpR op_sem pe_sem pe_sem hm) (ha z m ρ S σ H _ s en (p.bind fun d S1 m1 H1 v st1 s1 r1 p1 => ?_))
  refine hb z m1 ρ S1 σ H1 _ s1 (en.step st1) (p1.bind fun d2 S2 m2 H2 v2 st2 s2 r2 p2 => ?_)
  exact ho z W m2 S2 σ H2 d d2 v v2 Q s2 (r1.step st2) r2 p2
/-- the test of a value -/
theorem evT_eq (e : E) (ρ : Env) (S : Sto) : evT c e ρ S = (evE c e ρ S).bind fun d S1 => match truth S1 d with
  | some b => .ok b S1
  | none => .bad := rfl
theorem t_of {e : Expr} (h : SE X W e (evE c x)) (he : ∀ whole, isTrue e X.env whole = (do let v ← whole; standAt e.pos; holding [v] (truthy v))) : STe X W e (evT c x) := by
  intro z m ρ S σ H Q s en p
  rw [evT_eq] at p
  refine semT_of (pt_truth pe_sem he) (h z m ρ S σ H _ s en (p.bind fun d S1 m1 H1 v st1 s1 r1 p1 => ?_))
  split at p1
  · rename_i k e1
    exact ⟨k, truth_ok s1 r1 e1, p1.ok s1 rfl⟩
  · exact p1.elim
theorem copD_bind (o : COp) (d1 d2 : D) (S : Sto) : ((copD o d1 d2 S).bind fun d S1 => match truth S1 d with
    | some b => Res.ok b S1
    | none => .bad) = match cop o d1 d2 S with
    | some k => .ok k S
    | none => .bad := by
  unfold copD
  cases cop o d1 d2 S <;> rfl
theorem Res.bind_assoc {α β γ : Type} (r : Res α) (f : α → Sto → Res β) (g : β → Sto → Res γ) : (r.bind f).bind g = r.bind fun a S => (f a S).bind g := by
  cases r <;> rfl
theorem t_cmp {o : COp} {op : CmpOp} (ho : SO X (compareOp op) (copD o)) (ha : SE X W a (evE c x)) (hb : SE X W b (evE c y)) (hm : behindInMarks op b = false) : STe X W (.Compare a [op] [b] pos) (evT c (.cmp o x y)) := by
  intro z m ρ S σ H Q s en p
  rw [evT_eq, evE_cmp, Res.bind_assoc] at p
  refine semT_of (pt_cmpR op_sem pe_sem pe_sem hm) (ha z m ρ S σ H _ s en (p.bind fun d S1 m1 H1 v st1 s1 r1 p1 => ?_))
  rw [Res.bind_assoc] at p1
  refine hb z m1 ρ S1 σ H1 _ s1 (en.step st1) (p1.bind fun d2 S2 m2 H2 v2 st2 s2 r2 p2 => ?_)
  refine ho z W m2 S2 σ H2 d d2 v v2 _ s2 (r1.step st2) r2 ?_
  rw [copD_bind] at p2
  unfold copD
  split at p2
  · rename_i k e
    try rw [e]
    intro m' H' b st3 s3 r3
    have e3 := Rp.bl r3
    exact ⟨k, e3, p2 m' H' k st3 s3 rfl⟩
  · exact p2.elim
theorem evE_chain (o1 o2 : COp) (x y w : E) (ρ : Env) (S : Sto) : evE c (.chain o1 o2 x y w) ρ S = (evE c x ρ S).bind fun d1 S1 => (evE c y ρ S1).bind fun d2 S2 => match cop o1 d1 d2 S2 with
    | some true => (evE c w ρ S2).bind fun d3 S3 => copD o2 d2 d3 S3
    | some false => .ok (.bl false) S2
    | none => .bad := rfl
theorem s_chain {o1 o2 : COp} {op1 op2 : CmpOp} (h1 : SO X (compareOp op1) (copD o1)) (h2 : SO X (compareOp op2) (copD o2)) (ha : SE X W a (evE c x)) (hb : SE X W b (evE c y)) (hd : SE X W d (evE c w)) (hm : lastMarks [op1, op2] [b, d] = false) :
    SE X W (.Compare a [op1, op2] [b, d] pos) (evE c (.chain o1 o2 x y w)) := by
  intro z m ρ S σ H Q s en p
  rw [evE_chain] at p
  refine semE_of (pe_chain op_sem op_sem pe_sem pe_sem pe_sem hm) (ha z m ρ S σ H _ s en (p.bind fun d S1 m1 H1 v st1 s1 r1 p1 => ?_))
  refine hb z m1 ρ S1 σ H1 _ s1 (en.step st1) (p1.bind fun d2 S2 m2 H2 v2 st2 s2 r2 p2 => ?_)
  refine h1 z W m2 S2 σ H2 d d2 v v2 _ s2 (r1.step st2) r2 ?_
  unfold copD
  split at p2
  · rename_i e
    try rw [e]
    intro m' H' b st3 s3 r3
    refine ⟨true, Rp.bl r3, iteT ?_⟩
    refine hd z m' ρ S2 σ H' _ s3 (((en.step st1).step st2).step st3) ((p2.later st3).bind fun d3 S3 m3 H3 v3 st4 s4 r4 p4 => ?_)
    exact h2 z W m3 S3 σ H3 d2 d3 v2 v3 Q s4 ((r2.step st3).step st4) r4 p4
  · rename_i e
    try rw [e]
    intro m' H' b st3 s3 r3
    exact ⟨false, Rp.bl r3, iteF (p2 m' H' _ st3 s3 Rp.blI)⟩
  · exact p2.elim
theorem t_chain {o1 o2 : COp} {op1 op2 : CmpOp} (h1 : SO X (compareOp op1) (copD o1)) (h2 : SO X (compareOp op2) (copD o2)) (ha : SE X W a (evE c x)) (hb : SE X W b (evE c y)) (hd : SE X W d (evE c w)) (hm : lastMarks [op1, op2] [b, d] = false) :
    STe X W (.Compare a [op1, op2] [b, d] pos) (evT c (.chain o1 o2 x y w)) := by
  intro z m ρ S σ H Q s en p
  rw [evT_eq, evE_chain, Res.bind_assoc] at p
  refine semT_of (pt_chain op_sem op_sem pe_sem pe_sem pe_sem hm) (ha z m ρ S σ H _ s en (p.bind fun d S1 m1 H1 v st1 s1 r1 p1 => ?_))
  rw [Res.bind_assoc] at p1
  refine hb z m1 ρ S1 σ H1 _ s1 (en.step st1) (p1.bind fun d2 S2 m2 H2 v2 st2 s2 r2 p2 => ?_)
  refine h1 z W m2 S2 σ H2 d d2 v v2 _ s2 (r1.step st2) r2 ?_
  unfold copD
  split at p2
  · rename_i e
    try rw [e]
    intro m' H' b st3 s3 r3
    refine ⟨true, Rp.bl r3, iteT ?_⟩
    rw [Res.bind_assoc] at p2
    refine hd z m' ρ S2 σ H' _ s3 (((en.step st1).step st2).step st3) ((p2.later st3).bind fun d3 S3 m3 H3 v3 st4 s4 r4 p4 => ?_)
    refine h2 z W m3 S3 σ H3 d2 d3 v2 v3 _ s4 ((r2.step st3).step st4) r4 ?_
    rw [copD_bind] at p4
    unfold copD
    split at p4
    · rename_i k e
      try rw [e]
      intro m' H' b st3 s3 r3
      exact ⟨k, Rp.bl r3, p4 m' H' k st3 s3 rfl⟩
    · exact p4.elim
  · rename_i e
    try rw [e]
    intro m' H' b st3 s3 r3
    refine ⟨true && false, Rp.bl r3, iteF ⟨false, rfl, p2 m' H' false st3 s3 rfl⟩⟩
  · exact p2.elim
/-! ### and, or, not -/
theorem s_and {rest : List Expr} (ha : SE X W a (evE c x)) (hb : SE X W (.BoolOp .And (b :: rest) pos) (evE c y)) : SE X W (.BoolOp .And (a :: b :: rest) pos) (evE c (.and x y)) := by
  intro z m ρ S σ H Q s en p
  simp only [evE] at p
  refine semE_of (pe_andT pe_sem pe_sem) (ha z m ρ S σ H _ s en (p.bind fun d S1 m1 H1 v st1 s1 r1 p1 => ?_))
  split at p1
  · rename_i e1
    exact ⟨true, truth_ok s1 r1 e1, iteT (hb z m1 ρ S1 σ H1 _ s1 (en.step st1) p1)⟩
  · rename_i e1
    exact ⟨false, truth_ok s1 r1 e1, iteF (p1.ok s1 r1)⟩
  · exact p1.elim
theorem s_or {rest : List Expr} (ha : SE X W a (evE c x)) (hb : SE X W (.BoolOp .Or (b :: rest) pos) (evE c y)) : SE X W (.BoolOp .Or (a :: b :: rest) pos) (evE c (.or x y)) := by
  intro z m ρ S σ H Q s en p
  simp only [evE] at p
  refine semE_of (pe_orT pe_sem pe_sem) (ha z m ρ S σ H _ s en (p.bind fun d S1 m1 H1 v st1 s1 r1 p1 => ?_))
  split at p1
  · rename_i e1
    exact ⟨true, truth_ok s1 r1 e1, iteT (p1.ok s1 r1)⟩
  · rename_i e1
    exact ⟨false, truth_ok s1 r1 e1, iteF (hb z m1 ρ S1 σ H1 _ s1 (en.step st1) p1)⟩
  · exact p1.elim
theorem s_one {op : PySem.BoolOp} (ha : SE X W a (evE c x)) : SE X W (.BoolOp op [a] pos) (evE c x) := fun z m ρ S σ H Q s en p => semE_of (pe_one pe_sem) (ha z m ρ S σ H Q s en p)
theorem s_not (ha : SE X W a (evE c x)) : SE X W (.UnaryOp .Not a pos) (evE c (.not x)) := by
  intro z m ρ S σ H Q s en p
  simp only [evE] at p
  refine semE_of (pe_notT pe_sem) (ha z m ρ S σ H _ s en (p.bind fun d S1 m1 H1 v st1 s1 r1 p1 => ?_))
  split at p1
  · rename_i k e1
    exact ⟨k, truth_ok s1 r1 e1, p1.ok s1 Rp.blI⟩
  · exact p1.elim
theorem s_neg (ha : SE X W a (evE c x)) : SE X W (.UnaryOp .USub a pos) (evE c (.neg x)) := by
  intro z m ρ S σ H Q s en p
  simp only [evE] at p
  refine semE_of (pe_un un_neg pe_sem) (ha z m ρ S σ H _ s en (p.bind fun d S1 m1 H1 v st1 s1 r1 p1 => ?_))
  cases d with
  | int i => cases r1.int; exact ⟨i, rfl, p1.ok s1 Rp.intI⟩
  | _ => exact p1.elim
/-- and, or as a test -/
theorem evT_and (x y : E) (ρ : Env) (S : Sto) : evT c (.and x y) ρ S = (evT c x ρ S).bind fun k S1 => if k then evT c y ρ S1 else .ok false S1 := by
  rw [evT_eq, evT_eq]
  simp only [evE]
  cases evE c x ρ S with
  | exc _ _ _ => rfl
  | bad => rfl
  | ok d S1 =>
    simp only [Res.bind_ok]
    cases e : truth S1 d with
    | none => rfl
    | some k => cases k <;> simp [evT_eq, e]
theorem evT_or (x y : E) (ρ : Env) (S : Sto) : evT c (.or x y) ρ S = (evT c x ρ S).bind fun k S1 => if k then .ok true S1 else evT c y ρ S1 := by
  rw [evT_eq, evT_eq]
  simp only [evE]
  cases evE c x ρ S with
  | exc _ _ _ => rfl
  | bad => rfl
  | ok d S1 =>
    simp only [Res.bind_ok]
    cases e : truth S1 d with
    | none => rfl
    | some k => cases k <;> simp [evT_eq, e]
theorem evT_not (x : E) (ρ : Env) (S : Sto) : evT c (.not x) ρ S = (evT c x ρ S).bind fun k S1 => .ok (!k) S1 := by
  rw [evT_eq, evT_eq]
  simp only [evE]
  cases evE c x ρ S with
  | exc _ _ _ => rfl
  | bad => rfl
  | ok d S1 =>
    simp only [Res.bind_ok]
    cases e : truth S1 d with
    | none => rfl
    | some k => cases k <;> rfl
theorem w_and1 (ha : STe X W a (evT c x)) : SWe X W (.BoolOp .And [a] pos) (evT c x) := fun z m ρ S σ H Q s en p => semW_of (pw_and1 pt_sem) (ha z m ρ S σ H Q s en p)
theorem w_or1 (ha : STe X W a (evT c x)) : SWe X W (.BoolOp .Or [a] pos) (evT c x) := fun z m ρ S σ H Q s en p => semW_of (pw_or1 pt_sem) (ha z m ρ S σ H Q s en p)
theorem w_and {rest : List Expr} (ha : STe X W a (evT c x)) (hb : SWe X W (.BoolOp .And (b :: rest) pos) (evT c y)) : SWe X W (.BoolOp .And (a :: b :: rest) pos) (evT c (.and x y)) := by
  intro z m ρ S σ H Q s en p
  rw [evT_and] at p
  refine semW_of (pw_and pt_sem pw_sem) (ha z m ρ S σ H _ s en (p.bind fun k S1 m1 H1 v st1 s1 r1 p1 => ?_))
  cases r1
  cases k with
  | true => exact iteT (hb z m1 ρ S1 σ H1 _ s1 (en.step st1) p1)
  | false => exact iteF (p1.ok s1 rfl)
theorem w_or {rest : List Expr} (ha : STe X W a (evT c x)) (hb : SWe X W (.BoolOp .Or (b :: rest) pos) (evT c y)) : SWe X W (.BoolOp .Or (a :: b :: rest) pos) (evT c (.or x y)) := by
  intro z m ρ S σ H Q s en p
  rw [evT_or] at p
  refine semW_of (pw_or pt_sem pw_sem) (ha z m ρ S σ H _ s en (p.bind fun k S1 m1 H1 v st1 s1 r1 p1 => ?_))
  cases r1
  cases k with
  | true => exact iteT (p1.ok s1 rfl)
  | false => exact iteF (hb z m1 ρ S1 σ H1 _ s1 (en.step st1) p1)
theorem t_of_w {e : Expr} (h : SWe X W e (evT c x)) : STe X W e (evT c x) := fun z m ρ S σ H Q s en p => semT_of (PW.pt pw_sem) (h z m ρ S σ H Q s en p)
theorem t_not (ha : STe X W a (evT c x)) : STe X W (.UnaryOp .Not a pos) (evT c (.not x)) := by
  intro z m ρ S σ H Q s en p
  rw [evT_not] at p
  refine semT_of (pt_not pt_sem) (ha z m ρ S σ H _ s en (p.bind fun k S1 m1 H1 v st1 s1 r1 p1 => ?_))
  cases r1
  exact p1.ok s1 rfl
theorem evE_ite (qx x y : E) (ρ : Env) (S : Sto) : evE c (.ite qx x y) ρ S = (evT c qx ρ S).bind fun k S1 => if k then evE c x ρ S1 else evE c y ρ S1 := by
  rw [evT_eq]
  simp only [evE]
  cases evE c qx ρ S with
  | exc _ _ _ => rfl
  | bad => rfl
  | ok d S1 =>
    simp only [Res.bind_ok]
    cases e : truth S1 d with
    | none => rfl
    | some k => cases k <;> rfl
theorem s_ite (hq : STe X W q (evT c qx)) (ha : SE X W a (evE c x)) (hb : SE X W b (evE c y)) : SE X W (.IfExp q a b pos) (evE c (.ite qx x y)) := by
  intro z m ρ S σ H Q s en p
  rw [evE_ite] at p
  refine semE_of (pe_ifExp pt_sem pe_sem pe_sem) (hq z m ρ S σ H _ s en (p.bind fun k S1 m1 H1 v st1 s1 r1 p1 => ?_))
  cases r1
  cases k with
  | true => exact iteT (ha z m1 ρ S1 σ H1 _ s1 (en.step st1) p1)
  | false => exact iteF (hb z m1 ρ S1 σ H1 _ s1 (en.step st1) p1)
end
end DL
set_option Elab.async false
set_option linter.all false
set_option maxRecDepth 100000
set_option maxHeartbeats 1000000
/-! DL7: built-ins, items, slices -/
namespace DL
open PySem PySem.Spec PyProof.Rows L2
section
variable {X : Cx} {W : WX} {a b e : Expr} {pos pn : Pos} {c : Cfg} {x y w : E}

theorem intsOf_eq : ∀ {xs : List D} {ns : List Int}, intsOf xs = some ns → xs = ns.map D.int
  | [], ns, h => by simp only [intsOf, Option.some.injEq] at h; subst h; rfl
  | d :: xs, ns, h => by
    cases d with
    | int i =>
      simp only [intsOf] at h
      cases e : intsOf xs with
      | none => rw [e] at h; cases h
      | some ms => rw [e] at h; simp at h; subst h; simp [intsOf_eq e]
    | _ => simp [intsOf] at h
theorem blsOf_eq : ∀ {xs : List D} {ns : List Bool}, blsOf xs = some ns → xs = ns.map D.bl
  | [], ns, h => by simp only [blsOf, Option.some.injEq] at h; subst h; rfl
  | d :: xs, ns, h => by
    cases d with
    | bl i =>
      simp only [blsOf] at h
      cases e : blsOf xs with
      | none => rw [e] at h; cases h
      | some ms => rw [e] at h; simp at h; subst h; simp [blsOf_eq e]
    | _ => simp [blsOf] at h
theorem RpL.ints {k : Kt} {m : List Addr} {H : Hp} : ∀ {ns : List Int} {vs : List V}, RpL k m H (ns.map D.int) vs → vs = ns.map V.int
  | [], vs, h => by simpa only [List.map_nil, RpL] using h
  | n :: ns, vs, h => by
    simp only [List.map_cons, RpL] at h
    obtain ⟨v, r, rfl, h1, h2⟩ := h
    rw [h1.int, RpL.ints h2]; rfl
theorem RpL.bls {k : Kt} {m : List Addr} {H : Hp} : ∀ {ns : List Bool} {vs : List V}, RpL k m H (ns.map D.bl) vs → vs = ns.map V.bl
  | [], vs, h => by simpa only [List.map_nil, RpL] using h
  | n :: ns, vs, h => by
    simp only [List.map_cons, RpL] at h
    obtain ⟨v, r, rfl, h1, h2⟩ := h
    rw [h1.bl, RpL.bls h2]; rfl
theorem RpL.intsI' {k : Kt} {m : List Addr} {H : Hp} : ∀ {ns : List Int}, RpL k m H (ns.map D.int) (ns.map V.int)
  | [] => RpL.nil
  | n :: ns => RpL.cons Rp.intI RpL.intsI
/-- a call of a built-in by its name -/
theorem s_b1 {nm : Str} {id : String} {f : D → Sto → Res D} {y : E} (hc : SC1 X (.builtin id) f) (hg : Gl X nm) (hm : X.mg nm = none) (hv : bootBuiltins nm = some (.builtin id)) (hn : nm ≠ "__name__") (hdb : (nm == ("__debug__" : Str)) = false)
    (ha : SE X W a (evE c x)) (hs : starEach [a] X.env = (false, eval a X.env) :: starEach [] X.env) (hy : ∀ ρ S, evE c y ρ S = (evE c x ρ S).bind f) : SE X W (.Call (.Name nm pn) [a] [] pos) (evE c y) := by
  intro z m ρ S σ H Q s en p
  rw [hy] at p
  refine semE_of (pe_callB call_sem hg hm hv (pa_cons pe_sem pa_nil hs) hn hdb hs (by rfl)) (ha z m ρ S σ H _ s en (p.bind fun d S1 m1 H1 v st1 s1 r1 p1 => ?_))
  exact hc z W m1 S1 σ H1 d v Q s1 r1 p1
theorem s_ty1 {nm : Str} {id : String} {f : D → Sto → Res D} {y : E} (hc : SC1 X (.type id) f) (hg : Gl X nm) (hm : X.mg nm = none) (hv : bootBuiltins nm = some (.type id)) (hn : nm ≠ "__name__") (hdb : (nm == ("__debug__" : Str)) = false)
    (ha : SE X W a (evE c x)) (hs : starEach [a] X.env = (false, eval a X.env) :: starEach [] X.env) (hy : ∀ ρ S, evE c y ρ S = (evE c x ρ S).bind f) : SE X W (.Call (.Name nm pn) [a] [] pos) (evE c y) := by
  intro z m ρ S σ H Q s en p
  rw [hy] at p
  refine semE_of (pe_callTy call_sem hg hm hv (pa_cons pe_sem pa_nil hs) hn hdb hs (by rfl)) (ha z m ρ S σ H _ s en (p.bind fun d S1 m1 H1 v st1 s1 r1 p1 => ?_))
  exact hc z W m1 S1 σ H1 d v Q s1 r1 p1
theorem s_b2 {nm : Str} {id : String} {f : D → D → Sto → Res D} {w : E} (hc : SC2 X (.builtin id) f) (hg : Gl X nm) (hm : X.mg nm = none) (hv : bootBuiltins nm = some (.builtin id)) (hn : nm ≠ "__name__") (hdb : (nm == ("__debug__" : Str)) = false)
    (ha : SE X W a (evE c x)) (hb : SE X W b (evE c y)) (hs : starEach [a, b] X.env = (false, eval a X.env) :: starEach [b] X.env) (hs2 : starEach [b] X.env = (false, eval b X.env) :: starEach [] X.env) (hpl : (backTo pos (starEach [b] X.env)).any (·.1) = false)
    (hy : ∀ ρ S, evE c w ρ S = (evE c x ρ S).bind fun d S1 => (evE c y ρ S1).bind fun d2 S2 => f d d2 S2) : SE X W (.Call (.Name nm pn) [a, b] [] pos) (evE c w) := by
  intro z m ρ S σ H Q s en p
  rw [hy] at p
  refine semE_of (pe_callB call_sem hg hm hv (pa_cons pe_sem (pa_cons pe_sem pa_nil hs2) hs) hn hdb hs hpl) (ha z m ρ S σ H _ s en (p.bind fun d S1 m1 H1 v st1 s1 r1 p1 => ?_))
  refine hb z m1 ρ S1 σ H1 _ s1 (en.step st1) (p1.bind fun d2 S2 m2 H2 v2 st2 s2 r2 p2 => ?_)
  exact hc z W m2 S2 σ H2 d d2 v v2 Q s2 (r1.step st2) r2 p2
/-! ### each one -/
theorem sc_len : SC1 X (.builtin "len") (p1 .len) := by
  intro z W m S σ H d v Q s r p
  simp only [p1] at p
  split at p
  · rename_i n e1
    have q := p.ok s (b := .int n) Rp.intI
    refine semC_of call_len ⟨v, n, rfl, ?_, q⟩
    have seq : (seqOf S d).map List.length = some n → LenV X.K v H n := fun h => by
      cases e : seqOf S d with
      | none => rw [e] at h; cases h
      | some xs =>
        rw [e] at h; simp at h; subst h
        obtain ⟨q, vs, rfl, h1, h2⟩ := seqOf_at s r e
        rcases h1 with h1 | h1
        · exact .inl ⟨vs, h1, h2.length⟩
        · exact .inr ⟨vs, h1, h2.length⟩
    cases d with
    | str t =>
      cases r.str
      simp only [lenOf] at e1
      split at e1
      · rename_i h; cases e1; exact ⟨h, rfl⟩
      · cases e1
    | _ => exact seq e1
  · exact p.elim
theorem sc_abs : SC1 X (.builtin "abs") (p1 .abs) := by
  intro z W m S σ H d v Q s r p
  cases d with
  | int i => cases r.int; exact semC_of call_abs ⟨i, rfl, p.ok s Rp.intI⟩
  | _ => exact p.elim
theorem sc_int : SC1 X (.type "int") (p1 .int) := by
  intro z W m S σ H d v Q s r p
  cases d with
  | int i => cases r.int; exact semC_of call_int1 (.inl ⟨i, rfl, p.ok s Rp.intI⟩)
  | bl i => cases r.bl; exact semC_of call_int1 (.inr ⟨i, rfl, p.ok s Rp.intI⟩)
  | _ => exact p.elim
theorem sc_str : SC1 X (.type "str") (p1 .str) := by
  intro z W m S σ H d v Q s r p
  cases d with
  | int i =>
    cases r.int
    simp only [p1] at p
    split at p
    · rename_i h
      exact semC_of call_str_int ⟨i, rfl, h, p.ok s Rp.strI⟩
    · exact p.elim
  | _ => exact p.elim
theorem sc_sum (hc : X.calm = true) : SC1 X (.builtin "sum") (p1 .sum) := by
  intro z W m S σ H d v Q s r p
  simp only [p1] at p
  split at p
  · rename_i xs e1
    split at p
    · rename_i ns e2
      obtain ⟨q, vs, rfl, h1, h2⟩ := listOf_at s r e1
      have e3 := intsOf_eq e2
      subst e3
      cases h2.ints
      exact semC_of (cr_sum hc) ⟨q, ns, rfl, SqL.of h1, p.ok s Rp.intI⟩
    · exact p.elim
  · exact p.elim
theorem sc_all (hc : X.calm = true) : SC1 X (.builtin "all") (p1 .all) := by
  intro z W m S σ H d v Q s r p
  simp only [p1] at p
  split at p
  · rename_i xs e1
    split at p
    · rename_i ns e2
      obtain ⟨q, vs, rfl, h1, h2⟩ := listOf_at s r e1
      have e3 := blsOf_eq e2
      subst e3
      cases h2.bls
      exact semC_of (cr_all hc) ⟨q, ns, rfl, SqL.of h1, p.ok s Rp.blI⟩
    · exact p.elim
  · exact p.elim
theorem sc_any (hc : X.calm = true) : SC1 X (.builtin "any") (p1 .any) := by
  intro z W m S σ H d v Q s r p
  simp only [p1] at p
  split at p
  · rename_i xs e1
    split at p
    · rename_i ns e2
      obtain ⟨q, vs, rfl, h1, h2⟩ := listOf_at s r e1
      have e3 := blsOf_eq e2
      subst e3
      cases h2.bls
      exact semC_of (cr_any hc) ⟨q, ns, rfl, SqL.of h1, p.ok s Rp.blI⟩
    · exact p.elim
  · exact p.elim
theorem sc_tuple : SC1 X (.type "tuple") (p1 .tuple) := by
  intro z W m S σ H d v Q s r p
  have lists : ∀ xs, listOf S d = some xs → PostE X z W σ m H (.ok (.tup xs) S) Q → semC X (.type "tuple") [v] H Q := fun xs e p => by
    obtain ⟨q, vs, rfl, h1, h2⟩ := listOf_at s r e
    exact semC_of call_tuple_of ⟨q, vs, rfl, .inl ⟨SqL.of h1, fun l hl => p.aside s hl (Rp.newTup hl h2)⟩⟩
  cases d with
  | tup xs =>
    obtain ⟨q, vs, rfl, h1, h2⟩ := r.tupAt
    refine semC_of call_tuple_of ⟨q, vs, rfl, .inr ⟨h1, p.ok s r⟩⟩
  | lst xs => exact lists xs rfl p
  | ref n =>
    simp only [p1] at p
    split at p
    · rename_i xs e; exact lists xs e p
    · exact p.elim
  | _ => exact p.elim
/-- list(..) of a list or a tuple: a list of its own -/
theorem sf_list {nm : Str} (hg : Gl X nm) (hm : X.mg nm = none) (hv : bootBuiltins nm = some (.type "list")) (hn : nm ≠ "__name__") (hdb : (nm == ("__debug__" : Str)) = false)
    (ha : SE X W a (evE c x)) (hs : starEach [a] X.env = (false, eval a X.env) :: starEach [] X.env) : SF X W (.Call (.Name nm pn) [a] [] pos) (evE c (.prim .list x)) := by
  intro z m ρ S σ H Q s en p
  have hy : evE c (.prim .list x) ρ S = (evE c x ρ S).bind (p1 .list) := rfl
  rw [hy] at p
  refine semE_of (pe_callTy call_list_of hg hm hv (pa_cons pe_sem pa_nil hs) hn hdb hs (by rfl)) (ha z m ρ S σ H _ s en (p.bind fun d S1 m1 H1 v st1 s1 r1 p1 => ?_))
  simp only [DL.p1] at p1
  split at p1
  · rename_i xs e1
    obtain ⟨q, vs, rfl, h1, h2⟩ := seqOf_at s1 r1 e1
    exact ⟨q, vs, rfl, h1, fun l hl => p1.new s1 hl h2⟩
  · exact p1.elim
theorem sc_max2 (hc : X.calm = true) : SC2 X (.builtin "max") (fun x y S => match x, y with
    | .int i, .int j => .ok (.int (if j > i then j else i)) S
    | _, _ => .bad) := by
  intro z W m S σ H x y v u Q s rx ry p
  dsimp only at p
  split at p
  · rename_i i j
    cases rx.int; cases ry.int
    exact semC_of (call_max2 hc) ⟨i, j, rfl, p.ok s Rp.intI⟩
  · exact p.elim
theorem sc_min2 (hc : X.calm = true) : SC2 X (.builtin "min") (fun x y S => match x, y with
    | .int i, .int j => .ok (.int (if j < i then j else i)) S
    | _, _ => .bad) := by
  intro z W m S σ H x y v u Q s rx ry p
  dsimp only at p
  split at p
  · rename_i i j
    cases rx.int; cases ry.int
    exact semC_of (call_min2 hc) ⟨i, j, rfl, p.ok s Rp.intI⟩
  · exact p.elim
/-! ### what kind a value is -/
theorem tyOf_at {z m : List Addr} {S : Sto} {H : Hp} {d : D} {v : V} {t : String} (s : Sim (kt X z) m S H) (r : Rp (kt X z) m H d v) (h : tyOf S d = some t) : TyX X.K H v (.type t) := by
  have lists : ∀ xs, listOf S d = some xs → TyX X.K H v (.type "list") := fun xs e => by
    obtain ⟨q, vs, rfl, h1, h2⟩ := listOf_at s r e
    exact .base (.lst h1)
  cases d with
  | non => simp only [Rp] at r; subst r; cases h; exact .base .non
  | bl b => cases r.bl; cases h; exact .base (.bl b)
  | int i => cases r.int; cases h; exact .base (.int i)
  | str i => cases r.str; cases h; exact .base (.str i)
  | tup xs =>
    obtain ⟨q, vs, rfl, h1, h2⟩ := r.tupAt
    cases h
    rcases h1 with (h1 | ⟨o, h1⟩) | ⟨o, its, n, h1, h3, _⟩
    · exact .base (.tup h1)
    · exact .fTuple h1
    · exact .kTuple h1 h3
  | lst xs => cases h; exact lists xs rfl
  | ref n =>
    simp only [tyOf] at h
    split at h
    · rename_i xs e; cases h; exact lists xs (by simp only [listOf, e])
    · cases h
  | _ => cases h
theorem sc_isi {ty : String} (hb : ∀ t, t ∈ (["NoneType", "bool", "int", "str", "tuple", "list"] : List String) → kitB t ty = some (isiB t ty)) :
    ∀ (z : List Addr) (W : WX) (m : List Addr) (S : Sto) (σ : L2.St) (H : Hp) (d : D) (v : V) (Q : VK), Sim (kt X z) m S H → Rp (kt X z) m H d v →
      PostE X z W σ m H (match tyOf S d with | some t => .ok (.bl (isiB t ty)) S | none => .bad) Q → semC X (.builtin "isinstance") [v, .ty ty] H Q := by
  intro z W m S σ H d v Q s r p
  split at p
  · rename_i t e
    have ht : t ∈ (["NoneType", "bool", "int", "str", "tuple", "list"] : List String) := by
      cases d <;> simp only [tyOf] at e <;> first | (cases e; decide) | (split at e <;> first | (cases e; decide) | cases e) | cases e
    exact semC_of call_isi ⟨v, .ty ty, .type t, .type ty, _, rfl, .ty ty, tyOf_at s r e, kit_ty (hb t ht), p.ok s Rp.blI⟩
  · exact p.elim
theorem s_isi {ty : String} {nm tn : Str} {p2 : Pos} (hb : ∀ t, t ∈ (["NoneType", "bool", "int", "str", "tuple", "list"] : List String) → kitB t ty = some (isiB t ty)) (hg : Gl X nm) (hm : X.mg nm = none) (hv : bootBuiltins nm = some (.builtin "isinstance")) (hn : nm ≠ "__name__") (hdb : (nm == ("__debug__" : Str)) = false)
    (hg2 : Gl X tn) (hm2 : X.mg tn = none) (hv2 : bootBuiltins tn = some (.type ty)) (hn2 : tn ≠ "__name__") (hdb2 : (tn == ("__debug__" : Str)) = false)
    (ha : SE X W a (evE c x)) (hs : starEach [a, .Name tn p2] X.env = (false, eval a X.env) :: starEach [.Name tn p2] X.env) : SE X W (.Call (.Name nm pn) [a, .Name tn p2] [] pos) (evE c (.isi x ty)) := by
  intro z m ρ S σ H Q s en p
  simp only [evE] at p
  refine semE_of (pe_callB call_sem hg hm hv (pa_cons pe_sem (pa_cons (pe_bltn (v := .ty ty) hg2 hm2 hv2 rfl hn2 hdb2) pa_nil (by rfl)) hs) hn hdb hs (by rfl)) (ha z m ρ S σ H _ s en (p.bind fun d S1 m1 H1 v st1 s1 r1 p1 => ?_))
  exact sc_isi hb z W m1 S1 σ H1 d v Q s1 r1 p1
end
end DL
set_option Elab.async false
set_option linter.all false
set_option maxRecDepth 100000
set_option maxHeartbeats 1000000
/-! DL8: items, slices, upper; repr -/
namespace DL
open PySem PySem.Spec PyProof.Rows L2
section
variable {X : Cx} {W : WX} {a b e : Expr} {pos pn : Pos} {c : Cfg} {x y w : E}
theorem RpL.atI {k : Kt} {m : List Addr} {H : Hp} {ds : List D} {vs : List V} {i : Int} {d : D} (h : RpL k m H ds vs) (e : L2.atI ds i = some d) : ∃ v, L2.atI vs i = some v ∧ Rp k m H d v := by
  unfold L2.atI at e ⊢
  rw [← h.length]
  cases hx : ixN ds.length i with
  | none => rw [hx] at e; cases e
  | some j =>
    rw [hx] at e
    exact h.get e
theorem s_idx (ha : SE X W a (evE c x)) (hb : SE X W b (evE c y)) (hs : PlainIx b) : SE X W (.Subscript a b pos) (evE c (.idx x y)) := by
  intro z m ρ S σ H Q s en p
  simp only [evE] at p
  refine semE_of (pe_ix ix_seq pe_sem pe_sem hs) (ha z m ρ S σ H _ s en (p.bind fun d S1 m1 H1 v st1 s1 r1 p1 => ?_))
  refine hb z m1 ρ S1 σ H1 _ s1 (en.step st1) (p1.bind fun d2 S2 m2 H2 v2 st2 s2 r2 p2 => ?_)
  have r1' := Rp.step st2 r1
  cases d2 with
  | int i =>
    cases r2.int
    have seq : ∀ xs, seqOf S2 d = some xs → Post (RE X z) X z W σ m2 H2 (match L2.atI xs i with | some d => .ok d S2 | none => .bad) Q → rIx X.K v (.int i) H2 Q := fun xs e0 p0 => by
      obtain ⟨q, vs, rfl, h1, h2⟩ := seqOf_at s2 r1' e0
      split at p0
      · rename_i d' e1
        obtain ⟨u, h3, h4⟩ := h2.atI e1
        rcases h1 with h1 | h1
        · exact .inl ⟨q, vs, i, u, rfl, rfl, h1, h3, p0.ok s2 h4⟩
        · exact .inr (.inl ⟨q, vs, i, u, rfl, rfl, h1, h3, p0.ok s2 h4⟩)
      · exact p0.elim
    simp only [indexD] at p2
    cases d with
    | str t =>
      cases r1'.str
      simp only at p2
      split at p2
      · rename_i hl
        split at p2
        · rename_i cp e1
          exact .inr (.inr ⟨t, i, cp, rfl, rfl, hl, e1, p2.ok s2 Rp.strI⟩)
        · exact p2.elim
      · exact p2.elim
    | tup xs => exact seq xs rfl p2
    | scr xs => exact seq _ rfl p2
    | lst xs => exact seq xs rfl p2
    | ref n =>
      simp only at p2
      split at p2
      · rename_i xs e0; exact seq xs e0 p2
      · exact p2.elim
    | _ => exact p2.elim
  | _ => exact p2.elim

/-! ### slices -/
def semP (X : Cx) (e : Option Expr) : TO := fun σ H Q => ∀ pins s, Inv X pins σ H s → wpAny (model X.prog X.w) X.A (evalPart e X.env) (fun u s' => ∃ o H', Inv X pins σ H' s' ∧ IsPart u o ∧ Q o H') X.xe s
theorem po_sem {X : Cx} {e : Option Expr} : PO X e (semP X e) := ⟨fun pins s σ H Q I h => h pins s I⟩
theorem semP_of {X : Cx} {e : Option Expr} {t : TO} (h : PO X e t) {σ : L2.St} {H : Hp} {Q : Option Int → Hp → Prop} (q : t σ H Q) : semP X e σ H Q := fun pins s I => h.run pins s σ H Q I q
/-- a bound -/
def SPt (X : Cx) (W : WX) (c : Cfg) (e : Option Expr) (x : E) : Prop :=
  ∀ (z m : List Addr) (ρ : Env) (S : Sto) (σ : L2.St) (H : Hp) (Q : Option Int → Hp → Prop), Sim (kt X z) m S H → EnvR (kt X z) m H ρ σ →
    Post (fun _ _ (a b : Option Int) => a = b) X z W σ m H ((evE c x ρ S).bind fun d S1 => match boundOf x d with | some l => .ok l S1 | none => .bad) Q → semP X e σ H Q
theorem spt_none : SPt X W c none .nil := fun z m ρ S σ H Q s en p => semP_of po_none (p.ok s rfl)
theorem spt_some (hx : x ≠ .nil) (ha : SE X W a (evE c x)) : SPt X W c (some a) x := by
  intro z m ρ S σ H Q s en p
  refine semP_of (po_some pe_sem) (ha z m ρ S σ H _ s en (p.bind fun d S1 m1 H1 v st1 s1 r1 p1 => ?_))
  have hb : boundOf x d = someI d := by
    unfold boundOf
    split
    · exact absurd rfl hx
    · rfl
  rw [hb] at p1
  cases d with
  | int i => cases r1.int; exact ⟨i, rfl, p1.ok s1 rfl⟩
  | _ => exact p1.elim
theorem RpL.cut {k : Kt} {m : List Addr} {H : Hp} {ds : List D} {vs : List V} (h : RpL k m H ds vs) (l u : Option Int) : RpL k m H (cutL ds l u) (cutV vs l u) := by
  unfold cutL cutV
  rw [h.length]
  exact (h.drop _).take _
theorem evE_sl (x lo hi : E) (ρ : Env) (S : Sto) : evE c (.sl x lo hi) ρ S = (evE c x ρ S).bind fun d S1 => ((evE c lo ρ S1).bind fun l S2 => match boundOf lo l with | some l => .ok l S2 | none => .bad).bind fun l S2 =>
    ((evE c hi ρ S2).bind fun l S2 => match boundOf hi l with | some l => .ok l S2 | none => .bad).bind fun h S3 => sliceD d l h S3 := by
  simp only [evE]
  congr 1
  funext d S1
  cases evE c lo ρ S1 with
  | exc _ _ _ => rfl
  | bad => rfl
  | ok l S2 =>
    simp only [Res.bind_ok]
    cases boundOf lo l with
    | none => rfl
    | some l =>
      simp only [Res.bind_ok]
      cases evE c hi ρ S2 with
      | exc _ _ _ => rfl
      | bad => rfl
      | ok h S3 =>
        simp only [Res.bind_ok]
        cases boundOf hi h <;> rfl
theorem sl_any {X : Cx} : SlR X (fun x lo hi H Q => rSlA X.K x lo hi H Q ∨ rSlS x lo hi H Q ∨ rSlL X.K x lo hi H Q) := SlR.or sl_tupA (SlR.or sl_str sl_list)
theorem s_sl {lo hi : Option Expr} {p2 : Pos} (ha : SE X W a (evE c x)) (hl : SPt X W c lo y) (hh : SPt X W c hi w) : SE X W (.Subscript a (.Slice lo hi none p2) pos) (evE c (.sl x y w)) := by
  intro z m ρ S σ H Q s en p
  rw [evE_sl] at p
  refine semE_of (pe_slice sl_any pe_sem po_sem po_sem) (ha z m ρ S σ H _ s en (p.bind fun d S1 m1 H1 v st1 s1 r1 p1 => ?_))
  refine hl z m1 ρ S1 σ H1 _ s1 (en.step st1) (p1.bind fun l S2 m2 H2 l' st2 s2 e2 p2 => ?_)
  subst e2
  refine hh z m2 ρ S2 σ H2 _ s2 ((en.step st1).step st2) (p2.bind fun u S3 m3 H3 u' st3 s3 e3 p3 => ?_)
  subst e3
  have r := Rp.step st3 (Rp.step st2 r1)
  have lists : ∀ xs, listOf S3 d = some xs → Post (RE X z) X z W σ m3 H3 (.ok (.lst (cutL xs l u)) S3) Q → rSlL X.K v l u H3 Q := fun xs e0 p0 => by
    obtain ⟨q, vs, rfl, h1, h2⟩ := listOf_at s3 r e0
    exact ⟨q, vs, rfl, SqL.of h1, fun n hn => p0.aside s3 hn (Rp.newLst s3 hn (h2.cut l u))⟩
  cases d with
  | scr ns =>
    simp only [Rp] at r
    obtain ⟨q, rfl, h1⟩ := r
    exact .inr (.inr ⟨q, _, rfl, h1.sq, fun n hn => p3.aside s3 hn (Rp.newLst s3 hn (RpL.intsI.cut l u))⟩)
  | tup xs =>
    obtain ⟨q, vs, rfl, h1, h2⟩ := r.tupAt
    refine .inl ⟨q, vs, rfl, h1, fun hw => ?_, fun _ n hn => p3.aside s3 hn (Rp.newTup hn (h2.cut l u))⟩
    refine p3.ok s3 ?_
    simp only [Rp]
    refine ⟨q, vs, rfl, h1, ?_⟩
    have e1 : cutL xs l u = xs := by
      unfold cutL
      rw [h2.length, hw.1, hw.2]
      simp [← h2.length]
    rw [e1]; exact h2
  | str t =>
    cases r.str
    simp only [sliceD] at p3
    split at p3
    · rename_i hz; exact .inr (.inl ⟨t, rfl, hz, p3.ok s3 Rp.strI⟩)
    · exact p3.elim
  | lst xs => exact .inr (.inr (lists xs rfl p3))
  | ref n =>
    simp only [sliceD] at p3
    split at p3
    · rename_i xs e0; exact .inr (.inr (lists xs e0 p3))
    · exact p3.elim
  | _ => exact p3.elim
theorem s_upper {apos : Pos} (ha : SE X W a (evE c x)) (hbase : attributeBase a "upper" X.env (eval a X.env) = eval a X.env) (hline : (apos.endLine == pos.line) = true) : SE X W (.Call (.Attribute a "upper" apos) [] [] pos) (evE c (.upper x)) := by
  intro z m ρ S σ H Q s en p
  simp only [evE] at p
  refine semE_of (pe_upper pe_sem hbase hline) (ha z m ρ S σ H _ s en (p.bind fun d S1 m1 H1 v st1 s1 r1 p1 => ?_))
  cases d with
  | str t =>
    cases r1.str
    simp only at p1
    split at p1
    · rename_i hz; exact ⟨⟨t, rfl⟩, t, rfl, rfl, by omega, p1.ok s1 Rp.strI⟩
    · exact p1.elim
  | _ => exact p1.elim
end
end DL
set_option Elab.async false
set_option linter.all false
set_option maxRecDepth 100000
set_option maxHeartbeats 1000000
/-! DL9: targets, what is walked -/
namespace DL
open PySem PySem.Spec PyProof.Rows L2
mutual
def Tg.names : Tg → List Nat
  | .name i => [i]
  | .tup ts => namesL ts
def namesL : List Tg → List Nat
  | [] => []
  | t :: ts => t.names ++ namesL ts
end
def semG (X : Cx) (tg : Expr) : TG := fun v σ H Q => ∀ pins s u, Inv X pins σ H s → RelV v u → wpAny (model X.prog X.w) X.A (assign tg X.env u) (fun _ s' => ∃ σ' H', Inv X pins σ' H' s' ∧ Q σ' H') X.xe s
def semGs (X : Cx) (ts : List Expr) : TGs := fun vs σ H Q => ∀ pins s us, Inv X pins σ H s → Vals vs us → wpAny (model X.prog X.w) X.A (assignInOrder ((assignEach ts X.env).map (·.2)) us) (fun _ s' => ∃ σ' H', Inv X pins σ' H' s' ∧ Q σ' H') X.xe s
def semI (X : Cx) (tg iter : Expr) : TI := fun σ H R => ∀ pins s, Inv X pins σ H s → wpAny (model X.prog X.w) X.A (eval iter X.env) (fun v s1 => wpAny (model X.prog X.w) X.A (pyIter v) (PIE X pins σ tg R) X.xe s1) X.xe s
section
variable {X : Cx}
theorem pg_sem {tg : Expr} : PG X tg (semG X tg) := ⟨fun pins s σ H v u Q I r h => h pins s u I r⟩
theorem pgs_sem {ts : List Expr} : PGs X ts (semGs X ts) := ⟨fun pins s σ H vs us Q I r h => h pins s us I r⟩
theorem pi_sem {tg iter : Expr} : PI X tg iter (semI X tg iter) := ⟨fun pins s σ H R I h => h pins s I⟩
theorem semG_of {tg : Expr} {t : TG} (h : PG X tg t) {v : V} {σ : L2.St} {H : Hp} {Q : L2.St → Hp → Prop} (q : t v σ H Q) : semG X tg v σ H Q := fun pins s u I r => h.run pins s σ H v u Q I r q
theorem semGs_of {ts : List Expr} {t : TGs} (h : PGs X ts t) {vs : List V} {σ : L2.St} {H : Hp} {Q : L2.St → Hp → Prop} (q : t vs σ H Q) : semGs X ts vs σ H Q := fun pins s us I r => h.run pins s σ H vs us Q I r q
theorem semI_of {tg iter : Expr} {t : TI} (h : PI X tg iter t) {σ : L2.St} {H : Hp} {R : It → Hp → Prop} (q : t σ H R) : semI X tg iter σ H R := fun pins s I => h.run pins s σ H R I q
/-- the slots outside of is are as they were -/
def Else (is : List Nat) (σ σ' : L2.St) : Prop := σ'.length = σ.length ∧ ∀ i, i ∉ is → σ'[i]? = σ[i]?
def SG (X : Cx) (tg : Expr) (t : Tg) : Prop :=
  ∀ (z m : List Addr) (ρ ρ' : Env) (σ : L2.St) (H : Hp) (d : D) (v : V) (Q : L2.St → Hp → Prop), EnvR (kt X z) m H ρ σ → Rp (kt X z) m H d v → bindT t d ρ = some ρ' →
    (∀ σ', EnvR (kt X z) m H ρ' σ' → Else t.names σ σ' → Q σ' H) → semG X tg v σ H Q
def SGs (X : Cx) (ts : List Expr) (t : List Tg) : Prop :=
  ∀ (z m : List Addr) (ρ ρ' : Env) (σ : L2.St) (H : Hp) (ds : List D) (vs : List V) (Q : L2.St → Hp → Prop), EnvR (kt X z) m H ρ σ → RpL (kt X z) m H ds vs → bindTs t ds ρ = some ρ' →
    (∀ σ', EnvR (kt X z) m H ρ' σ' → Else (namesL t) σ σ' → Q σ' H) → semGs X ts vs σ H Q
theorem sg_name {i : Nat} {x : Str} {pos : Pos} (hN : X.N.Nodup) (hi : X.N[i]? = some x) (hx : Loc X.env.scope x) (hf : X.fn x = true ∨ X.env.scope.names.lookup x = some .local) : SG X (.Name x pos) (.name i) := by
  intro z m ρ ρ' σ H d v Q en r e q
  simp only [bindT, Option.some.injEq] at e
  subst e
  refine semG_of (pg_name hN hi hx hf) (q _ (en.set r i) ⟨by simp, fun j hj => ?_⟩)
  rw [List.getElem?_set_ne]
  intro e; exact hj (by rw [Tg.names, e]; exact List.mem_singleton.mpr rfl)
theorem sgs_nil : SGs X [] [] := by
  intro z m ρ ρ' σ H ds vs Q en r e q
  cases ds with
  | nil =>
    simp only [RpL] at r; subst r
    simp only [bindTs, Option.some.injEq] at e
    subst e
    exact semGs_of pgs_nil ⟨rfl, q σ en ⟨rfl, fun _ _ => rfl⟩⟩
  | cons d ds => simp [bindTs] at e
theorem sgs_cons {tg : Expr} {ts : List Expr} {t : Tg} {us : List Tg} (h1 : SG X tg t) (h2 : SGs X ts us) (hs : (assignEach (tg :: ts) X.env).map (·.2) = assign tg X.env :: (assignEach ts X.env).map (·.2)) : SGs X (tg :: ts) (t :: us) := by
  intro z m ρ ρ' σ H ds vs Q en r e q
  cases ds with
  | nil => simp [bindTs] at e
  | cons d ds =>
    simp only [RpL] at r
    obtain ⟨v, vs, rfl, r1, r2⟩ := r
    simp only [bindTs] at e
    cases e1 : bindT t d ρ with
    | none => rw [e1] at e; cases e
    | some ρ1 =>
      rw [e1] at e
      simp only [Option.bind_some] at e
      refine semGs_of (pgs_cons pg_sem pgs_sem hs) ⟨v, vs, rfl, h1 z m ρ ρ1 σ H d v _ en r1 e1 fun σ1 en1 o1 => ?_⟩
      refine h2 z m ρ1 ρ' σ1 H ds vs Q en1 r2 e fun σ2 en2 o2 => q σ2 en2 ⟨o2.1.trans o1.1, fun i hi => ?_⟩
      simp only [namesL, List.mem_append, not_or] at hi
      rw [o2.2 i hi.2, o1.2 i hi.1]
theorem sg_tup {es : List Expr} {k : Nat} {pos : Pos} {ts : List Tg} (hc : X.calm = true) (h : SGs X es ts) (hl : es.length = ts.length) (hn : (assignEach es X.env).length = es.length) (hst : (assignEach es X.env).findIdx? (·.1) = none) : SG X (.Tuple es k pos) (.tup ts) := by
  intro z m ρ ρ' σ H d v Q en r e q
  cases d with
  | tup xs =>
    obtain ⟨p, vs, rfl, h1, h2⟩ := r.tupAt
    simp only [bindT] at e
    have hx : ∀ (ts : List Tg) (xs : List D) (ρ : Env), bindTs ts xs ρ = some ρ' → xs.length = ts.length := by
      intro ts
      induction ts with
      | nil => intro xs ρ e; cases xs with
        | nil => rfl
        | cons _ _ => simp [bindTs] at e
      | cons t ts ih =>
        intro xs ρ e
        cases xs with
        | nil => simp [bindTs] at e
        | cons x xs =>
          simp only [bindTs] at e
          cases e1 : bindT t x ρ with
          | none => rw [e1] at e; cases e
          | some ρ1 =>
            rw [e1] at e
            simp [ih xs ρ1 (by simpa using e)]
    refine semG_of (pg_tup (n := es.length) hc pgs_sem hn hst) ⟨p, vs, rfl, h1, ?_, h z m ρ ρ' σ H xs vs Q en h2 e fun σ' en' o => q σ' en' o⟩
    rw [← h2.length, hx ts xs ρ e, hl]
  | _ => simp [bindT] at e

/-! ### what is walked -/
/-- J walks these items, whatever happens to the store -/
structure Walk (X : Cx) (J : It) (xs : List D) (G : List Addr → List Addr → Hp → Prop) : Prop where
  step : ∀ z m H m' H', G z m H → Step m H m' H' → G z m' H'
  hide : ∀ z m H q, G z m H → H q = none → G (q :: z) m H
  hwrite : ∀ z m H q us vs, G z m H → q ∈ z → H q = some (.lst us) → G z m (upd H q (.lst vs))
  go : ∀ z i m H, G z m H → i < xs.length → J.go i H
  stop : ∀ z m H, G z m H → J.stop xs.length H
  yld : ∀ z i m H x H' S, G z m H → J.yld i H x H' → i < xs.length → Sim (kt X z) m S H → ∃ d, xs[i]? = some d ∧ Step m H m H' ∧ Sim (kt X z) m S H' ∧ (∀ b o, H b = some o → H' b = some o) ∧ Rp (kt X z) m H' d x
def WalkS (X : Cx) (J : It) (src : Src) (z m : List Addr) (H : Hp) : Prop := match src with
  | .fixed xs => ∃ G, G z m H ∧ Walk X J xs G
  | .live n _ => ∃ a, m[n]? = some a ∧ J = Itl X.K a
def PostI (X : Cx) (z : List Addr) (W : WX) (σ : L2.St) (m : List Addr) (H : Hp) (r : Res Src) (R : It → Hp → Prop) : Prop :=
  Post (fun m' H' src J => WalkS X J src z m' H') X z W σ m H r R
def SI (X : Cx) (W : WX) (tg iter : Expr) (f : Env → Sto → Res Src) : Prop :=
  ∀ (z m : List Addr) (ρ : Env) (S : Sto) (σ : L2.St) (H : Hp) (R : It → Hp → Prop), Sim (kt X z) m S H → EnvR (kt X z) m H ρ σ → PostI X z W σ m H (f ρ S) R → semI X tg iter σ H R
variable {W : WX} {tg a b : Expr} {pos pn : Pos} {c : Cfg} {x y : E}
theorem SqT.hwrite {K : PySem.W.Frag} {H : Hp} {p q : Addr} {vs us ws : List V} (h : SqT K H p vs) (h0 : H q = some (.lst us)) : SqT K (upd H q (.lst ws)) p vs := by
  rcases h with (h1 | ⟨o, h1⟩) | h1
  · exact .inl (.inl (by rw [upd_ne (ne_of h1 h0 (by intro z; cases z))]; exact h1))
  · exact .inl (.inr ⟨o, by rw [upd_ne (ne_of h1 h0 (by intro z; cases z))]; exact h1⟩)
  · exact .inr h1
/-- a tuple of these items stands; a list of these items stands aside -/
def GT (X : Cx) (p : Addr) (vs : List V) (xs : List D) (z m : List Addr) (H : Hp) : Prop := SqT X.K H p vs ∧ RpL (kt X z) m H xs vs
def GL (X : Cx) (p : Addr) (vs : List V) (xs : List D) (z m : List Addr) (H : Hp) : Prop := (H p = some (.lst vs) ∧ p ∉ m ∧ p ∉ z) ∧ RpL (kt X z) m H xs vs
theorem GT.step {p : Addr} {vs : List V} {xs : List D} {z m : List Addr} {H : Hp} {m' : List Addr} {H' : Hp} (g : GT X p vs xs z m H) (st : Step m H m' H') : GT X p vs xs z m' H' := ⟨st.sqT g.1, g.2.step st⟩
theorem GT.hide {p : Addr} {vs : List V} {xs : List D} {z m : List Addr} {H : Hp} {q : Addr} (g : GT X p vs xs z m H) (hq : H q = none) : GT X p vs xs (q :: z) m H := ⟨g.1, RpL.hide (k := kt X z) hq g.2⟩
theorem GT.hwrite {p : Addr} {vs : List V} {xs : List D} {z m : List Addr} {H : Hp} {q : Addr} {us ws : List V} (g : GT X p vs xs z m H) (hq : q ∈ z) (h0 : H q = some (.lst us)) : GT X p vs xs z m (upd H q (.lst ws)) := ⟨SqT.hwrite g.1 h0, g.2.hwrite (k := kt X z) hq h0⟩
theorem GL.step {p : Addr} {vs : List V} {xs : List D} {z m : List Addr} {H : Hp} {m' : List Addr} {H' : Hp} (g : GL X p vs xs z m H) (st : Step m H m' H') : GL X p vs xs z m' H' := ⟨⟨st.keep _ _ g.1.1 g.1.2.1 live_lst.tbl, st.notin g.1.1 g.1.2.1 live_lst.tbl, g.1.2.2⟩, g.2.step st⟩
theorem GL.hide {p : Addr} {vs : List V} {xs : List D} {z m : List Addr} {H : Hp} {q : Addr} (g : GL X p vs xs z m H) (hq : H q = none) : GL X p vs xs (q :: z) m H :=
  ⟨⟨g.1.1, g.1.2.1, fun h => by
    rcases List.mem_cons.mp h with h | h
    · have := g.1.1; rw [h, hq] at this; cases this
    · exact g.1.2.2 h⟩, RpL.hide (k := kt X z) hq g.2⟩
theorem GL.hwrite {p : Addr} {vs : List V} {xs : List D} {z m : List Addr} {H : Hp} {q : Addr} {us ws : List V} (g : GL X p vs xs z m H) (hq : q ∈ z) (h0 : H q = some (.lst us)) : GL X p vs xs z m (upd H q (.lst ws)) :=
  ⟨⟨by rw [upd_ne fun e => g.1.2.2 (by rw [e]; exact hq)]; exact g.1.1, g.1.2⟩, g.2.hwrite (k := kt X z) hq h0⟩
theorem walk_tup {p : Addr} {vs : List V} {xs : List D} : Walk X (Itt X.K p) xs (GT X p vs xs) where
  step := fun z m H m' H' g st => g.step st
  hide := fun z m H q g hq => g.hide hq
  hwrite := fun z m H q us ws g hq h0 => g.hwrite hq h0
  go := fun z i m H g hi => by
    have hi' : i < vs.length := by rw [← g.2.length]; exact hi
    exact ⟨vs, vs[i], g.1, List.getElem?_eq_getElem hi'⟩
  stop := fun z m H g => ⟨vs, g.1, by rw [g.2.length]; exact Nat.le_refl _⟩
  yld := fun z i m H u H' S g hy hi s => by
    obtain ⟨rfl, hy⟩ := hy
    obtain ⟨d, h1, h2⟩ := g.2.getV (hy vs g.1)
    exact ⟨d, h1, .refl, s, fun _ _ h => h, h2⟩
theorem walk_lst {p : Addr} {vs : List V} {xs : List D} : Walk X (Itl X.K p) xs (GL X p vs xs) where
  step := fun z m H m' H' g st => g.step st
  hide := fun z m H q g hq => g.hide hq
  hwrite := fun z m H q us ws g hq h0 => g.hwrite hq h0
  go := fun z i m H g hi => by
    have hi' : i < vs.length := by rw [← g.2.length]; exact hi
    exact ⟨vs, vs[i], SqL.of g.1.1, List.getElem?_eq_getElem hi'⟩
  stop := fun z m H g => ⟨vs, SqL.of g.1.1, by rw [g.2.length]; exact Nat.le_refl _⟩
  yld := fun z i m H u H' S g hy hi s => by
    obtain ⟨rfl, hy⟩ := hy
    obtain ⟨d, h1, h2⟩ := g.2.getV (hy vs (SqL.of g.1.1))
    exact ⟨d, h1, .refl, s, fun _ _ h => h, h2⟩
/-- an iterator that has just been made of a list, of a tuple -/
theorem iterL {tg : Expr} {R : It → Hp → Prop} {E : Value → Shared → Prop} {pins : List (Addr × Obj)} {σ : L2.St} {H : Hp} {s : Shared} {p : Addr} {vs : List V} (I : Inv X pins σ H s) (h : SqL X.K H p vs) (q : R (Itl X.K p) H) :
    wpAny (model X.prog X.w) X.A (pyIter (.ref p)) (PIE X pins σ tg R) E s := by
  obtain ⟨us, _, pl, _⟩ := I.list h
  refine wpAny_pyIter_list pl.isList ⟨s.heap.objs.size, [s.heap.objs.size], _, Itl X.K p, H, rfl, ?_, turn_list p _, ?_, ?_, q⟩
  · exact I.kept (t' := s.toks) fun b o e => Heap.get?_push_of_some _ e
  · exact ⟨_, Heap.get?_push_size _ rfl, rfl, rfl⟩
  · intro b hb
    rw [List.mem_singleton.mp hb]
    exact I.fpOk (Nat.le_refl _) (I.hok.fresh (Nat.le_refl _))
theorem iterT {tg : Expr} {R : It → Hp → Prop} {E : Value → Shared → Prop} {pins : List (Addr × Obj)} {σ : L2.St} {H : Hp} {s : Shared} {p : Addr} {vs : List V} (I : Inv X pins σ H s) (h : SqT X.K H p vs) (q : R (Itt X.K p) H) :
    wpAny (model X.prog X.w) X.A (pyIter (.ref p)) (PIE X pins σ tg R) E s := by
  obtain ⟨us, _, pl, _⟩ := I.tuple h
  refine wpAny_pyIter_tuple (show s.heap.IsTuple p us.toArray from pl) ⟨s.heap.objs.size, [s.heap.objs.size], _, Itt X.K p, H, rfl, ?_, turn_tuple p _, ?_, ?_, q⟩
  · exact I.kept (t' := s.toks) fun b o e => Heap.get?_push_of_some _ e
  · exact ⟨_, Heap.get?_push_size _ rfl, rfl, rfl⟩
  · intro b hb
    rw [List.mem_singleton.mp hb]
    exact I.fpOk (Nat.le_refl _) (I.hok.fresh (Nat.le_refl _))
theorem pi_seq {tg e : Expr} {te : TE} (he : PE X e te) : PI X tg e (fun σ H R => te σ H fun x H1 => ∃ a, x = .ref a ∧ ((∃ xs, SqL X.K H1 a xs) ∧ R (Itl X.K a) H1 ∨ (∃ xs, SqT X.K H1 a xs) ∧ R (Itt X.K a) H1)) := by
  refine ⟨fun pins s σ H R I h => thn (he.run pins s σ H _ I h) ?_⟩
  rintro v s1 ⟨x, H1, I1, r1, a, rfl, q⟩
  cases r1
  rcases q with ⟨⟨vs, h1⟩, q⟩ | ⟨⟨vs, h1⟩, q⟩
  · exact iterL I1 h1 q
  · exact iterT I1 h1 q
theorem si_seq (ha : SE X W a (evE c x)) : SI X W tg a (evI c (.iseq x)) := by
  intro z m ρ S σ H R s en p
  simp only [evI] at p
  refine semI_of (pi_seq pe_sem) (ha z m ρ S σ H _ s en (p.bind fun d S1 m1 H1 v st1 s1 r1 p1 => ?_))
  cases d with
  | tup xs =>
    obtain ⟨q, vs, rfl, h1, h2⟩ := r1.tupAt
    exact ⟨q, rfl, .inr ⟨⟨vs, h1⟩, p1.ok s1 ⟨GT X q vs xs, ⟨h1, h2⟩, walk_tup⟩⟩⟩
  | lst xs =>
    have r0 := r1
    simp only [RE, Rp] at r1
    obtain ⟨q, vs, rfl, h1, h3, h2⟩ := r1
    exact ⟨q, rfl, .inl ⟨⟨vs, SqL.of h1⟩, p1.ok s1 ⟨GL X q vs xs, ⟨⟨h1, h3⟩, h2⟩, walk_lst⟩⟩⟩
  | ref n =>
    simp only [RE, Rp] at r1
    obtain ⟨q, h1, rfl⟩ := r1
    simp only [srcOf] at p1
    cases e : S1[n]? with
    | none => rw [e] at p1; exact p1.elim
    | some o =>
      rw [e] at p1
      cases o with
      | lst xs =>
        obtain ⟨vs, h2, h3⟩ := s1.at_ n _ q e h1
        exact ⟨q, rfl, .inl ⟨⟨vs, SqL.of h2⟩, p1.ok s1 ⟨q, h1, rfl⟩⟩⟩
      | _ => exact p1.elim
  | _ => exact p1.elim
/-! ### range, enumerate, zip -/
theorem walk_range {lo : Int} {n : Nat} {xs : List D} (hx : xs = (List.range n).map fun i : Nat => .int (lo + (i : Int))) : Walk X (Itr lo n) xs fun _ _ _ => True where
  step := fun _ _ _ _ _ _ _ => trivial
  hide := fun _ _ _ _ _ _ => trivial
  hwrite := fun _ _ _ _ _ _ _ _ _ => trivial
  go := fun z i m H _ hi => by subst hx; show i < n; simpa using hi
  stop := fun z m H _ => by subst hx; show n ≤ _; simp
  yld := fun z i m H u H' S _ hy hi s => by
    subst hx
    obtain ⟨rfl, rfl⟩ := hy
    have hi' : i < n := by simpa using hi
    exact ⟨.int (lo + (i : Int)), by simp [hi'], .refl, s, fun _ _ h => h, Rp.intI⟩
theorem si_range1 (hg : Gl X "range") (hm : X.mg "range" = none) (ha : SE X W a (evE c x)) (hs : starEach [a] X.env = [(false, eval a X.env)]) : SI X W tg (.Call (.Name "range" pn) [a] [] pos) (evI c (.irange1 x)) := by
  intro z m ρ S σ H R s en p
  simp only [evI] at p
  refine semI_of (pi_range1 hg hm (pa_cons pe_sem pa_nil hs) hs) (ha z m ρ S σ H _ s en (p.bind fun d S1 m1 H1 v st1 s1 r1 p1 => ?_))
  split at p1
  · rename_i ys e
    cases d with
    | int j =>
      cases r1.int
      simp only [rangeD] at e
      split at e
      · rename_i hj
        cases e
        refine ⟨j, rfl, hj.2.2.1, hj.2.2.2, p1.ok s1 ⟨_, trivial, walk_range ?_⟩⟩
        simp
      · cases e
    | _ => simp [rangeD] at e
  · exact p1.elim
theorem si_range2 (hg : Gl X "range") (hm : X.mg "range" = none) (ha : SE X W a (evE c x)) (hb : SE X W b (evE c y)) (hs : starEach [a, b] X.env = [(false, eval a X.env), (false, eval b X.env)]) (hs2 : starEach [b] X.env = [(false, eval b X.env)]) : SI X W tg (.Call (.Name "range" pn) [a, b] [] pos) (evI c (.irange2 x y)) := by
  intro z m ρ S σ H R s en p
  simp only [evI] at p
  refine semI_of (pi_range2 hg hm (pa_cons pe_sem (pa_cons pe_sem pa_nil hs2) (by rw [hs, hs2])) hs hs2) (ha z m ρ S σ H _ s en (p.bind fun d S1 m1 H1 v st1 s1 r1 p1 => ?_))
  refine hb z m1 ρ S1 σ H1 _ s1 (en.step st1) (p1.bind fun d2 S2 m2 H2 v2 st2 s2 r2 p2 => ?_)
  have r1' := Rp.step st2 r1
  split at p2
  · rename_i ys e
    cases d with
    | int i =>
      cases d2 with
      | int j =>
        cases r1'.int; cases r2.int
        simp only [rangeD] at e
        split at e
        · rename_i hj
          cases e
          exact ⟨i, j, rfl, hj, p2.ok s2 ⟨_, trivial, walk_range rfl⟩⟩
        · cases e
      | _ => simp [rangeD] at e
    | _ => simp [rangeD] at e
  · exact p2.elim
theorem rgD_rel {k : Kt} {m : List Addr} {H : Hp} {i : Int} : ∀ (l : List Nat), RpL k m H (l.map fun n : Nat => D.int (i + (n : Int))) (l.map fun n : Nat => V.int (i + (n : Int)))
  | [] => RpL.nil
  | n :: l => RpL.cons Rp.intI (rgD_rel l)
theorem rangeD_at {d1 d2 : D} {v1 v2 : V} {xs : List D} {k : Kt} {m : List Addr} {H : Hp} (e : rangeD d1 d2 = some xs) (r1 : Rp k m H d1 v1) (r2 : Rp k m H d2 v2) : ∃ i j, v1 = .int i ∧ v2 = .int j ∧ (-(2 ^ 62) ≤ i ∧ i < 2 ^ 62 ∧ -(2 ^ 62) ≤ j ∧ j < 2 ^ 62) ∧ xs = (List.range (j - i).toNat).map fun n : Nat => D.int (i + (n : Int)) := by
  cases d1 with
  | int i =>
    cases d2 with
    | int j =>
      cases r1.int; cases r2.int
      simp only [rangeD] at e
      split at e
      · rename_i hj
        cases e
        exact ⟨i, j, rfl, rfl, hj, rfl⟩
      · cases e
    | _ => simp [rangeD] at e
  | _ => simp [rangeD] at e
/-! list(range(..)), tuple(range(..)) -/
section
variable {p2 pos2 : Pos}
theorem rgs_lst {z m m1 : List Addr} {σ : L2.St} {S1 : Sto} {H H1 : Hp} {Q : VK} {d1 d2 : D} {v1 v2 : V} (r1 : Rp (kt X z) m1 H1 d1 v1) (r2 : Rp (kt X z) m1 H1 d2 v2) (st1 : Step m H m1 H1) (s1 : Sim (kt X z) m1 S1 H1)
    (p : PostF X z W σ m H ((match rangeD d1 d2 with | some xs => Res.ok (Src.fixed xs) S1 | none => .bad).bind fun src S1 => rgsD false src S1) Q) : ∃ i j, v1 = .int i ∧ v2 = .int j ∧ RgOk i j ∧ ∀ q, H1 q = none → Q (.ref q) (upd H1 q (.lst (rgV i j))) := by
  cases e : rangeD d1 d2 with
  | none => rw [e] at p; exact p.elim
  | some xs =>
    rw [e] at p
    simp only [Res.bind_ok, rgsD] at p
    split at p
    · rename_i hl
      obtain ⟨i, j, rfl, rfl, hj, e2⟩ := rangeD_at e r1 r2
      subst e2
      rw [List.length_map, List.length_range] at hl
      exact ⟨i, j, rfl, rfl, ⟨hj.1, hj.2.1, hj.2.2.1, hj.2.2.2, hl⟩, fun q hq => PostF.new (PostF.later st1 s1 p) s1 hq (rgD_rel _)⟩
    · exact p.elim
theorem rgs_tup {z m1 : List Addr} {σ : L2.St} {S1 : Sto} {H1 : Hp} {Q : VK} {d1 d2 : D} {v1 v2 : V} (r1 : Rp (kt X z) m1 H1 d1 v1) (r2 : Rp (kt X z) m1 H1 d2 v2) (s1 : Sim (kt X z) m1 S1 H1)
    (p : PostE X z W σ m1 H1 ((match rangeD d1 d2 with | some xs => Res.ok (Src.fixed xs) S1 | none => .bad).bind fun src S1 => rgsD true src S1) Q) : ∃ i j, v1 = .int i ∧ v2 = .int j ∧ RgOk i j ∧ ∀ q, H1 q = none → Q (.ref q) (upd H1 q (.tup (rgV i j))) := by
  cases e : rangeD d1 d2 with
  | none => rw [e] at p; exact p.elim
  | some xs =>
    rw [e] at p
    simp only [Res.bind_ok, rgsD] at p
    split at p
    · rename_i hl
      obtain ⟨i, j, rfl, rfl, hj, e2⟩ := rangeD_at e r1 r2
      subst e2
      rw [List.length_map, List.length_range] at hl
      exact ⟨i, j, rfl, rfl, ⟨hj.1, hj.2.1, hj.2.2.1, hj.2.2.2, hl⟩, fun q hq => p.aside s1 hq (Rp.newTup hq (rgD_rel _))⟩
    · exact p.elim
theorem sf_rgs1 (hc : X.calm = true) (hg : Gl X "range") (hm : X.mg "range" = none) (hg2 : Gl X "list") (hm2 : X.mg "list" = none) (ha : SE X W a (evE c x)) (hs : starEach [a] X.env = [(false, eval a X.env)]) : SF X W (.Call (.Name "list" p2) [.Call (.Name "range" pn) [a] [] pos] [] pos2) (evE c (.rgs false (.irange1 x))) := by
  intro z m ρ S σ H Q s en p
  simp only [evE, evI] at p
  refine semE_of (pe_listRg hc hg2 hm2 (prg_1 hg hm pe_sem hs)) ?_
  refine ha z m ρ S σ H _ s en ?_
  cases e0 : evE c x ρ S with
  | bad => rw [e0] at p; exact p.elim
  | exc q d S1 => rw [e0] at p; exact fun m' H' c dx t1 t2 t3 => p m' H' c dx t1 t2 t3
  | ok d S1 =>
    rw [e0] at p
    simp only [Res.bind_ok] at p
    intro m1 H1 v st1 s1 r1
    obtain ⟨i, j, e1, e2, h⟩ := rgs_lst Rp.intI r1 st1 s1 p
    cases e1
    exact ⟨j, e2, h⟩
theorem s_tupRg1 (hc : X.calm = true) (hg : Gl X "range") (hm : X.mg "range" = none) (hg2 : Gl X "tuple") (hm2 : X.mg "tuple" = none) (ha : SE X W a (evE c x)) (hs : starEach [a] X.env = [(false, eval a X.env)]) : SE X W (.Call (.Name "tuple" p2) [.Call (.Name "range" pn) [a] [] pos] [] pos2) (evE c (.rgs true (.irange1 x))) := by
  intro z m ρ S σ H Q s en p
  simp only [evE, evI] at p
  refine semE_of (pe_tupRg hc hg2 hm2 (prg_1 hg hm pe_sem hs)) ?_
  refine ha z m ρ S σ H _ s en ?_
  cases e0 : evE c x ρ S with
  | bad => rw [e0] at p; exact p.elim
  | exc q d S1 => rw [e0] at p; exact fun m' H' c dx t1 t2 t3 => p m' H' c dx t1 t2 t3
  | ok d S1 =>
    rw [e0] at p
    simp only [Res.bind_ok] at p
    intro m1 H1 v st1 s1 r1
    obtain ⟨i, j, e1, e2, h⟩ := rgs_tup Rp.intI r1 s1 (p.later st1)
    cases e1
    exact ⟨j, e2, h⟩
theorem sf_rgs2 (hc : X.calm = true) (hg : Gl X "range") (hm : X.mg "range" = none) (hg2 : Gl X "list") (hm2 : X.mg "list" = none) (ha : SE X W a (evE c x)) (hb : SE X W b (evE c y)) (hs : starEach [a, b] X.env = (false, eval a X.env) :: starEach [b] X.env) (hs2 : starEach [b] X.env = [(false, eval b X.env)]) (hp : (backTo pos (starEach [b] X.env)).any (·.1) = false) :
    SF X W (.Call (.Name "list" p2) [.Call (.Name "range" pn) [a, b] [] pos] [] pos2) (evE c (.rgs false (.irange2 x y))) := by
  intro z m ρ S σ H Q s en p
  simp only [evE, evI] at p
  refine semE_of (pe_listRg hc hg2 hm2 (prg_2 hg hm pe_sem pe_sem hs hs2 hp)) ?_
  refine ha z m ρ S σ H _ s en ?_
  cases e0 : evE c x ρ S with
  | bad => rw [e0] at p; exact p.elim
  | exc q d S1 => rw [e0] at p; exact fun m' H' c dx t1 t2 t3 => p m' H' c dx t1 t2 t3
  | ok d S1 =>
    rw [e0] at p
    simp only [Res.bind_ok] at p
    intro m1 H1 v st1 s1 r1
    refine hb z m1 ρ S1 σ H1 _ s1 (en.step st1) ?_
    cases e3 : evE c y ρ S1 with
    | bad => rw [e3] at p; exact p.elim
    | exc q d S1 => rw [e3] at p; exact fun m' H' c dx t1 t2 t3 => p m' H' c dx (st1.trans t1) t2 t3
    | ok d2 S2 =>
      rw [e3] at p
      simp only [Res.bind_ok] at p
      intro m2 H2 v2 st2 s2 r2
      obtain ⟨i, j, e1, e2, h⟩ := rgs_lst (Rp.step st2 r1) r2 (st1.trans st2) s2 p
      exact ⟨i, j, e1, e2, h⟩
theorem s_tupRg2 (hc : X.calm = true) (hg : Gl X "range") (hm : X.mg "range" = none) (hg2 : Gl X "tuple") (hm2 : X.mg "tuple" = none) (ha : SE X W a (evE c x)) (hb : SE X W b (evE c y)) (hs : starEach [a, b] X.env = (false, eval a X.env) :: starEach [b] X.env) (hs2 : starEach [b] X.env = [(false, eval b X.env)]) (hp : (backTo pos (starEach [b] X.env)).any (·.1) = false) :
    SE X W (.Call (.Name "tuple" p2) [.Call (.Name "range" pn) [a, b] [] pos] [] pos2) (evE c (.rgs true (.irange2 x y))) := by
  intro z m ρ S σ H Q s en p
  simp only [evE, evI] at p
  refine semE_of (pe_tupRg hc hg2 hm2 (prg_2 hg hm pe_sem pe_sem hs hs2 hp)) ?_
  refine ha z m ρ S σ H _ s en ?_
  cases e0 : evE c x ρ S with
  | bad => rw [e0] at p; exact p.elim
  | exc q d S1 => rw [e0] at p; exact fun m' H' c dx t1 t2 t3 => p m' H' c dx t1 t2 t3
  | ok d S1 =>
    rw [e0] at p
    simp only [Res.bind_ok] at p
    intro m1 H1 v st1 s1 r1
    refine hb z m1 ρ S1 σ H1 _ s1 (en.step st1) ?_
    cases e3 : evE c y ρ S1 with
    | bad => rw [e3] at p; exact p.elim
    | exc q d S1 => rw [e3] at p; exact fun m' H' c dx t1 t2 t3 => p m' H' c dx (st1.trans t1) t2 t3
    | ok d2 S2 =>
      rw [e3] at p
      simp only [Res.bind_ok] at p
      intro m2 H2 v2 st2 s2 r2
      obtain ⟨i, j, e1, e2, h⟩ := rgs_tup (Rp.step st2 r1) r2 s2 (p.later (st1.trans st2))
      exact ⟨i, j, e1, e2, h⟩
end
theorem enumD_get : ∀ (xs : List D) (n i : Nat) (x : D), xs[i]? = some x → (enumD n xs)[i]? = some (.tup [.int ((n + i : Nat) : Int), x])
  | [], _, _, _, h => by simp at h
  | d :: xs, n, 0, x, h => by simp at h; subst h; simp [enumD]
  | d :: xs, n, i + 1, x, h => by
    have := enumD_get xs (n + 1) i x (by simpa using h)
    simp only [enumD, List.getElem?_cons_succ, this]
    congr 4
    omega
theorem enumD_length : ∀ (xs : List D) (n : Nat), (enumD n xs).length = xs.length
  | [], _ => rfl
  | d :: xs, n => by simp [enumD, enumD_length xs]
theorem walk_enum {p : Addr} {vs : List V} {xs : List D} : Walk X (Ite X.K p) (enumD 0 xs) (GL X p vs xs) where
  step := fun z m H m' H' g st => g.step st
  hide := fun z m H q g hq => g.hide hq
  hwrite := fun z m H q us ws g hq h0 => g.hwrite hq h0
  go := fun z i m H g hi => by
    have hi' : i < vs.length := by rw [← g.2.length]; simpa [enumD_length] using hi
    exact ⟨vs, vs[i], SqL.of g.1.1, List.getElem?_eq_getElem hi'⟩
  stop := fun z m H g => ⟨vs, SqL.of g.1.1, by rw [enumD_length, g.2.length]; exact Nat.le_refl _⟩
  yld := fun z i m H u H' S g hy hi s => by
    obtain ⟨T, x, rfl, hT, rfl, hy⟩ := hy
    obtain ⟨d, h1, h2⟩ := g.2.getV (hy vs (SqL.of g.1.1))
    refine ⟨_, enumD_get xs 0 i d h1, .aside hT, s.aside hT, fun b o h => by rw [upd_ne (ne_of_none h hT)]; exact h, Rp.newTup hT (RpL.cons ?_ (RpL.one h2))⟩
    simp only [Rp, Nat.zero_add]
theorem si_enumL {elts : List Expr} {kk : Nat} {tpos : Pos} (hg : Gl X "enumerate") (hm : X.mg "enumerate" = none)
    (pt : ∀ {te : TE}, PE X a te → PI X (.Tuple elts kk tpos) (.Call (.Name "enumerate" pn) [a] [] pos) (fun σ H R => te σ H fun v H1 => ∃ q, v = .ref q ∧ ((∃ vs, SqL X.K H1 q vs) ∧ R (Ite X.K q) H1 ∨ ∃ vs, SqT X.K H1 q vs ∧ ∀ J, (∀ xs, Walk X J (enumD 0 xs) (GT X q vs xs)) → R J H1)))
    (ha : SE X W a (evE c x)) : SI X W (.Tuple elts kk tpos) (.Call (.Name "enumerate" pn) [a] [] pos) (evI c (.ienum x)) := by
  intro z m ρ S σ H R s en p
  simp only [evI] at p
  refine semI_of (pt pe_sem) (ha z m ρ S σ H _ s en (p.bind fun d S1 m1 H1 v st1 s1 r1 p1 => ?_))
  cases d with
  | tup xs =>
    obtain ⟨q, vs, rfl, h1, h2⟩ := r1.tupAt
    exact ⟨q, rfl, .inr ⟨vs, h1, fun J hJ => p1.ok s1 ⟨GT X q vs xs, ⟨h1, h2⟩, hJ xs⟩⟩⟩
  | lst xs =>
    simp only [RE, Rp] at r1
    obtain ⟨q, vs, rfl, h1, h3, h2⟩ := r1
    exact ⟨q, rfl, .inl ⟨⟨vs, SqL.of h1⟩, p1.ok s1 ⟨GL X q vs xs, ⟨⟨h1, h3⟩, h2⟩, walk_enum⟩⟩⟩
  | _ => exact p1.elim
theorem zipD_get : ∀ (xs ys : List D) (i : Nat) (x y : D), xs[i]? = some x → ys[i]? = some y → (zipD xs ys)[i]? = some (.tup [x, y])
  | [], _, _, _, _, h, _ => by simp at h
  | _ :: _, [], _, _, _, _, h => by simp at h
  | a :: xs, b :: ys, 0, x, y, h, h' => by simp at h h'; subst h; subst h'; simp [zipD]
  | a :: xs, b :: ys, i + 1, x, y, h, h' => by simpa [zipD] using zipD_get xs ys i x y (by simpa using h) (by simpa using h')
theorem zipD_length : ∀ (xs ys : List D), (zipD xs ys).length = min xs.length ys.length
  | [], ys => by simp [zipD]
  | _ :: _, [] => by simp [zipD]
  | a :: xs, b :: ys => by simp [zipD, zipD_length xs ys]
theorem si_zip {elts : List Expr} {kk : Nat} {tpos : Pos} (hg : Gl X "zip") (hm : X.mg "zip" = none) (ha : SE X W a (evE c x)) (hb : SE X W b (evE c y))
    (hs : starEach [a, b] X.env = (false, eval a X.env) :: starEach [b] X.env) (hs2 : starEach [b] X.env = (false, eval b X.env) :: starEach [] X.env) (hpl : (backTo pos (starEach [b] X.env)).any (·.1) = false) : SI X W (.Tuple elts kk tpos) (.Call (.Name "zip" pn) [a, b] [] pos) (evI c (.izip x y)) := by
  intro z m ρ S σ H R s en p
  simp only [evI] at p
  refine semI_of (RZ.pi_zipA hg hm (pa_cons pe_sem (pa_cons pe_sem pa_nil hs2) hs) hs hpl) (ha z m ρ S σ H _ s en (p.bind fun d S1 m1 H1 v st1 s1 r1 p1 => ?_))
  refine hb z m1 ρ S1 σ H1 _ s1 (en.step st1) (p1.bind fun d2 S2 m2 H2 v2 st2 s2 r2 p2 => ?_)
  have r1' := Rp.step st2 r1
  split at p2
  · rename_i xs ys
    obtain ⟨q, vs, rfl, h1, h2⟩ := r1'.tupAt
    obtain ⟨q2, vs2, rfl, h3, h4⟩ := r2.tupAt
    refine ⟨q, q2, vs, vs2, rfl, .inr ⟨h1, h3, p2.ok s2 ⟨fun z m H => GT X q vs xs z m H ∧ GT X q2 vs2 ys z m H, ⟨⟨h1, h2⟩, h3, h4⟩, ?_⟩⟩⟩
    refine ⟨fun z m H m' H' g st => ⟨g.1.step st, g.2.step st⟩, fun z m H q g hq => ⟨g.1.hide hq, g.2.hide hq⟩, fun z m H q us ws g hq h0 => ⟨g.1.hwrite hq h0, g.2.hwrite hq h0⟩, fun z i m H g hi => ?_, fun z m H g => ?_, fun z i m H u H' S g hy hi s => ?_⟩
    · rw [zipD_length] at hi
      have hi1 : i < vs.length := by rw [← g.1.2.length]; omega
      have hi2 : i < vs2.length := by rw [← g.2.2.length]; omega
      exact ⟨vs, vs2, vs[i], vs2[i], g.1.1, g.2.1, List.getElem?_eq_getElem hi1, List.getElem?_eq_getElem hi2⟩
    · refine ⟨vs, vs2, g.1.1, g.2.1, ?_⟩
      rw [zipD_length, g.1.2.length, g.2.2.length]
      omega
    · obtain ⟨T, a1, b1, rfl, hT, rfl, hy1, hy2⟩ := hy
      obtain ⟨d1, e1, e2⟩ := g.1.2.getV (hy1 vs g.1.1)
      obtain ⟨d2, e3, e4⟩ := g.2.2.getV (hy2 vs2 g.2.1)
      exact ⟨_, zipD_get xs ys i d1 d2 e1 e3, .aside hT, s.aside hT, fun b o h => by rw [upd_ne (ne_of_none h hT)]; exact h, Rp.newTup hT (RpL.cons e2 (RpL.one e4))⟩
  · rename_i xs ys
    simp only [RE, Rp] at r1' r2
    obtain ⟨q, vs, rfl, h1, h5, h2⟩ := r1'
    obtain ⟨q2, vs2, rfl, h3, h6, h4⟩ := r2
    refine ⟨q, q2, vs, vs2, rfl, .inl ⟨SqL.of h1, SqL.of h3, p2.ok s2 ⟨fun z m H => GL X q vs xs z m H ∧ GL X q2 vs2 ys z m H, ⟨⟨⟨h1, h5⟩, h2⟩, ⟨h3, h6⟩, h4⟩, ?_⟩⟩⟩
    refine ⟨fun z m H m' H' g st => ⟨g.1.step st, g.2.step st⟩, fun z m H q g hq => ⟨g.1.hide hq, g.2.hide hq⟩, fun z m H q us ws g hq h0 => ⟨g.1.hwrite hq h0, g.2.hwrite hq h0⟩, fun z i m H g hi => ?_, fun z m H g => ?_, fun z i m H u H' S g hy hi s => ?_⟩
    · rw [zipD_length] at hi
      have hi1 : i < vs.length := by rw [← g.1.2.length]; omega
      have hi2 : i < vs2.length := by rw [← g.2.2.length]; omega
      exact ⟨vs, vs2, vs[i], vs2[i], SqL.of g.1.1.1, SqL.of g.2.1.1, List.getElem?_eq_getElem hi1, List.getElem?_eq_getElem hi2⟩
    · refine ⟨vs, vs2, SqL.of g.1.1.1, SqL.of g.2.1.1, ?_⟩
      rw [zipD_length, g.1.2.length, g.2.2.length]
      omega
    · obtain ⟨T, a1, b1, rfl, hT, rfl, hy1, hy2⟩ := hy
      obtain ⟨d1, e1, e2⟩ := g.1.2.getV (hy1 vs (SqL.of g.1.1.1))
      obtain ⟨d2, e3, e4⟩ := g.2.2.getV (hy2 vs2 (SqL.of g.2.1.1))
      exact ⟨_, zipD_get xs ys i d1 d2 e1 e3, .aside hT, s.aside hT, fun b o h => by rw [upd_ne (ne_of_none h hT)]; exact h, Rp.newTup hT (RpL.cons e2 (RpL.one e4))⟩
  · exact p2.elim
end
end DL
set_option Elab.async false
set_option linter.all false
set_option maxRecDepth 100000
set_option maxHeartbeats 1000000
/-! DL10: comprehensions -/
namespace DL
open PySem PySem.Spec PyProof.Rows L2
abbrev WF : WX := fun _ _ _ _ => False
/-- a property of every block that a comprehension may run in -/
def InBlk (X : Cx) (scope : Scope) (P : Cx → Prop) : Prop := ∀ (s : Shared) (H : Hp) (C : Addr) (cl : List (Str × Addr)) (fp : List Addr), P (X.blk s H scope (compEnvC scope cl C X.env) fp)
def blkE (X : Cx) (scope : Scope) (e : Expr) : TE := fun σ H Q => InBlk X scope fun Y => semE Y e σ H Q
def blkT (X : Cx) (scope : Scope) (e : Expr) : TT := fun σ H Q => InBlk X scope fun Y => semT Y e σ H Q
def blkG (X : Cx) (scope : Scope) (tg : Expr) : TG := fun v σ H Q => InBlk X scope fun Y => semG Y tg v σ H Q
theorem blkE_pe {X : Cx} {scope : Scope} {e : Expr} (s : Shared) (H : Hp) (C : Addr) (cl : List (Str × Addr)) (fp : List Addr) : PE (X.blk s H scope (compEnvC scope cl C X.env) fp) e (blkE X scope e) := ⟨fun pins s1 σ H1 Q I h => h s H C cl fp pins s1 I⟩
theorem blkT_pt {X : Cx} {scope : Scope} {e : Expr} (s : Shared) (H : Hp) (C : Addr) (cl : List (Str × Addr)) (fp : List Addr) : PT (X.blk s H scope (compEnvC scope cl C X.env) fp) e (blkT X scope e) := ⟨fun pins s1 σ H1 Q I h => h s H C cl fp pins s1 I⟩
theorem blkG_pg {X : Cx} {scope : Scope} {e : Expr} (s : Shared) (H : Hp) (C : Addr) (cl : List (Str × Addr)) (fp : List Addr) : PG (X.blk s H scope (compEnvC scope cl C X.env) fp) e (blkG X scope e) := ⟨fun pins s1 σ H1 v u Q I r h => h s H C cl fp pins s1 u I r⟩
section
variable {X : Cx} {W : WX} {tg iter elt : Expr} {pos pn : Pos} {c : Cfg} {x y : E}
/-- the tests of a comprehension: none or one -/
def STs (X : Cx) (scope : Scope) (ifs : List Expr) (tt : TT) (f : Env → Sto → Res Bool) : Prop :=
  InBlk X scope (fun Y => PTs Y ifs tt) ∧ ∀ (z m : List Addr) (ρ : Env) (S : Sto) (σ : L2.St) (H : Hp) (Q : Bool → Hp → Prop), Sim (kt X z) m S H → EnvR (kt X z) m H ρ σ → PostB X z WF σ m H (f ρ S) Q → tt σ H Q
theorem sts_nil {scope : Scope} : STs X scope [] tYes (evC c []) := ⟨fun s H C cl fp => pts_nil, fun z m ρ S σ H Q s en p => by
  simp only [evC] at p
  exact p.ok s rfl⟩
theorem sts_one {scope : Scope} {e : Expr} (h : InBlk X scope fun Y => STe Y WF e (evT c x)) : STs X scope [e] (blkT X scope e) (evC c [x]) := by
  refine ⟨fun s H C cl fp => pts_one (blkT_pt s H C cl fp), fun z m ρ S σ H Q s en p s0 H0 C cl fp => ?_⟩
  refine h s0 H0 C cl fp z m ρ S σ H Q s en ?_
  have e1 : evC c [x] ρ S = evT c x ρ S := by
    rw [evT_eq]
    simp only [evC]
    cases evE c x ρ S with
    | exc _ _ _ => rfl
    | bad => rfl
    | ok d S1 =>
      simp only [Res.bind_ok]
      cases truth S1 d with
      | none => rfl
      | some k => cases k <;> rfl
  rw [e1] at p
  exact p
theorem noexc_post {α β : Type} {R : List Addr → Hp → α → β → Prop} {z m : List Addr} {σ : L2.St} {H : Hp} {r : Res α} {W : WX} {Q : β → Hp → Prop} (p : Post R X z W σ m H (noexc r) Q) (W' : WX) (σ' : L2.St) : Post R X z W' σ' m H r Q := by
  cases r with
  | ok a S => exact p
  | exc _ _ _ => exact p.elim
  | bad => exact p.elim
/-- where a comprehension stands between two turns: at D what has been made so far -/
structure LcAt (X : Cx) (z : List Addr) (D : Addr) (G : List Addr → List Addr → Hp → Prop) (ρ : Env) (σ : L2.St) (m0 : List Addr) (H0 : Hp) (m : List Addr) (S : Sto) (acc : List DL.D) (H : Hp) : Prop where
  st : Step m0 H0 m H
  sim : Sim (kt X (D :: z)) m S H
  at_ : ∃ vs, H D = some (.lst vs) ∧ RpL (kt X (D :: z)) m H acc.reverse vs
  env : EnvR (kt X (D :: z)) m H ρ σ
  g : G (D :: z) m H
theorem postF_noexc {z m : List Addr} {σ : L2.St} {H : Hp} {α : Type} {r : Res α} {f : α → Sto → Res DL.D} {Q : VK} (p : PostF X z W σ m H ((noexc r).bind f) Q) : (∃ a S, r = .ok a S ∧ PostF X z W σ m H (f a S) Q) := by
  cases r with
  | ok a S => exact ⟨a, S, rfl, p⟩
  | exc _ _ _ => exact p.elim
  | bad => exact p.elim
theorem wipe_get (σ : L2.St) (i : Nat) : ∀ vs : List Nat, (wipe σ vs)[i]? = if i ∈ vs then (if i < σ.length then some none else none) else σ[i]?
  | [] => by simp [wipe]
  | v :: vs => by
    simp only [wipe]
    rw [List.getElem?_set, wipe_length]
    by_cases h : v = i
    · subst h; simp
    · rw [if_neg h, wipe_get σ i vs]
      have : (i ∈ v :: vs) ↔ i ∈ vs := by simp [Ne.symm h]
      simp [this]
theorem wipe_same {σ σ' : L2.St} {is own : List Nat} (h : Else is σ σ') (ho : ∀ i ∈ is, i ∈ own) : wipe σ' own = wipe σ own := by
  apply List.ext_getElem?
  intro i
  rw [wipe_get, wipe_get, h.1]
  by_cases hi : i ∈ own
  · simp [hi]
  · simp only [hi, if_false]
    exact h.2 i fun h' => hi (ho i h')
/-- one turn -/
theorem lc_turn {scope : Scope} {t : Tg} {own : List Nat} {ifs : List Expr} {tt : TT} {f : Env → Sto → Res Bool} {z : List Addr} {D : Addr} {G : List Addr → List Addr → Hp → Prop} {ρ : Env} {σ : L2.St} {m0 : List Addr} {H0 : Hp} {m : List Addr} {S : Sto} {acc : List DL.D} {H : Hp} {d : DL.D} {v : V} {Q : VK} {σ0 : L2.St}
    {go : List DL.D → Sto → Res (List DL.D)} (hz : H0 D = none) (hstep : ∀ z m H m' H', G z m H → Step m H m' H' → G z m' H') (hwr : ∀ z m H q us vs, G z m H → q ∈ z → H q = some (.lst us) → G z m (upd H q (.lst vs)))
    (hg : InBlk X scope fun Y => SG Y tg t) (hown : ∀ i ∈ t.names, i ∈ own) (ht : STs X scope ifs tt f) (he : InBlk X scope fun Y => SE Y WF elt (evE c x))
    (L : LcAt X z D G ρ σ m0 H0 m S acc H) (r : Rp (kt X (D :: z)) m H d v) (p : PostF X z W σ0 m0 H0 ((compTurn t f (evE c x) ρ acc d S go).bind fun xs S2 => .ok (.lst xs) S2) Q) :
    blkG X scope tg v σ H fun σ2 H2 => wipe σ2 own = wipe σ own ∧ tt σ2 H2 fun b H3 =>
      if b = true then blkE X scope elt σ2 H3 fun y H4 => ∃ acc', H4 D = some (.lst acc') ∧ acc'.length < sizeLine ∧
        (∃ m' S' ac, LcAt X z D G ρ σ m0 H0 m' S' ac (upd H4 D (.lst (acc' ++ [y]))) ∧ PostF X z W σ0 m0 H0 ((go ac S').bind fun xs S2 => .ok (.lst xs) S2) Q)
      else ∃ m' S' ac, LcAt X z D G ρ σ m0 H0 m' S' ac H3 ∧ PostF X z W σ0 m0 H0 ((go ac S').bind fun xs S2 => .ok (.lst xs) S2) Q := by
  intro s1 H1 C cl fp
  unfold compTurn at p
  split at p
  · exact p.elim
  · rename_i ρ' eb
    refine hg s1 H1 C cl fp (D :: z) m ρ ρ' σ H d v _ L.env r eb fun σ2 en2 o2 => ⟨?_, ?_⟩
    · exact wipe_same o2 hown
    · rw [Res.bind_assoc] at p
      obtain ⟨b, S1, eb1, p1⟩ := postF_noexc p
      refine ht.2 (D :: z) m ρ' S σ2 H _ L.sim en2 ?_
      rw [eb1]
      rintro m1 H1' b' st1 sim1 rfl
      cases b with
      | false =>
        refine iteF ⟨m1, S1, acc, ?_, p1⟩
        obtain ⟨vs, h1, h2⟩ := L.at_
        exact ⟨L.st.trans st1, sim1, ⟨vs, st1.keep _ _ h1 (L.sim.hid D (List.mem_cons_self ..)).1 live_lst.tbl, h2.step st1⟩, L.env.step st1, hstep _ _ _ _ _ L.g st1⟩
      | true =>
        refine iteT ?_
        simp only [if_true] at p1
        rw [Res.bind_assoc] at p1
        obtain ⟨e, S2, ee, p2⟩ := postF_noexc p1
        intro s2 H2 C2 cl2 fp2
        refine he s2 H2 C2 cl2 fp2 (D :: z) m1 ρ' S1 σ2 H1' _ sim1 (en2.step st1) ?_
        rw [ee]
        intro m2 H2' u st2 sim2 r2
        split at p2
        · rename_i hl
          obtain ⟨vs, h1, h2⟩ := L.at_
          have st12 := st1.trans st2
          have hD : H2' D = some (.lst vs) := st12.keep _ _ h1 (L.sim.hid D (List.mem_cons_self ..)).1 live_lst.tbl
          have h3 := h2.step st12
          refine ⟨vs, hD, by rw [← h3.length, List.length_reverse]; exact hl, m2, S2, e :: acc, ?_, p2⟩
          have hm : D ∈ (kt X (D :: z)).hid := List.mem_cons_self ..
          refine ⟨(L.st.trans st12).over hz, sim2.hwrite hm hD, ⟨vs ++ [u], upd_same, ?_⟩, (L.env.step st12).hwrite hm hD, hwr _ _ _ _ _ _ (hstep _ _ _ _ _ L.g st12) hm hD⟩
          rw [List.reverse_cons]
          exact RpL.append (h3.hwrite hm hD) (RpL.one (Rp.hwrite hm hD r2))
        · exact p2.elim
theorem compL_eq (t : Tg) (f : Env → Sto → Res Bool) (g : Env → Sto → Res DL.D) (ρ : Env) (acc : List DL.D) (d : DL.D) (xs : List DL.D) (S : Sto) : compL t f g ρ acc (d :: xs) S = compTurn t f g ρ acc d S fun acc S1 => compL t f g ρ acc xs S1 := rfl
/-- all turns, over items that stand -/
theorem lc_fixed {scope : Scope} {t : Tg} {own : List Nat} {ifs : List Expr} {tt : TT} {f : Env → Sto → Res Bool} {z : List Addr} {D : Addr} {G : List Addr → List Addr → Hp → Prop} {ρ : Env} {σ : L2.St} {m0 : List Addr} {H0 : Hp} {m : List Addr} {S : Sto} {H : Hp} {Q : VK} {σ0 : L2.St} {J : It} {xs : List DL.D}
    (hD : H0 D = none) (hz : D ∉ z) (w : Walk X J xs G) (hg : InBlk X scope fun Y => SG Y tg t) (hown : ∀ i ∈ t.names, i ∈ own) (ht : STs X scope ifs tt f) (he : InBlk X scope fun Y => SE Y WF elt (evE c x))
    (L : LcAt X z D G ρ (wipe σ own) m0 H0 m S [] H) (p : PostF X z W σ0 m0 H0 ((compL t f (evE c x) ρ [] xs S).bind fun xs S2 => .ok (.lst xs) S2) Q) :
    ∃ V : Nat → Nat → Hp → Prop, (∃ n, V 0 n H) ∧ ∀ i n H, V i n H →
      (J.stop i H ∧ Q (.ref D) H) ∨ (J.go i H ∧ ∃ Nx : Hp → Prop, (∀ H', Nx H' → ∃ n', n' < n ∧ V (i + 1) n' H') ∧ ∀ x H', J.yld i H x H' → blkG X scope tg x (wipe σ own) H' fun σ2 H2 => wipe σ2 own = wipe σ own ∧ tt σ2 H2 fun b H3 =>
        if b = true then blkE X scope elt σ2 H3 fun y H4 => ∃ acc, H4 D = some (.lst acc) ∧ acc.length < sizeLine ∧ Nx (upd H4 D (.lst (acc ++ [y]))) else Nx H3) := by
  have hww : ∀ σ2 : L2.St, wipe σ2 own = wipe (wipe σ own) own → wipe σ2 own = wipe σ own := fun σ2 h => by
    rw [h]
    apply List.ext_getElem?
    intro i
    rw [wipe_get, wipe_get, wipe_length]
    by_cases hi : i ∈ own
    · simp [hi]
    · simp [hi]
  refine ⟨fun i n H => i + n = xs.length ∧ ∃ m S acc, LcAt X z D G ρ (wipe σ own) m0 H0 m S acc H ∧ PostF X z W σ0 m0 H0 ((compL t f (evE c x) ρ acc (xs.drop i) S).bind fun xs S2 => .ok (.lst xs) S2) Q, ⟨xs.length, by simp, m, S, [], L, by simpa using p⟩, ?_⟩
  rintro i n H ⟨hn, m, S, acc, L, p⟩
  by_cases hi : i < xs.length
  · refine .inr ⟨w.go _ i m H L.g hi, fun H' => ∃ m' S' ac, LcAt X z D G ρ (wipe σ own) m0 H0 m' S' ac H' ∧ PostF X z W σ0 m0 H0 ((compL t f (evE c x) ρ ac (xs.drop (i + 1)) S').bind fun xs S2 => .ok (.lst xs) S2) Q, fun H' hH => ⟨n - 1, by omega, by omega, hH⟩, fun v H' hy => ?_⟩
    obtain ⟨d, e1, st, sim, kp, r⟩ := w.yld _ i m H v H' S L.g hy hi L.sim
    have e2 : xs.drop i = d :: xs.drop (i + 1) := by
      rw [List.drop_eq_getElem_cons hi]
      congr 1
      rw [List.getElem?_eq_getElem hi] at e1
      exact Option.some.inj e1
    rw [e2, compL_eq] at p
    obtain ⟨vs, h1, h2⟩ := L.at_
    have L' : LcAt X z D G ρ (wipe σ own) m0 H0 m S acc H' := ⟨L.st.trans st, sim, ⟨vs, kp _ _ h1, h2.step st⟩, L.env.step st, w.step _ _ _ _ _ L.g st⟩
    have := lc_turn (c := c) (x := x) (elt := elt) (W := W) (G := G) (own := own) hD w.step w.hwrite hg hown ht he L' r p
    intro s1 H1 C cl fp
    have h3 := this s1 H1 C cl fp
    intro pins s2 u I ru
    refine thn (h3 pins s2 u I ru) fun _ s' ⟨σ', H', I', e3, e4⟩ => ⟨σ', H', I', hww σ' e3, e4⟩
  · have hi' : i = xs.length := by omega
    subst hi'
    refine .inl ⟨w.stop _ m H L.g, ?_⟩
    rw [List.drop_length] at p
    obtain ⟨vs, h1, h2⟩ := L.at_
    exact p m H D vs _ rfl L.st L.sim (fre_none hD) hz h1 h2
/-- a list of the store, looked at turn by turn -/
theorem lc_live {scope : Scope} {t : Tg} {own : List Nat} {ifs : List Expr} {tt : TT} {f : Env → Sto → Res Bool} {z : List Addr} {D : Addr} {ρ : Env} {σ : L2.St} {m0 : List Addr} {H0 : Hp} {m : List Addr} {S : Sto} {H : Hp} {Q : VK} {σ0 : L2.St} {k L0 : Nat} {a : Addr}
    (hD : H0 D = none) (hz : D ∉ z) (ha : m0[k]? = some a) (hg : InBlk X scope fun Y => SG Y tg t) (hown : ∀ i ∈ t.names, i ∈ own) (ht : STs X scope ifs tt f) (he : InBlk X scope fun Y => SE Y WF elt (evE c x))
    (L : LcAt X z D (fun _ _ _ => True) ρ (wipe σ own) m0 H0 m S [] H) (p : PostF X z W σ0 m0 H0 ((compLive t f (evE c x) ρ k L0 L0 [] S).bind fun xs S2 => .ok (.lst xs) S2) Q) :
    ∃ V : Nat → Nat → Hp → Prop, (∃ n, V 0 n H) ∧ ∀ i n H, V i n H →
      ((Itl X.K a).stop i H ∧ Q (.ref D) H) ∨ ((Itl X.K a).go i H ∧ ∃ Nx : Hp → Prop, (∀ H', Nx H' → ∃ n', n' < n ∧ V (i + 1) n' H') ∧ ∀ x H', (Itl X.K a).yld i H x H' → blkG X scope tg x (wipe σ own) H' fun σ2 H2 => wipe σ2 own = wipe σ own ∧ tt σ2 H2 fun b H3 =>
        if b = true then blkE X scope elt σ2 H3 fun y H4 => ∃ acc, H4 D = some (.lst acc) ∧ acc.length < sizeLine ∧ Nx (upd H4 D (.lst (acc ++ [y]))) else Nx H3) := by
  have hww : ∀ σ2 : L2.St, wipe σ2 own = wipe (wipe σ own) own → wipe σ2 own = wipe σ own := fun σ2 h => by
    rw [h]
    apply List.ext_getElem?
    intro i
    rw [wipe_get, wipe_get, wipe_length]
    by_cases hi : i ∈ own
    · simp [hi]
    · simp [hi]
  refine ⟨fun i n H => i + n = L0 ∧ ∃ m S acc, LcAt X z D (fun _ _ _ => True) ρ (wipe σ own) m0 H0 m S acc H ∧ PostF X z W σ0 m0 H0 ((compLive t f (evE c x) ρ k L0 n acc S).bind fun xs S2 => .ok (.lst xs) S2) Q, ⟨L0, by simp, m, S, [], L, p⟩, ?_⟩
  rintro i n H ⟨hn, m, S, acc, L, p⟩
  have ham := L.st.get ha
  obtain ⟨vs, h1, h2⟩ := L.at_
  cases n with
  | zero =>
    simp only [compLive] at p
    cases e : S[k]? with
    | none => rw [e] at p; exact p.elim
    | some o =>
      rw [e] at p
      cases o with
      | lst ys =>
        simp only at p
        split at p
        · rename_i hl
          obtain ⟨us, h3, h4⟩ := L.sim.at_ k _ a e ham
          refine .inl ⟨⟨us, SqL.of h3, by rw [← h4.length]; omega⟩, ?_⟩
          exact p m H D vs _ rfl L.st L.sim (fre_none hD) hz h1 h2
        · exact p.elim
      | _ => exact p.elim
  | succ n =>
    simp only [compLive] at p
    cases e0 : itemAt S k L0 (L0 - (n + 1)) with
    | none => rw [e0] at p; exact p.elim
    | some d =>
      rw [e0] at p
      have hii : L0 - (n + 1) = i := by omega
      rw [hii] at e0
      unfold itemAt at e0
      cases e : S[k]? with
      | none => rw [e] at e0; cases e0
      | some o =>
        rw [e] at e0
        cases o with
        | lst ys =>
          simp only at e0
          split at e0
          · rename_i hl
            obtain ⟨us, h3, h4⟩ := L.sim.at_ k _ a e ham
            obtain ⟨u, h5, h6⟩ := h4.get e0
            refine .inr ⟨⟨us, u, SqL.of h3, h5⟩, fun H' => ∃ m' S' ac, LcAt X z D (fun _ _ _ => True) ρ (wipe σ own) m0 H0 m' S' ac H' ∧ PostF X z W σ0 m0 H0 ((compLive t f (evE c x) ρ k L0 n ac S').bind fun xs S2 => .ok (.lst xs) S2) Q, fun H' hH => ⟨n, by omega, by omega, hH⟩, fun v H' hy => ?_⟩
            obtain ⟨rfl, hy⟩ := hy
            have hv := hy us (SqL.of h3)
            rw [h5] at hv; cases hv
            have := lc_turn (c := c) (x := x) (elt := elt) (W := W) (G := fun _ _ _ => True) (own := own) hD (fun _ _ _ _ _ _ _ => trivial) (fun _ _ _ _ _ _ _ _ _ => trivial) hg hown ht he L h6 p
            intro s1 H1 C cl fp
            have h3 := this s1 H1 C cl fp
            intro pins s2 u I ru
            refine thn (h3 pins s2 u I ru) fun _ s' ⟨σ', H', I', e3, e4⟩ => ⟨σ', H', I', hww σ' e3, e4⟩
          · cases e0
        | _ => cases e0
theorem sf_lc {scope : Scope} {t : Tg} {own : List (Str × Nat)} {ifs : List Expr} {tt : TT} {xs : List E} {y : E} (hc : X.calm = true) (hN : X.N.Nodup) (ok : BlkOk X.N X.env.scope scope own) (hi : SI X W tg iter (evI c y)) (hg : InBlk X scope fun Y => SG Y tg t) (hown : ∀ i ∈ t.names, i ∈ own.map (·.2))
    (ht : STs X scope ifs tt (evC c xs)) (he : InBlk X scope fun Y => SE Y WF elt (evE c x)) (hs : ∀ v, foldedSetIterable iter X.env v = pure v) : ∀ (z m : List Addr) (ρ : Env) (S : Sto) (σ : L2.St) (H : Hp) (Q : VK), Sim (kt X z) m S H → EnvR (kt X z) m H ρ σ → PostF X z W σ m H (evE c (.lc x t (own.map (·.2)) y xs) ρ S) Q →
      tLc (semI X tg iter) (blkG X scope tg) tt (blkE X scope elt) (own.map (·.2)) σ H Q := by
  intro z m ρ S σ H Q s en p
  simp only [evE] at p
  refine hi z m ρ S σ H _ s en (p.bind fun src S1 m1 H1 J st1 s1 w1 p1 => ?_)
  intro D hD
  have hz : D ∉ z := s1.nohid hD
  have L : ∀ G : List Addr → List Addr → Hp → Prop, G (D :: z) m1 (upd H1 D (.lst [])) → LcAt X z D G (wipeE ρ (own.map (·.2))) (wipe σ (own.map (·.2))) m1 H1 m1 S1 [] (upd H1 D (.lst [])) := fun G g => by
    refine ⟨.aside hD, s1.hide hD live_lst, ⟨[], upd_same, by simpa using RpL.nil⟩, ?_, g⟩
    exact (((en.step st1).hide hD).step (.aside hD)).wipe _
  cases src with
  | fixed ys =>
    obtain ⟨G, g, w⟩ := w1
    exact lc_fixed (W := W) hD hz w hg hown ht he (L G (w.step _ _ _ _ _ (w.hide _ _ _ _ g hD) (.aside hD))) p1
  | live n k =>
    obtain ⟨a, ha, rfl⟩ := w1
    exact lc_live (W := W) hD hz ha hg hown ht he (L _ trivial) p1
theorem sfe_lc {scope : Scope} {t : Tg} {own : List (Str × Nat)} {ifs : List Expr} {tt : TT} {xs : List E} {y : E} (hc : X.calm = true) (hN : X.N.Nodup) (ok : BlkOk X.N X.env.scope scope own) (hi : SI X W tg iter (evI c y)) (hg : InBlk X scope fun Y => SG Y tg t) (hown : ∀ i ∈ t.names, i ∈ own.map (·.2))
    (ht : STs X scope ifs tt (evC c xs)) (he : InBlk X scope fun Y => SE Y WF elt (evE c x)) (hs : ∀ v, foldedSetIterable iter X.env v = pure v) : SF X W (.ListComp elt [⟨tg, iter, ifs, 0⟩] scope pos) (evE c (.lc x t (own.map (·.2)) y xs)) :=
  fun z m ρ S σ H Q s en p => semE_of (pe_lc hc hN pi_sem ok (fun s H C cl fp => blkG_pg s H C cl fp) ht.1 (fun s H C cl fp => blkE_pe s H C cl fp) hs) (sf_lc hc hN ok hi hg hown ht he hs z m ρ S σ H Q s en p)
end
end DL
set_option Elab.async false
set_option linter.all false
set_option maxRecDepth 100000
set_option maxHeartbeats 1000000
/-! DL11: statements -/
namespace DL
open PySem PySem.Spec PyProof.Rows L2
def semS (X : Cx) (st : Stmt) : TS := fun D σ H => ∀ pins s, Inv X pins σ H s → wpAny (model X.prog X.w) X.A (exec st X.env) (SP X pins D) X.xe s
def semSs (X : Cx) (st : List Stmt) : TS := fun D σ H => ∀ pins s, Inv X pins σ H s → wpAny (model X.prog X.w) X.A (execs st X.env) (SP X pins D) X.xe s
theorem ps_sem {X : Cx} {st : Stmt} : PS X st (semS X st) := ⟨fun pins s σ H D I h => h pins s I⟩
theorem pss_sem {X : Cx} {st : List Stmt} : PSs X st (semSs X st) := ⟨fun pins s σ H D I h => h pins s I⟩
theorem semS_of {X : Cx} {st : Stmt} {t : TS} (h : PS X st t) {D : Ends} {σ : L2.St} {H : Hp} (q : t D σ H) : semS X st D σ H := fun pins s I => h.run pins s σ H D I q
theorem semSs_of {X : Cx} {st : List Stmt} {t : TS} (h : PSs X st t) {D : Ends} {σ : L2.St} {H : Hp} (q : t D σ H) : semSs X st D σ H := fun pins s I => h.run pins s σ H D I q
def PostS (X : Cx) (z : List Addr) (W : WX) (m : List Addr) (H : Hp) (o : Out) (N : Ends) : Prop := match o with
  | .next ρ S => ∀ m' H' σ', Step m H m' H' → Sim (kt X z) m' S H' → EnvR (kt X z) m' H' ρ σ' → N.nx σ' H'
  | .brk ρ S => ∀ m' H' σ', Step m H m' H' → Sim (kt X z) m' S H' → EnvR (kt X z) m' H' ρ σ' → N.bk σ' H'
  | .cont ρ S => ∀ m' H' σ', Step m H m' H' → Sim (kt X z) m' S H' → EnvR (kt X z) m' H' ρ σ' → N.ct σ' H'
  | .ret d S => ∀ m' H' v, Step m H m' H' → Sim (kt X z) m' S H' → Rp (kt X z) m' H' d v → N.rt v H'
  | .exc x d ρ S => ∀ m' H' σ' cls dx, Step m H m' H' → Sim (kt X z) m' S H' → EnvR (kt X z) m' H' ρ σ' → ExR X z m' H' x d cls dx → W cls dx σ' H'
  | .bad => False
theorem PostS.later {X : Cx} {z : List Addr} {W : WX} {m m1 : List Addr} {H H1 : Hp} {o : Out} {N : Ends} (st : Step m H m1 H1) (h : PostS X z W m H o N) : PostS X z W m1 H1 o N := by
  cases o with
  | next ρ S => exact fun m' H' σ' s1 s2 s3 => h m' H' σ' (st.trans s1) s2 s3
  | brk ρ S => exact fun m' H' σ' s1 s2 s3 => h m' H' σ' (st.trans s1) s2 s3
  | cont ρ S => exact fun m' H' σ' s1 s2 s3 => h m' H' σ' (st.trans s1) s2 s3
  | ret ρ S => exact fun m' H' σ' s1 s2 s3 => h m' H' σ' (st.trans s1) s2 s3
  | exc x d ρ S => exact fun m' H' σ' c dx s1 s2 s3 s4 => h m' H' σ' c dx (st.trans s1) s2 s3 s4
  | bad => exact h
theorem PostS.ofRes {X : Cx} {z : List Addr} {W : WX} {m : List Addr} {H : Hp} {N : Ends} {α γ : Type} {R : List Addr → Hp → α → γ → Prop} {σ : L2.St} {ρ : Env} {r : Res α} {f : α → Sto → Out} {Q1 : γ → Hp → Prop} (en : EnvR (kt X z) m H ρ σ)
    (h : PostS X z W m H (ofRes ρ r f) N) (k : ∀ a S1 m1 H1 b, Step m H m1 H1 → Sim (kt X z) m1 S1 H1 → R m1 H1 a b → PostS X z W m1 H1 (f a S1) N → Q1 b H1) : Post R X z W σ m H r Q1 := by
  cases r with
  | ok a S => exact fun m' H' b s1 s2 s3 => k a S m' H' b s1 s2 s3 (h.later s1)
  | exc x d S => exact fun m' H' c dx s1 s2 s3 => h m' H' σ c dx s1 s2 (en.step s1) s3
  | bad => exact h
def SSt (X : Cx) (W : WX) (st : Stmt) (f : Env → Sto → Out) : Prop :=
  ∀ (z m : List Addr) (ρ : Env) (S : Sto) (σ : L2.St) (H : Hp) (N : Ends), Sim (kt X z) m S H → EnvR (kt X z) m H ρ σ → PostS X z W m H (f ρ S) N → semS X st N σ H
def SSs (X : Cx) (W : WX) (st : List Stmt) (f : Env → Sto → Out) : Prop :=
  ∀ (z m : List Addr) (ρ : Env) (S : Sto) (σ : L2.St) (H : Hp) (N : Ends), Sim (kt X z) m S H → EnvR (kt X z) m H ρ σ → PostS X z W m H (f ρ S) N → semSs X st N σ H
section
variable {X : Cx} {W : WX} {a b d e q tg iter : Expr} {st : Stmt} {sts body orelse : List Stmt} {pos pos' pn : Pos} {c : Cfg} {x y w : E} {s1 : Stm} {ss ss' : List Stm}
theorem ss_nil : SSs X W [] (evSs c []) := fun z m ρ S σ H N s en p => semSs_of pss_nil (p m H σ .refl s en)
theorem ss_cons (h1 : SSt X W st (evS c s1)) (h2 : SSs X W sts (evSs c ss)) : SSs X W (st :: sts) (evSs c (s1 :: ss)) := by
  intro z m ρ S σ H N s en p
  simp only [evSs] at p
  refine semSs_of (pss_cons ps_sem pss_sem) (h1 z m ρ S σ H _ s en ?_)
  cases e : evS c s1 ρ S with
  | next ρ1 S1 =>
    rw [e] at p
    exact fun m1 H1 σ1 st1 s1 en1 => h2 z m1 ρ1 S1 σ1 H1 N s1 en1 (p.later st1)
  | _ => rw [e] at p; exact p
theorem st_asg {t : Tg} (ha : SE X W a (evE c x)) (hg : SG X tg t) (hs : swapsWithSole [tg] a pos.line X.env = pure false) (hw : swappedStores [tg] a X.env = pure none) (h1 : (assignEach [tg] X.env).map (·.2) = [assign tg X.env]) : SSt X W (.Assign [tg] a pos) (evS c (.asg t x)) := by
  intro z m ρ S σ H N s en p
  simp only [evS] at p
  refine semS_of (ps_asg pe_sem pg_sem hs hw h1) (ha z m ρ S σ H _ s en (p.ofRes en fun d S1 m1 H1 v st1 s1 r1 p1 => ?_))
  split at p1
  · rename_i ρ' eb
    exact hg z m1 ρ ρ' σ H1 d v _ (en.step st1) r1 eb fun σ' en' _ => p1 m1 H1 σ' .refl s1 en'
  · exact p1.elim
/-- y = [..] -/
theorem st_asgLc {i : Nat} {yn : Str} {py : Pos} {elt : Expr} {scope : Scope} {t : Tg} {own : List (Str × Nat)} {ifs : List Expr} {tt : TT} {xs : List E} {u : E} (hm : u = .lc x t (own.map (·.2)) y xs ∨ u = .thaw (.lc x t (own.map (·.2)) y xs)) (hc : X.calm = true) (hN : X.N.Nodup) (hy : X.N[i]? = some yn) (hyl : X.env.scope.names.lookup yn = some .local)
    (hsw : swapsWith (.ListComp elt [⟨tg, iter, ifs, 0⟩] scope pos) (some (.Name yn py)) pos'.line X.env = pure true) (ok : BlkOk X.N X.env.scope scope own) (hi : SI X W tg iter (evI c y)) (hg : InBlk X scope fun Y => SG Y tg t) (hown : ∀ i ∈ t.names, i ∈ own.map (·.2))
    (ht : STs X scope ifs tt (evC c xs)) (he : InBlk X scope fun Y => SE Y WF elt (evE c x)) (hs : ∀ v, foldedSetIterable iter X.env v = pure v) : SSt X W (.Assign [.Name yn py] (.ListComp elt [⟨tg, iter, ifs, 0⟩] scope pos) pos') (evS c (.asg (.name i) u)) := by
  intro z m ρ S σ H N s en p
  simp only [evS] at p
  refine semS_of (ps_setLc hc hN hy hyl hsw pi_sem ok (fun s H C cl fp => blkG_pg s H C cl fp) ht.1 (fun s H C cl fp => blkE_pe s H C cl fp) hs) (sf_lc (W := W) hc hN ok hi hg hown ht he hs z m ρ S σ H _ s en ?_)
  rcases hm with rfl | rfl
  · cases e : evE c (.lc x t (own.map (·.2)) y xs) ρ S with
    | exc x d S' => rw [e] at p; exact fun m' H' c dx s1 s2 s3 => p m' H' σ c dx s1 s2 (en.step s1) s3
    | bad => rw [e] at p; exact p
    | ok d S1 =>
      rw [e] at p
      rintro m1 H1 q vs ys rfl st1 sm1 h1 h2 h3 h4
      refine p m1 H1 _ st1 sm1.unhide ((en.step st1).set ?_ i)
      simp only [Rp]
      have h6 := RpL.unhide (k := kt X z) (q := q) (e := []) (by simp) h4
      rw [List.append_nil] at h6
      exact ⟨q, vs, rfl, h3, ⟨(sm1.hid q (List.mem_cons_self ..)).1, h2⟩, h6⟩
  · rw [show evE c (.thaw (.lc x t (own.map (·.2)) y xs)) ρ S = (evE c (.lc x t (own.map (·.2)) y xs) ρ S).bind fun d S1 => match d with
      | .lst xs => .ok (.ref S1.length) (S1 ++ [.lst xs])
      | _ => .bad from rfl] at p
    cases e : evE c (.lc x t (own.map (·.2)) y xs) ρ S with
    | exc x d S' => rw [e] at p; exact fun m' H' c dx s1 s2 s3 => p m' H' σ c dx s1 s2 (en.step s1) s3
    | bad => rw [e] at p; exact p
    | ok d S1 =>
      rw [e] at p
      rintro m1 H1 q vs ys rfl st1 sm1 h1 h2 h3 h4
      simp only [Res.bind_ok, ofRes_ok, bindT] at p
      refine p (m1 ++ [q]) H1 _ (st1.adoptNew h1) (sm1.adopt h2 h3 h4) ((en.step (st1.adoptNew h1)).set ?_ i)
      simp only [Rp]
      exact ⟨q, by rw [sm1.len.symm]; simp, rfl⟩
theorem st_expr (ha : SE X W a (evE c x)) (hs : swapsWith a none pos.line X.env = pure false) : SSt X W (.Expr a pos) (evS c (.expr x)) := by
  intro z m ρ S σ H N s en p
  simp only [evS] at p
  exact semS_of (ps_expr pe_sem hs) (ha z m ρ S σ H _ s en (p.ofRes en fun d S1 m1 H1 v st1 s1 r1 p1 => p1 m1 H1 σ .refl s1 (en.step st1)))
theorem st_ret (ha : SE X W a (evE c x)) : SSt X W (.Return (some a) pos) (evS c (.ret x)) := by
  intro z m ρ S σ H N s en p
  simp only [evS] at p
  exact semS_of (ps_ret pe_sem) (ha z m ρ S σ H _ s en (p.ofRes en fun d S1 m1 H1 v st1 s1 r1 p1 => p1 m1 H1 v .refl s1 r1))
theorem st_retN : SSt X W (.Return none pos) (evS c .retN) := fun z m ρ S σ H N s en p => semS_of ps_retN (p m H .non .refl s Rp.nonI)
theorem st_pass : SSt X W (.Pass pos) (evS c .pass) := fun z m ρ S σ H N s en p => semS_of ps_pass (p m H σ .refl s en)
theorem st_brk : SSt X W (.Break pos) (evS c .brk) := fun z m ρ S σ H N s en p => semS_of ps_break (p m H σ .refl s en)
theorem st_cont : SSt X W (.Continue pos) (evS c .cont) := fun z m ρ S σ H N s en p => semS_of ps_continue (p m H σ .refl s en)
theorem st_if (hq : STe X W q (evT c x)) (ha : SSs X W body (evSs c ss)) (hb : SSs X W orelse (evSs c ss')) : SSt X W (.If q body orelse pos) (evS c (.ifs x ss ss')) := by
  intro z m ρ S σ H N s en p
  simp only [evS] at p
  refine semS_of (ps_if pt_sem pss_sem pss_sem) (hq z m ρ S σ H _ s en (p.ofRes en fun k S1 m1 H1 v st1 s1 r1 p1 => ?_))
  cases r1
  cases k with
  | true => exact iteT (ha z m1 ρ S1 σ H1 N s1 (en.step st1) p1)
  | false => exact iteF (hb z m1 ρ S1 σ H1 N s1 (en.step st1) p1)
/-! ### loops -/
theorem loop_turn {t : Tg} {z m : List Addr} {S : Sto} {ρ : Env} {σ : L2.St} {H : Hp} {dd : D} {v : V} {N : Ends} {go : Env → Sto → Out} {Nx : L2.St → Hp → Prop} (hg : SG X tg t) (hb : SSs X W body (evSs c ss)) (s : Sim (kt X z) m S H) (en : EnvR (kt X z) m H ρ σ) (r : Rp (kt X z) m H dd v)
    (p : PostS X z W m H (match bindT t dd ρ with | none => .bad | some ρ' => match evSs c ss ρ' S with | .next ρ1 S1 => go ρ1 S1 | .cont ρ1 S1 => go ρ1 S1 | .brk ρ1 S1 => .next ρ1 S1 | o => o) N)
    (hn : ∀ m' H' σ' ρ' S', Step m H m' H' → Sim (kt X z) m' S' H' → EnvR (kt X z) m' H' ρ' σ' → PostS X z W m' H' (go ρ' S') N → Nx σ' H') : semG X tg v σ H fun σ2 H2 => semSs X body { N with nx := Nx, ct := Nx, bk := N.nx } σ2 H2 := by
  split at p
  · exact p.elim
  · rename_i ρ' eb
    refine hg z m ρ ρ' σ H dd v _ en r eb fun σ2 en2 _ => hb z m ρ' S σ2 H _ s en2 ?_
    cases e : evSs c ss ρ' S with
    | next ρ1 S1 => rw [e] at p; exact fun m' H' σ' s1 s2 s3 => hn m' H' σ' ρ1 S1 s1 s2 s3 (p.later s1)
    | cont ρ1 S1 => rw [e] at p; exact fun m' H' σ' s1 s2 s3 => hn m' H' σ' ρ1 S1 s1 s2 s3 (p.later s1)
    | _ => rw [e] at p; exact p
theorem st_for {t : Tg} (hp : PassesOwn (model X.prog X.w) X.A X.env X.xe) (hc : X.calm = true) (hi : SI X W tg iter (evI c x)) (hg : SG X tg t) (hb : SSs X W body (evSs c ss)) (hs : ∀ v, foldedSetIterable iter X.env v = pure v) : SSt X W (.For tg iter body [] pos) (evS c (.for t x ss)) := by
  intro z m ρ S σ H N s en p
  simp only [evS] at p
  refine semS_of (ps_for hp hc pi_sem pg_sem pss_sem hs) (hi z m ρ S σ H _ s en (p.ofRes en fun src S1 m1 H1 J st1 sm1 w1 p1 => ?_))
  cases src with
  | fixed xs =>
    obtain ⟨G, g, w⟩ := w1
    refine ⟨fun i n σ H => i + n = xs.length ∧ ∃ m S ρ, Step m1 H1 m H ∧ Sim (kt X z) m S H ∧ EnvR (kt X z) m H ρ σ ∧ G z m H ∧ PostS X z W m H (loopL t (evSs c ss) (xs.drop i) ρ S) N, ⟨xs.length, by simp, m1, S1, ρ, .refl, sm1, en.step st1, g, by rw [List.drop_zero]; exact p1⟩, ?_⟩
    rintro i n σ H ⟨hn, m, S, ρ, st, sm, en, g, p⟩
    by_cases hi : i < xs.length
    · refine .inr ⟨w.go z i m H g hi, fun σ' H' => ∃ m S ρ, Step m1 H1 m H' ∧ Sim (kt X z) m S H' ∧ EnvR (kt X z) m H' ρ σ' ∧ G z m H' ∧ PostS X z W m H' (loopL t (evSs c ss) (xs.drop (i + 1)) ρ S) N, fun σ' H' h => ⟨n - 1, by omega, by omega, h⟩, fun v H' hy => ?_⟩
      obtain ⟨dd, e1, st2, sm2, kp, r⟩ := w.yld z i m H v H' S g hy hi sm
      have e2 : xs.drop i = dd :: xs.drop (i + 1) := by
        rw [List.drop_eq_getElem_cons hi]
        congr 1
        rw [List.getElem?_eq_getElem hi] at e1
        exact Option.some.inj e1
      rw [e2] at p
      exact loop_turn (X := X) (W := W) (c := c) (ss := ss) (go := fun ρ1 S1 => loopL t (evSs c ss) (xs.drop (i + 1)) ρ1 S1) hg hb sm2 (en.step st2) r (p.later st2) fun m' H'' σ' ρ' S' s1 s2 s3 p' => ⟨m', S', ρ', (st.trans st2).trans s1, s2, s3, w.step _ _ _ _ _ (w.step _ _ _ _ _ g st2) s1, p'⟩
    · have hi' : i = xs.length := by omega
      subst hi'
      rw [List.drop_length] at p
      exact .inl ⟨w.stop z m H g, p m H σ .refl sm en⟩
  | live k L0 =>
    obtain ⟨a, ha, rfl⟩ := w1
    refine ⟨fun i n σ H => i + n = L0 ∧ ∃ m S ρ, Step m1 H1 m H ∧ Sim (kt X z) m S H ∧ EnvR (kt X z) m H ρ σ ∧ PostS X z W m H (loopLive t (evSs c ss) k L0 n ρ S) N, ⟨L0, by simp, m1, S1, ρ, .refl, sm1, en.step st1, p1⟩, ?_⟩
    rintro i n σ H ⟨hn, m, S, ρ, st, sm, en, p⟩
    have ham := st.get ha
    cases n with
    | zero =>
      simp only [loopLive] at p
      cases e : S[k]? with
      | none => rw [e] at p; exact p.elim
      | some o =>
        rw [e] at p
        cases o with
        | lst ys =>
          simp only at p
          split at p
          · rename_i hl
            obtain ⟨us, h3, h4⟩ := sm.at_ k _ a e ham
            exact .inl ⟨⟨us, SqL.of h3, by rw [← h4.length]; omega⟩, p m H σ .refl sm en⟩
          · exact p.elim
        | _ => exact p.elim
    | succ n =>
      simp only [loopLive] at p
      cases e0 : itemAt S k L0 (L0 - (n + 1)) with
      | none => rw [e0] at p; exact p.elim
      | some dd =>
        rw [e0] at p
        have hii : L0 - (n + 1) = i := by omega
        rw [hii] at e0
        unfold itemAt at e0
        cases e : S[k]? with
        | none => rw [e] at e0; cases e0
        | some o =>
          rw [e] at e0
          cases o with
          | lst ys =>
            simp only at e0
            split at e0
            · rename_i hl
              obtain ⟨us, h3, h4⟩ := sm.at_ k _ a e ham
              obtain ⟨u, h5, h6⟩ := h4.get e0
              refine .inr ⟨⟨us, u, SqL.of h3, h5⟩, fun σ' H' => ∃ m S ρ, Step m1 H1 m H' ∧ Sim (kt X z) m S H' ∧ EnvR (kt X z) m H' ρ σ' ∧ PostS X z W m H' (loopLive t (evSs c ss) k L0 n ρ S) N, fun σ' H' h => ⟨n, by omega, by omega, h⟩, fun v H' hy => ?_⟩
              obtain ⟨rfl, hy⟩ := hy
              have hv := hy us (SqL.of h3)
              rw [h5] at hv; cases hv
              exact loop_turn (X := X) (W := W) (c := c) (ss := ss) (go := fun ρ1 S1 => loopLive t (evSs c ss) k L0 n ρ1 S1) hg hb sm en h6 p fun m' H'' σ' ρ' S' s1 s2 s3 p' => ⟨m', S', ρ', st.trans s1, s2, s3, p'⟩
            · cases e0
          | _ => cases e0
theorem st_while (hp : PassesOwn (model X.prog X.w) X.A X.env X.xe) (hq : STe X W q (evT c x)) (hb : SSs X W body (evSs c ss)) : SSt X W (.While q body [] pos) (evS c (.whil x ss)) := by
  intro z m ρ S σ H N s en p
  simp only [evS] at p
  refine semS_of (ps_while hp pt_sem pss_sem) ⟨fun n σ H => ∃ m S ρ, Sim (kt X z) m S H ∧ EnvR (kt X z) m H ρ σ ∧ PostS X z W m H (loopW (evT c x) (evSs c ss) n ρ S) N, ⟨c.fuel, m, S, ρ, s, en, p⟩, ?_⟩
  rintro n σ H ⟨m, S, ρ, sm, en, p⟩
  cases n with
  | zero => exact p.elim
  | succ n =>
    simp only [loopW] at p
    refine hq z m ρ S σ H _ sm en (p.ofRes en fun k S1 m1 H1 v st1 s1 r1 p1 => ?_)
    cases r1
    cases k with
    | false => exact iteF (p1 m1 H1 σ .refl s1 (en.step st1))
    | true =>
      refine iteT ⟨fun σ' H' => ∃ m S ρ, Sim (kt X z) m S H' ∧ EnvR (kt X z) m H' ρ σ' ∧ PostS X z W m H' (loopW (evT c x) (evSs c ss) n ρ S) N, fun σ' H' h => ⟨n, Nat.lt_succ_self n, h⟩, hb z m1 ρ S1 σ H1 _ s1 (en.step st1) ?_⟩
      simp only [if_true] at p1
      cases e : evSs c ss ρ S1 with
      | next ρ1 S2 => rw [e] at p1; exact fun m' H' σ' t1 t2 t3 => ⟨m', S2, ρ1, t2, t3, p1.later t1⟩
      | cont ρ1 S2 => rw [e] at p1; exact fun m' H' σ' t1 t2 t3 => ⟨m', S2, ρ1, t2, t3, p1.later t1⟩
      | _ => rw [e] at p1; exact p1
/-! ### stores -/
theorem st_app {apos : Pos} (ha : SE X W a (evE c x)) (hb : SE X W b (evE c y)) (hbase : attributeBase a "append" X.env (eval a X.env) = eval a X.env)
    (hfew : ((backTo pn (starEach [b] X.env)).all (fun x => !x.1) && (backToKw pn (keywordEach [] X.env)).all (fun x => x.1.isSome) && decide (([b] : List Expr).length + ([] : List Keyword).length + (if ([] : List Keyword).isEmpty then 0 else 1) < 30)) = true)
    (hline : (apos.endLine == pn.line) = true) (hs : starEach [b] X.env = (false, eval b X.env) :: starEach [] X.env) (hw : swapsWith (.Call (.Attribute a "append" apos) [b] [] pn) none pos.line X.env = pure false) :
    SSt X W (.Expr (.Call (.Attribute a "append" apos) [b] [] pn) pos) (evS c (.app x y)) := by
  intro z m ρ S σ H N s en p
  simp only [evS] at p
  refine semS_of (ps_expr (pe_bm PySem.F.plainAttrs_list PySem.F.slot_list_append PySem.F.type_list_append mt_append pe_sem (pa_cons pe_sem pa_nil hs) hbase hfew hline hs (by rfl)) hw) (ha z m ρ S σ H _ s en (p.ofRes en fun d S1 m1 H1 v st1 s1 r1 p1 => ?_))
  cases d with
  | ref n =>
    simp only [RE, Rp] at r1
    obtain ⟨l, h1, rfl⟩ := r1
    obtain ⟨us, h2⟩ := s1.trackedL (List.mem_of_getElem? h1)
    simp only [isRefD, if_true] at p1
    refine ⟨.inl ⟨rfl, us, SqL.of h2⟩, hb z m1 ρ S1 σ H1 _ s1 (en.step st1) (p1.ofRes (en.step st1) fun d2 S2 m2 H2 v2 st2 s2 r2 p2 => ?_)⟩
    simp only [appO] at p2
    have h1' := st2.get h1
    cases e : S2[n]? with
    | none => rw [e] at p2; exact p2.elim
    | some o =>
      rw [e] at p2
      cases o with
      | lst xs =>
        simp only at p2
        split at p2
        · rename_i hl
          split at hl
          · rename_i hz
            cases hl
            obtain ⟨vs, h3, h4⟩ := s2.at_ n _ l e h1'
            refine ⟨l, vs, v2, rfl, rfl, h3, by rw [← h4.length]; exact hz, ?_⟩
            have stw := Step.write (o := .lst (vs ++ [v2])) s2 h1'
            exact p2 m2 _ σ stw (s2.write h1' ⟨_, upd_same, (RpL.append h4 (RpL.one r2)).step stw⟩) (((en.step st1).step st2).step stw)
          · cases hl
        · exact p2.elim
      | _ => exact p2.elim
  | _ => exact p1.elim
theorem st_ext {apos : Pos} (ha : SE X W a (evE c x)) (hb : SE X W b (evE c y)) (hbase : attributeBase a "extend" X.env (eval a X.env) = eval a X.env)
    (hfew : ((backTo pn (starEach [b] X.env)).all (fun x => !x.1) && (backToKw pn (keywordEach [] X.env)).all (fun x => x.1.isSome) && decide (([b] : List Expr).length + ([] : List Keyword).length + (if ([] : List Keyword).isEmpty then 0 else 1) < 30)) = true)
    (hline : (apos.endLine == pn.line) = true) (hs : starEach [b] X.env = (false, eval b X.env) :: starEach [] X.env) (hw : swapsWith (.Call (.Attribute a "extend" apos) [b] [] pn) none pos.line X.env = pure false) :
    SSt X W (.Expr (.Call (.Attribute a "extend" apos) [b] [] pn) pos) (evS c (.ext x y)) := by
  intro z m ρ S σ H N s en p
  simp only [evS] at p
  refine semS_of (ps_expr (pe_bm PySem.F.plainAttrs_list PySem.F.slot_list_extend PySem.F.type_list_extend mt_extend pe_sem (pa_cons pe_sem pa_nil hs) hbase hfew hline hs (by rfl)) hw) (ha z m ρ S σ H _ s en (p.ofRes en fun d S1 m1 H1 v st1 s1 r1 p1 => ?_))
  cases d with
  | ref n =>
    simp only [RE, Rp] at r1
    obtain ⟨l, h1, rfl⟩ := r1
    obtain ⟨us, h2⟩ := s1.trackedL (List.mem_of_getElem? h1)
    simp only [isRefD, if_true] at p1
    refine ⟨.inl ⟨rfl, us, SqL.of h2⟩, hb z m1 ρ S1 σ H1 _ s1 (en.step st1) (p1.ofRes (en.step st1) fun d2 S2 m2 H2 v2 st2 s2 r2 p2 => ?_)⟩
    simp only [extO] at p2
    have h1' := st2.get h1
    split at p2
    · rename_i hl
      split at hl
      · rename_i xs ys e1 e2
        split at hl
        · rename_i hz
          cases hl
          obtain ⟨vs, h3, h4⟩ := s2.at_ n _ l e1 h1'
          obtain ⟨l2, us2, rfl, h5, h6⟩ := listOf_at s2 r2 e2
          refine ⟨l, l2, vs, us2, rfl, rfl, h3, h5, by rw [← h4.length, ← h6.length]; exact hz, ?_⟩
          have stw := Step.write (o := .lst (vs ++ us2)) s2 h1'
          exact p2 m2 _ σ stw (s2.write h1' ⟨_, upd_same, (RpL.append h4 h6).step stw⟩) (((en.step st1).step st2).step stw)
        · cases hl
      · cases hl
    · exact p2.elim
  | _ => exact p1.elim
theorem st_seti {kp : Pos} (ho : SE X W a (evE c x)) (hi : SE X W b (evE c y)) (hv : SE X W d (evE c w)) (ht : ∀ v, assign (.Subscript a b kp) X.env v = (do
      let ov ← holding [v] (eval a X.env)
      let iv ← holding [v, ov] (eval b X.env)
      standAt kp
      holding [v, ov, iv] (setItem ov iv v)
      release [v, ov, iv] [])) (hs : swapsWithSole [.Subscript a b kp] d pos.line X.env = pure false) (hw : swappedStores [.Subscript a b kp] d X.env = pure none) (h1 : (assignEach [.Subscript a b kp] X.env).map (·.2) = [assign (.Subscript a b kp) X.env]) :
    SSt X W (.Assign [.Subscript a b kp] d pos) (evS c (.seti x y w)) := by
  intro z m ρ S σ H N s en p
  simp only [evS] at p
  refine semS_of (ps_asg pe_sem (pg_sub pe_sem pe_sem set_list ht) hs hw h1) (hv z m ρ S σ H _ s en (p.ofRes en fun d1 S1 m1 H1 v1 st1 s1 r1 p1 => ?_))
  refine ho z m1 ρ S1 σ H1 _ s1 (en.step st1) (p1.ofRes (en.step st1) fun d2 S2 m2 H2 v2 st2 s2 r2 p2 => ?_)
  refine hi z m2 ρ S2 σ H2 _ s2 ((en.step st1).step st2) (p2.ofRes ((en.step st1).step st2) fun d3 S3 m3 H3 v3 st3 s3 r3 p3 => ?_)
  have r1' := Rp.step st3 (Rp.step st2 r1)
  have r2' := Rp.step st3 r2
  split at p3
  · rename_i S4 e
    unfold setO at e
    split at e
    · rename_i n k
      cases r3.int
      simp only [RE, Rp] at r2'
      obtain ⟨l, h1, rfl⟩ := r2'
      cases e1 : S3[n]? with
      | none => rw [e1] at e; cases e
      | some o =>
        rw [e1] at e
        cases o with
        | lst xs =>
          simp only at e
          split at e
          · rename_i j ej
            cases e
            obtain ⟨vs, h3, h4⟩ := s3.at_ n _ l e1 h1
            refine ⟨l, vs, k, j, rfl, rfl, h3, by rw [← h4.length]; exact ej, ?_⟩
            have stw := Step.write (o := .lst (vs.set j v1)) s3 h1
            exact p3 m3 _ σ stw (s3.write h1 ⟨_, upd_same, (RpL.set r1' j h4).step stw⟩) ((((en.step st1).step st2).step st3).step stw)
          · cases e
        | _ => cases e
    · cases e
  · exact p3.elim
theorem st_par2 {i j : Nat} {xn yn : Str} {px py pt : Pos} {kt' k2 : Nat} {pt2 : Pos} (hc : X.calm = true) (hN : X.N.Nodup) (hi : X.N[i]? = some xn) (hj : X.N[j]? = some yn) (hij : i ≠ j) (hx : X.env.scope.names.lookup xn = some .local) (hy : X.env.scope.names.lookup yn = some .local)
    {es : List E} (ha : SA X W [a, b] (evL c es)) (hw : swappedStores [.Tuple [.Name xn px, .Name yn py] kt' pt] (.Tuple [a, b] k2 pt2) X.env = pure (some [xn, yn])) :
    SSt X W (.Assign [.Tuple [.Name xn px, .Name yn py] kt' pt] (.Tuple [a, b] k2 pt2) pos) (evS c (.par [i, j] es)) := by
  intro z m ρ S σ H N s en p
  simp only [evS] at p
  refine semS_of (ps_par hc hN hi hj hij hx hy pa_sem hw (by rfl)) (ha z m ρ S σ H _ s en (p.ofRes en fun ds S1 m1 H1 vs st1 s1 r1 p1 => ?_))
  split at p1
  · rename_i ρ' e
    cases ds with
    | nil => simp [setAll] at e
    | cons d1 ds =>
      cases ds with
      | nil => simp [setAll] at e
      | cons d2 ds =>
        cases ds with
        | cons _ _ => simp [setAll] at e
        | nil =>
          simp only [setAll, Option.some.injEq] at e
          subst e
          simp only [RL, RpL] at r1
          obtain ⟨v1, _, rfl, h1, v2, _, rfl, h2, rfl⟩ := r1
          exact ⟨v1, v2, rfl, p1 m1 H1 _ .refl s1 (((en.step st1).set h1 i).set h2 j)⟩
  · exact p1.elim
theorem st_par3 {i j l : Nat} {xn yn zn : Str} {px py pz pt : Pos} {kt' k2 : Nat} {pt2 : Pos} (hc : X.calm = true) (hN : X.N.Nodup) (hi : X.N[i]? = some xn) (hj : X.N[j]? = some yn) (hl : X.N[l]? = some zn) (hij : i ≠ j) (hil : i ≠ l) (hjl : j ≠ l) (hx : X.env.scope.names.lookup xn = some .local) (hy : X.env.scope.names.lookup yn = some .local) (hz : X.env.scope.names.lookup zn = some .local)
    {es : List E} (ha : SA X W [a, b, d] (evL c es)) (hw : swappedStores [.Tuple [.Name xn px, .Name yn py, .Name zn pz] kt' pt] (.Tuple [a, b, d] k2 pt2) X.env = pure (some [xn, yn, zn])) :
    SSt X W (.Assign [.Tuple [.Name xn px, .Name yn py, .Name zn pz] kt' pt] (.Tuple [a, b, d] k2 pt2) pos) (evS c (.par [i, j, l] es)) := by
  intro z m ρ S σ H N s en p
  simp only [evS] at p
  refine semS_of (ps_par3 hc hN hi hj hl hij hil hjl hx hy hz pa_sem hw (by rfl)) (ha z m ρ S σ H _ s en (p.ofRes en fun ds S1 m1 H1 vs st1 s1 r1 p1 => ?_))
  split at p1
  · rename_i ρ' e
    cases ds with
    | nil => simp [setAll] at e
    | cons d1 ds =>
      cases ds with
      | nil => simp [setAll] at e
      | cons d2 ds =>
        cases ds with
        | nil => simp [setAll] at e
        | cons d3 ds =>
          cases ds with
          | cons _ _ => simp [setAll] at e
          | nil =>
            simp only [setAll, Option.some.injEq] at e
            subst e
            simp only [RL, RpL] at r1
            obtain ⟨v1, _, rfl, h1, v2, _, rfl, h2, v3, _, rfl, h3, rfl⟩ := r1
            exact ⟨v1, v2, v3, rfl, p1 m1 H1 _ .refl s1 ((((en.step st1).set h1 i).set h2 j).set h3 l)⟩
  · exact p1.elim
end
end DL
set_option Elab.async false
set_option linter.all false
set_option maxRecDepth 100000
set_option maxHeartbeats 1000000
/-! DLg: a def's word where no repr is under way -/
namespace DL
open PySem PySem.Spec PyProof.Rows L2
/-- the def at f has this code -/
def CodeAt (K : PySem.W.Frag) (f : Addr) (cdv : Value) : Prop := ∃ (oc : Value) (od : Option Addr) (fd : FuncData) (osl : Array (Option Value)), K.lookup f = some ⟨oc, od, .func fd, osl⟩ ∧ fd.code = cdv ∧ ∃ q, PySem.W.codeIn K cdv q = true
structure FnG (P : Program) (w : World) (K : PySem.W.Frag) (mg : Str → Option Value) (base : Heap) (k : Nat) (f : Addr) (ps : List Str) (sp : Sp) : Prop where
  len : ∀ vs H Q E, sp vs H Q E → vs.length = ps.length
  run : ∀ (A : Around) (outer : List PySem.Env) (s : Shared) (H : Hp) (us : List Value) (vs : List V) (Q : VK) (E : XK), Room k A → A.guards = some [] → Env0 P w K mg base A outer s H → Vals vs us → sp vs H Q E →
    codeAny (model P w) A (.call (.ref f) ⟨us, []⟩) (CR (L2.CX P w) outer P w H s Q E) s
section
variable {P : Program} {w : World} {K : PySem.W.Frag} {mg : Str → Option Value} {base : Heap} {k : Nat} {f : Addr} {ps : List Str} {sp sp' : Sp}
theorem FnG.imp (F : FnG P w K mg base k f ps sp) (h : ∀ vs H Q E, sp' vs H Q E → sp vs H Q E) : FnG P w K mg base k f ps sp' where
  len := fun vs H Q E q => F.len vs H Q E (h _ _ _ _ q)
  run := fun A outer s H us vs Q E hr hg he hv q => F.run A outer s H us vs Q E hr hg he hv (h _ _ _ _ q)
/-- by its body -/
theorem fnG_of {x qual : Str} {st : Stmt} {fd : FuncData} {N : List Str} (F : Fun K x qual st f fd) (S : FnScope N ps (defScope st)) (len : ∀ vs H Q E, sp vs H Q E → vs.length = ps.length) (hbind : ∀ us : List Value, us.length = ps.length → bindArgs fd ⟨us, []⟩ = pure (ps.zip us))
    (hbody : ∀ (cdv : Value) (A : Around) (outer : List PySem.Env) (s : Shared) (H : Hp) (vs : List V) (Q : VK) (E : XK), CodeAt K f cdv → Room k (A.deeper (envOfC qual (defScope st) s.heap.objs.size f cdv)) → A.guards = some [] → sp vs H Q E →
      semSs (cxOf (L2.CX P w) P w K mg base N qual (defScope st) f cdv A outer s H E) (defBody st) { nx := fun _ H' => Q .non H', rt := Q } (start N vs) H) : FnG P w K mg base (k + 1) f ps sp := by
  constructor
  · exact len
  · intro A outer s H us vs Q E hr hg e0 r hsp
    obtain ⟨oc, od, kV, doc, pm, an, cdv, ct, osl, rfl, lk, hcd⟩ := F.ex
    have hvl := len _ _ _ _ hsp
    have hul : us.length = ps.length := r.length.symm.trans hvl
    have kb : ∀ b o, base.get? b = some o → s.heap.get? b = some o := fun b o e => (e0.bs b o e).1
    refine Att.call_fn (e0.mod.kin.keeps kb) (e0.mod.nolimit.keeps kb) lk hcd hr.depth (.of_eq (hbind us hul)) ?_ (fun s1 inc => ?_) S.co S.gen S.kind
    · rw [List.all_eq_true]
      rintro ⟨y, v⟩ hy
      rcases S.par y (List.of_mem_zip hy).1 with e | e <;> simp [e]
    · have J := inv_start (CX := L2.CX P w) (E := E) (cd := cdv) S hr.hd e0 hvl r inc
      refine wpAny_mono (hbody cdv A outer s H vs Q E ⟨_, _, _, _, lk, rfl, qual, hcd⟩ (hr.deeper _) hg hsp [] s1 J) (fun fl s2 h2 => ?_) (fun _ _ h => h)
      cases fl with
      | next => obtain ⟨_, H2, J2, q⟩ := h2; exact ⟨.non, H2, J2.os, J2.bare, J2.base, J2.hok, rfl, q⟩
      | ret u => obtain ⟨v, _, H2, J2, rv, q⟩ := h2; exact ⟨v, H2, J2.os, J2.bare, J2.base, J2.hok, rv, q⟩
      | brk => obtain ⟨_, _, _, q⟩ := h2; cases q
      | cont => obtain ⟨_, _, _, q⟩ := h2; cases q
/-- the law's def is called behind the top -/
theorem headG {mb : Str → Option Value} {s1 : Shared} {a : Addr} {vs : List Value} {ns : List Int} (KX : K.In s1.heap) (hns : s1.heap.Ns mainGlobals mg) (hb : s1.heap.Ns builtinsNs mb) (hbb : ∀ x : Str, x ≠ "__name__" → mb x = bootBuiltins x) (hlim : s1.heap.NoLimit) (hgens : s1.gens = #[])
    (ha : s1.heap.get? a = some { cls := .type "list", data := .seq vs.toArray }) (hi : IntsAre vs ns) (hl : ns.length ≤ sizeLine) (hr : Room k callerA) (F : ∀ base : Heap, K.In base → base.Ns mainGlobals mg → FnG P w K mg base k f ps sp)
    (hsp : ∀ H : Hp, FzL K H a (ns.map V.int) → sp [.ref a] H (fun v _ => v = .bl true) fun _ _ _ => False) :
    codeAny (model P w) callerA (.call (.ref f) ⟨[.ref a], []⟩) (fun r s' => r = .ok (.ret (.bool true)) ∧ OldK s1.heap s'.heap ∧ s'.os = s1.os ∧ AllBare s'.gens) s1 := by
  have rv := vals_ints hi
  -- the walk, once the ground and what is told of the script are given
  have go : ∀ (b0 : Heap) (H : Hp), K.In b0 → b0.Ns mainGlobals mg → (∃ m, b0.Ns builtinsNs m ∧ ∀ x : Str, x ≠ "__name__" → m x = bootBuiltins x) → b0.NoLimit → (∀ b o, b0.get? b = some o → s1.heap.get? b = some o ∧ H b = none) → b0.objs.size ≤ s1.heap.objs.size → HOk P w H s1.heap →
      (∀ b u, H b = some u → ∃ o y, u = .frz o y) → FzL K H a (ns.map V.int) → codeAny (model P w) callerA (.call (.ref f) ⟨[.ref a], []⟩) (fun r s' => r = .ok (.ret (.bool true)) ∧ OldK s1.heap s'.heap ∧ s'.os = s1.os ∧ AllBare s'.gens) s1 := by
    intro b0 H k1 k2 k3 k4 k5 k6 k7 k8 k9
    have e0 : Env0 P w K mg b0 callerA [] s1 H := ⟨rfl, ⟨k1, k2, k3, k4⟩, k5, k6, trivial, fun b hb => absurd hb List.not_mem_nil, k7, AllBare.of_eq hgens⟩
    refine codeAny_mono ((F b0 k1 k2).run callerA [] s1 H [.ref a] [.ref a] _ _ hr rfl e0 (.cons rfl .nil) (hsp H k9)) fun r s2 h2 => ?_
    match r, h2 with
    | .error e, h2 =>
      obtain ⟨_, _, _, _, _, _, _, _, _, _, _, _, q⟩ := h2
      exact q.elim
    | .ok (.ret u), h2 =>
      obtain ⟨v, H2, t1, t2, t3, t4, t5, t6⟩ := h2
      have t6' : v = .bl true := t6
      subst t6'
      have t5' : u = Value.bool true := t5
      subst t5'
      refine ⟨rfl, OldK.of_keep fun b o e => ?_, t1, t2⟩
      match hq : H b with
      | none => exact t3.keep b o e hq (fun z => by cases z) (fun z => by cases z)
      | some u =>
        obtain ⟨o2, y, rfl⟩ := k8 b u hq
        have z1 := (k7 b _ hq).1
        have z2 := (t4 b _ (t3.frzs b o2 _ hq)).1
        rw [e] at z1
        cases z1
        exact z2
    | .ok .next, h2 => exact h2.elim
    | .ok .brk, h2 => exact h2.elim
    | .ok .cont, h2 => exact h2.elim
  cases hk : K.lookup a with
  | some o =>
    have e1 := KX a o hk
    rw [ha] at e1
    cases e1
    refine go s1.heap (fun _ => none) KX hns ⟨mb, hb, hbb⟩ hlim (fun b o e => ⟨e, rfl⟩) (Nat.le_refl _) (fun b u z => by simp at z) (fun b u z => by simp at z) (.inr ⟨_, vs.toArray, _, hk, rfl, rfl, rfl, ?_, by simpa using rv⟩)
    rw [List.size_toArray, hi.length]
    exact hl
  | none =>
    obtain ⟨H, eH⟩ : ∃ H : Hp, H = fun b => if b = a then some (.frz { cls := .type "list", data := .seq vs.toArray } (.lst (ns.map V.int))) else none := ⟨_, rfl⟩
    have Ha : H a = some (.frz { cls := .type "list", data := .seq vs.toArray } (.lst (ns.map V.int))) := by rw [eH]; exact if_pos rfl
    have Hn : ∀ {b}, b ≠ a → H b = none := fun {b} hne => by rw [eH]; exact if_neg hne
    have Hs : ∀ {b u}, H b = some u → b = a := fun {b u} e => Classical.byContradiction fun hne => by rw [Hn hne] at e; cases e
    have nsT : ∀ {b m}, s1.heap.Ns b m → (hidT s1.heap H).Ns b m := fun {b m} ⟨o, es, ep, e, d, r⟩ => by
      refine ⟨o, es, ep, hidT_get e (Hn fun z => ?_), d, r⟩
      subst z
      rw [ha] at e
      cases e
      cases d
    refine go (hidT s1.heap H) H (fun b o e => hidT_get (KX b o e) (Hn fun z => ?_)) (nsT hns) ⟨mb, nsT hb, hbb⟩ (let ⟨m, h1, h2⟩ := hlim; ⟨m, nsT h1, h2⟩) (fun b o e => of_hidT e) (Nat.le_of_eq (hidT_size _ _)) (fun b u z => ?_) (fun b u z => ?_) (.inl ⟨_, Ha⟩)
    · subst z
      rw [hk] at e
      cases e
    · have e := Hs z
      subst e
      rw [Ha] at z
      cases z
      exact ⟨ha, by rw [List.length_map]; exact hl, vs, _, rv, ha⟩
    · have e := Hs z
      subst e
      rw [Ha] at z
      cases z
      exact ⟨_, _, rfl⟩
end
section
variable {X : Cx} {W : WX} {k : Nat} {f : Addr} {ps : List Str} {sp : Sp}
/-- such a def is called -/
theorem runG {pins : List (Addr × Obj)} {σ : L2.St} {H : Hp} {s : Shared} {Q : VK} {us : List Value} {vs : List V} (F : FnG X.prog X.w X.K X.mg X.base k f ps sp) (hr : Room k X.A) (hg : X.A.guards = some []) (tk : Takes X W) (I : Inv X pins σ H s) (r : Vals vs us) (h : sp vs H Q (WE W σ)) :
    wpAny (model X.prog X.w) X.A (call (.ref f) us) (EP X pins σ Q) X.xe s := by
  refine wpAny_call (codeAny_mono (F.run _ X.stack _ H us vs Q _ hr hg I.env0 r h) fun x s2 h2 => ?_)
  match x, h2 with
  | .error e, h2 => exact passAt tk σ pins H s e s2 I h2
  | .ok (.ret u), h2 => exact I.after h2
  | .ok .next, h2 => exact h2.elim
  | .ok .brk, h2 => exact h2.elim
  | .ok .cont, h2 => exact h2.elim
end
end DL
set_option Elab.async false
set_option linter.all false
set_option maxRecDepth 100000
set_option maxHeartbeats 1000000
/-! DL12: calls of the program's own defs -/
namespace DL
open PySem PySem.Spec PyProof.Rows L2
section
variable {k : Kt} {m : List Addr} {H : Hp}
mutual
/-- what has only lower refs is the same by other places of the store -/
theorem Rp.shrinkTo {n : Nat} {m2 : List Addr} (hs : ∀ p ∈ m2, p ∈ m) (hg : ∀ i, i < n → m2[i]? = m[i]?) : ∀ {d : D} {v : V}, d.low n = true → Rp k m H d v → Rp k m2 H d v
  | .non, _, _, h => by simpa only [Rp] using h
  | .bl _, _, _, h => by simpa only [Rp] using h
  | .int _, _, _, h => by simpa only [Rp] using h
  | .str _, _, _, h => by simpa only [Rp] using h
  | .tup xs, _, hl, h => by
    simp only [Rp] at h ⊢
    obtain ⟨p, vs, rfl, h1, h2⟩ := h
    exact ⟨p, vs, rfl, h1, RpL.shrinkTo hs hg (by simpa only [D.low] using hl) h2⟩
  | .lst xs, _, hl, h => by
    simp only [Rp] at h ⊢
    obtain ⟨p, vs, rfl, h1, h2, h3⟩ := h
    exact ⟨p, vs, rfl, h1, ⟨fun e => h2.1 (hs p e), h2.2⟩, RpL.shrinkTo hs hg (by simpa only [D.low] using hl) h3⟩
  | .ref i, _, hl, h => by
    simp only [Rp] at h ⊢
    obtain ⟨p, h1, rfl⟩ := h
    simp only [D.low, decide_eq_true_eq] at hl
    exact ⟨p, by rw [hg i hl]; exact h1, rfl⟩
  | .set xs, _, hl, h => by
    simp only [Rp] at h ⊢
    obtain ⟨p, rfl, h2, h3⟩ := h
    have h2' : p ∉ m2 ∧ p ∉ k.hid := ⟨fun e => h2.1 (hs p e), h2.2⟩
    rcases h3 with ⟨L, L2, h4, h5, h6, h7⟩ | h3
    · exact ⟨p, rfl, h2', .inl ⟨L, L2, RpL.shrinkTo hs hg (by simpa only [D.low] using hl) h4, h5, h6, h7⟩⟩
    · exact ⟨p, rfl, h2', .inr h3⟩
  | .dic _ _, _, _, h => by simp only [Rp] at h
  | .fn _ _, _, _, h => by simpa only [Rp] using h
  | .err x d, _, hl, h => by
    simp only [Rp] at h ⊢
    obtain ⟨a, dx, fs, u, rfl, h1, h2, h3, h4, h5, h6⟩ := h
    simp only [D.low] at hl
    exact ⟨a, dx, fs, u, rfl, ⟨fun e => h1.1 (hs _ e), h1.2⟩, ⟨fun e => h2.1 (hs _ e), h2.2⟩, h3, h4, h5, Rp.shrinkTo hs hg hl h6⟩
  | .scr _, _, _, h => by simpa only [Rp] using h
theorem RpL.shrinkTo {n : Nat} {m2 : List Addr} (hs : ∀ p ∈ m2, p ∈ m) (hg : ∀ i, i < n → m2[i]? = m[i]?) : ∀ {ds : List D} {vs : List V}, lowL n ds = true → RpL k m H ds vs → RpL k m2 H ds vs
  | [], _, _, h => by simpa only [RpL] using h
  | d :: ds, _, hl, h => by
    simp only [RpL] at h ⊢
    simp only [lowL, Bool.and_eq_true] at hl
    obtain ⟨v, r, rfl, h1, h2⟩ := h
    exact ⟨v, r, rfl, Rp.shrinkTo hs hg hl.1 h1, RpL.shrinkTo hs hg hl.2 h2⟩
end
theorem Rp.shrink {n : Nat} {d : D} {v : V} (hl : d.low n = true) (h : Rp k m H d v) : Rp k (m.take n) H d v := h.shrinkTo (fun _ hp => List.mem_of_mem_take hp) (fun i hi => List.getElem?_take_of_lt hi) hl
theorem RpL.shrink {n : Nat} {d : List D} {v : List V} (hl : lowL n d = true) (h : RpL k m H d v) : RpL k (m.take n) H d v := h.shrinkTo (fun _ hp => List.mem_of_mem_take hp) (fun i hi => List.getElem?_take_of_lt hi) hl
theorem Sim.shrink {S : Sto} {n : Nat} (s : Sim k m S H) (hl : stoLow n (S.take n) = true) : Sim k (m.take n) (S.take n) H where
  len := by simp [s.len]
  nd := s.nd.sublist (List.take_sublist _ _)
  at_ := fun i o p h1 h2 => by
    have hi : i < n := by
      have := (List.getElem?_eq_some_iff.mp h1).1
      rw [List.length_take] at this; omega
    have hm := List.mem_of_getElem? h1
    rw [List.getElem?_take_of_lt hi] at h1 h2
    have h := s.at_ i o p h1 h2
    have hlo : o.low n = true := by
      simp only [stoLow, List.all_eq_true] at hl
      exact hl o hm
    cases o with
    | lst xs => obtain ⟨vs, e, r⟩ := h; exact ⟨vs, e, r.shrink hlo⟩
    | _ => exact h.elim
  hid := fun p hp => ⟨fun e => (s.hid p hp).1 (List.mem_of_mem_take e), (s.hid p hp).2⟩
  tabs := s.tabs
theorem Step.shrink {m' : List Addr} {H' : Hp} (st : Step m H m' H') : m'.take m.length = m ∧ Step m H m H' := by
  obtain ⟨e, rfl⟩ := st.pre
  exact ⟨by simp, ⟨⟨[], by simp⟩, fun _ h h' => absurd h h', st.keep, st.tups, st.frzs⟩⟩
/-- lists of the store that are let go, written out -/
theorem frz_ok {S : Sto} {n : Nat} (s : Sim k m S H) : ∀ (f : Nat) {d d' : D} {v : V}, frz S n f d = some d' → Rp k m H d v → Rp k (m.take n) H d' v := by
  intro f
  induction f with
  | zero => intro d d' v h; simp [frz] at h
  | succ f ih =>
    have all : ∀ {xs ys : List D} {vs : List V}, xs.mapM (frz S n f) = some ys → RpL k m H xs vs → RpL k (m.take n) H ys vs := by
      intro xs
      induction xs with
      | nil => intro ys vs h r; simp at h; subst h; simpa only [RpL] using r
      | cons x xs ihx =>
        intro ys vs h r
        rw [List.mapM_cons] at h
        cases e : frz S n f x with
        | none => rw [e] at h; cases h
        | some y =>
          rw [e] at h
          cases e2 : xs.mapM (frz S n f) with
          | none => rw [e2] at h; cases h
          | some zs =>
            rw [e2] at h
            cases h
            simp only [RpL] at r ⊢
            obtain ⟨v, r', rfl, r1, r2⟩ := r
            exact ⟨v, r', rfl, ih e r1, ihx e2 r2⟩
    intro d d' v h r
    have low : (if d.low n then some d else none) = some d' → Rp k (m.take n) H d' v := fun h => by
      split at h
      · rename_i hl; cases h; exact r.shrink hl
      · cases h
    cases d with
    | ref i =>
      simp only [frz] at h
      split at h
      · rename_i hi; cases h; exact r.shrink (by simp only [D.low, decide_eq_true_eq]; exact hi)
      · rename_i hi
        split at h
        · rename_i xs e
          cases e2 : xs.mapM (frz S n f) with
          | none => rw [e2] at h; cases h
          | some ys =>
            rw [e2] at h
            cases h
            simp only [Rp] at r
            obtain ⟨p, h1, rfl⟩ := r
            obtain ⟨vs, h2, h3⟩ := s.at_ i _ p e h1
            simp only [Rp]
            refine ⟨p, vs, rfl, h2, ⟨fun hp => ?_, fun hp => (s.hid p hp).1 (List.mem_of_getElem? h1)⟩, all e2 h3⟩
            obtain ⟨j, hj, e3⟩ := List.mem_iff_getElem.mp hp
            have hj' : j < n := by rw [List.length_take] at hj; omega
            rw [List.getElem_take] at e3
            have hj2 : j < m.length := by rw [List.length_take] at hj; omega
            have := nd_ix s.nd h1 (show m[j]? = some p by rw [List.getElem?_eq_getElem hj2, e3])
            omega
        · cases h
    | tup xs =>
      simp only [frz] at h
      cases e2 : xs.mapM (frz S n f) with
      | none => rw [e2] at h; cases h
      | some ys =>
        rw [e2] at h
        cases h
        simp only [Rp] at r ⊢
        obtain ⟨p, vs, rfl, h1, h2⟩ := r
        exact ⟨p, vs, rfl, h1, all e2 h2⟩
    | lst xs =>
      simp only [frz] at h
      split at h
      · rename_i hl; cases h; exact r.shrink (by simpa only [D.low] using hl)
      · cases h
    | non => exact low h
    | bl b => exact low h
    | int b => exact low h
    | str b => exact low h
    | dic _ _ => exact low h
    | set _ => exact low h
    | fn _ _ => exact low h
    | scr _ => exact low h
    | err _ _ => exact low h
end
section
variable {X : Cx} {W : WX} {z m : List Addr} {σ : L2.St} {H : Hp} {S : Sto} {Q : VK}
theorem ExR.shrink {m' : List Addr} {H' : Hp} {x : Str} {d : D} {cls : Value} {dx : Option Addr} {n : Nat} (h : ExR X z m' H' x d cls dx) (hl : d.low n = true) : ExR X z (m'.take n) H' x d cls dx := by
  obtain ⟨C, a, v, fs, h1, h2, h3, h4, h5, h6⟩ := h
  exact ⟨C, a, v, fs, h1, h2, h3, h4, h5, h6.shrink hl⟩
theorem post_leave {r : Res D} (s : Sim (kt X z) m S H) (p : PostE X z W σ m H (leave S.length r) Q) : PostE X z W σ m H r Q := by
  cases r with
  | bad => exact p
  | exc x d S' =>
    simp only [leave] at p
    split at p
    · rename_i h
      simp only [Bool.and_eq_true] at h
      intro m' H' cls dx st sm ex
      obtain ⟨e1, st2⟩ := st.shrink
      rw [s.len] at e1
      have sm2 := sm.shrink h.1
      have ex2 := ex.shrink h.2
      rw [e1] at sm2 ex2
      exact p m H' cls dx st2 sm2 ex2
    · exact p
  | ok d S' =>
    simp only [leave] at p
    split at p
    · rename_i h
      intro m' H' v st sm rd
      obtain ⟨e1, st2⟩ := st.shrink
      rw [s.len] at e1
      have sm2 := sm.shrink h
      split at p
      · rename_i hd
        have rd2 : Rp (kt X z) _ H' d v := Rp.shrink hd rd
        rw [e1] at sm2 rd2
        exact p m H' v st2 sm2 rd2
      · split at p
        · rename_i d' e
          have rd2 := frz_ok sm 50 e rd
          rw [e1] at sm2 rd2
          exact p m H' v st2 sm2 rd2
        · exact p.elim
    · exact p
theorem post_leaveM {r : Res D} (s : Sim (kt X z) m S H) (p : PostE X z W σ m H (leaveM S.length r) Q) : PostE X z W σ m H r Q := by
  cases r with
  | bad => exact p
  | exc x d S' =>
    simp only [leaveM] at p
    split at p
    · rename_i h
      simp only [Bool.and_eq_true] at h
      intro m' H' cls dx st sm ex
      obtain ⟨e1, st2⟩ := st.shrink
      rw [s.len] at e1
      have sm2 := sm.shrink h.1
      have ex2 := ex.shrink h.2
      rw [e1] at sm2 ex2
      exact p m H' cls dx st2 sm2 ex2
    · exact p
  | ok d S' =>
    cases d with
    | ref i =>
      simp only [leaveM] at p
      split at p
      · exact p.elim
      · rename_i hi
        split at p
        · rename_i xs e
          split at p
          · rename_i h
            simp only [Bool.and_eq_true] at h
            intro m' H' v st sm rd
            obtain ⟨e1, st2⟩ := st.shrink
            rw [s.len] at e1
            have sm2 := sm.shrink h.1
            simp only [RE, Rp] at rd
            obtain ⟨q, h1, rfl⟩ := rd
            obtain ⟨vs, h2, h3⟩ := sm.at_ i _ q e h1
            rw [e1] at sm2
            have hqm : q ∉ m := fun hq => by
              obtain ⟨j, hj, e3⟩ := List.mem_iff_getElem.mp hq
              have h5 : m'[j]? = some q := by
                have := st.get (n := j) (p := q) (by rw [List.getElem?_eq_getElem hj, e3])
                exact this
              have := nd_ix sm.nd h1 h5
              have := s.len
              omega
            have hq0 : Fre H q := st.new q (List.mem_of_getElem? h1) hqm
            refine p (m ++ [q]) H' _ (st2.adoptNew hq0) ?_ ?_
            · refine ⟨by simp [sm2.len], ?_, fun n o a e2 e3 => ?_, fun a ha => ?_, sm2.tabs⟩
              · rw [List.nodup_append]
                exact ⟨sm2.nd, by simp, fun a ha b hb => by rw [List.mem_singleton.mp hb]; intro e; rw [e] at ha; exact hqm ha⟩
              · have hs2 : ∀ p ∈ m ++ [q], p ∈ m' := fun p hp => by
                  rcases List.mem_append.mp hp with hp | hp
                  · exact st.mem hp
                  · rw [List.mem_singleton.mp hp]; exact List.mem_of_getElem? h1
                have hg2 : ∀ i, i < S.length → (m ++ [q])[i]? = m'[i]? := fun i hi => by
                  rw [← s.len] at hi
                  rw [List.getElem?_append_left hi, List.getElem?_eq_getElem hi]
                  exact (st.get (List.getElem?_eq_getElem hi)).symm
                by_cases hn : n < m.length
                · rw [List.getElem?_append_left hn] at e3
                  have hn2 : n < S.length := by rw [← s.len]; exact hn
                  have hn3 : n < (S'.take S.length).length := by rw [← sm2.len]; exact hn
                  rw [List.getElem?_append_left hn3] at e2
                  have hlo : o.low S.length = true := by
                    have := h.1
                    simp only [stoLow, List.all_eq_true] at this
                    exact this o (List.mem_of_getElem? e2)
                  rw [List.getElem?_take_of_lt hn2] at e2
                  have h9 := sm.at_ n o a e2 (st.get e3)
                  cases o with
                  | lst ys => obtain ⟨us, e5, r5⟩ := h9; exact ⟨us, e5, r5.shrinkTo hs2 hg2 hlo⟩
                  | _ => exact h9.elim
                · have hl := (List.getElem?_eq_some_iff.mp e3).1
                  rw [List.length_append, List.length_singleton] at hl
                  have hn' : n = m.length := by omega
                  subst hn'
                  have e3' : a = q := by
                    rw [List.getElem?_append_right (Nat.le_refl _)] at e3
                    simpa using e3.symm
                  subst e3'
                  rw [sm2.len, List.getElem?_append_right (Nat.le_refl _)] at e2
                  simp at e2
                  subst e2
                  exact ⟨vs, h2, h3.shrinkTo hs2 hg2 h.2⟩
              · obtain ⟨h7, h8⟩ := sm2.hid a ha
                refine ⟨fun h => ?_, h8⟩
                rcases List.mem_append.mp h with h | h
                · exact h7 h
                · rw [List.mem_singleton.mp h] at ha; exact (sm.hid q ha).1 (List.mem_of_getElem? h1)
            · simp only [RE, Rp]
              exact ⟨q, by rw [← s.len]; simp, rfl⟩
          · exact p.elim
        · exact p.elim
    | _ => exact p.elim
end
/-- what a def does when it is called: what the own evaluator says -/
def spF (P : Program) (w : World) (K : PySem.W.Frag) (mg : Str → Option Value) (Pg : Prg) (n : Nat) (x : Str) : Sp := fun vs H Q E => ∃ (z m : List Addr) (S : Sto) (ds : List D), Sim ⟨P, w, K, z⟩ m S H ∧ RpL ⟨P, w, K, z⟩ m H ds vs ∧
  match callF Pg n x ds S with
  | .ok d S' => ∀ m' H' v, Step m H m' H' → Sim ⟨P, w, K, z⟩ m' S' H' → Rp ⟨P, w, K, z⟩ m' H' d v → Q v H'
  | .exc c d S' => ∀ m' H' cls dx, Step m H m' H' → Sim ⟨P, w, K, z⟩ m' S' H' → ExRk mg ⟨P, w, K, z⟩ m' H' c d cls dx → E cls dx H'
  | .bad => False
section
variable {X : Cx} {W : WX} {a : Expr} {es : List Expr} {xs : List E} {pos pn : Pos} {Pg : Prg} {n : Nat} {x : Str} {f : Addr} {fd : FuncData} {ps : List Str}
theorem spF_of {z m : List Addr} {S : Sto} {σ : L2.St} {H : Hp} {ds : List D} {vs : List V} {Q : VK} (s : Sim (kt X z) m S H) (r : RpL (kt X z) m H ds vs) (p : PostE X z W σ m H (callF Pg n x ds S) Q) : spF X.prog X.w X.K X.mg Pg n x vs H Q (WE W σ) := by
  refine ⟨z, m, S, ds, s, r, ?_⟩
  cases e : callF Pg n x ds S with
  | ok d S' => rw [e] at p; exact p
  | exc c d S' => rw [e] at p; exact p
  | bad => rw [e] at p; exact p
theorem s_callR {k : Nat} {fs : Addr} {ps : List Str} (F : FnG X.prog X.w X.K X.mg X.base k fs ps (spF X.prog X.w X.K X.mg Pg n x)) (hr : Room k X.A) (hgd : X.A.guards = some []) (hg : Gl X x) (hm : X.mg x = some (.ref fs)) (hk : PySem.W.keepIn X.K (.ref fs) = true) (tk : Takes X W)
    (ha : SA X W (a :: es) (evL (cfgAt Pg n) xs)) (hdb : (x == ("__debug__" : Str)) = false) (he : starEach (a :: es) X.env = (false, eval a X.env) :: starEach es X.env) (hpl : (backTo pos (starEach es X.env)).any (·.1) = false)
    (gl : Sto → Res D → Res D) (hgl : ∀ {z m : List Addr} {σ : L2.St} {H : Hp} {S : Sto} {Q : VK} {r : Res D}, Sim (kt X z) m S H → PostE X z W σ m H (gl S r) Q → PostE X z W σ m H r Q) {f : Env → Sto → Res D} (hf : ∀ ρ S, f ρ S = (evL (cfgAt Pg n) xs ρ S).bind fun ds S1 => gl S1 (callF Pg n x ds S1)) :
    SE X W (.Call (.Name x pn) (a :: es) [] pos) f := by
  intro z m ρ S σ H Q s en p pins s0 I
  rw [hf] at p
  have hA : semA X (a :: es) σ H (fun vs H1 => spF X.prog X.w X.K X.mg Pg n x vs H1 Q (WE W σ)) := ha z m ρ S σ H _ s en (p.bind fun ds S1 m1 H1 vs st1 s1 r1 p1 => spF_of s1 r1 (hgl s1 p1))
  refine wpAny_Call_Name_kw (ld_glob I hg hm ?_ hdb)
  exact PySem.W.callWith_K (h₀ := X.base) I.ok.mod.kin hk (thn (hA pos pins s0 I) fun us s1 ⟨vs, H1, I1, r, q⟩ => ⟨I1.kIn, runG F hr hgd tk I1 r q⟩) he hpl
theorem s_call {k : Nat} {fs : Addr} {ps : List Str} (F : FnG X.prog X.w X.K X.mg X.base k fs ps (spF X.prog X.w X.K X.mg Pg n x)) (hr : Room k X.A) (hgd : X.A.guards = some []) (hg : Gl X x) (hm : X.mg x = some (.ref fs)) (hk : PySem.W.keepIn X.K (.ref fs) = true) (tk : Takes X W)
    (ha : SA X W (a :: es) (evL (cfgAt Pg n) xs)) (hdb : (x == ("__debug__" : Str)) = false) (he : starEach (a :: es) X.env = (false, eval a X.env) :: starEach es X.env) (hpl : (backTo pos (starEach es X.env)).any (·.1) = false) :
    SE X W (.Call (.Name x pn) (a :: es) [] pos) (evE (cfgAt Pg n) (.call x xs)) :=
  s_callR F hr hgd hg hm hk tk ha hdb he hpl (fun S r => leave S.length r) (fun s p => post_leave s p) fun ρ S => by simp only [evE, cfg_call]
theorem s_callM {k : Nat} {fs : Addr} {ps : List Str} (F : FnG X.prog X.w X.K X.mg X.base k fs ps (spF X.prog X.w X.K X.mg Pg n x)) (hr : Room k X.A) (hgd : X.A.guards = some []) (hg : Gl X x) (hm : X.mg x = some (.ref fs)) (hk : PySem.W.keepIn X.K (.ref fs) = true) (tk : Takes X W)
    (ha : SA X W (a :: es) (evL (cfgAt Pg n) xs)) (hdb : (x == ("__debug__" : Str)) = false) (he : starEach (a :: es) X.env = (false, eval a X.env) :: starEach es X.env) (hpl : (backTo pos (starEach es X.env)).any (·.1) = false) :
    SE X W (.Call (.Name x pn) (a :: es) [] pos) (evE (cfgAt Pg n) (.callM x xs)) :=
  s_callR F hr hgd hg hm hk tk ha hdb he hpl (fun S r => leaveM S.length r) (fun s p => post_leaveM s p) fun ρ S => by simp only [evE, cfg_callM]
end
/-- the body of a def, as the machine runs it and as the own evaluator does -/
def BodyOk (P : Program) (w : World) (K : PySem.W.Frag) (mg : Str → Option Value) (base : Heap) (Pg : Prg) (n : Nat) (N : List Str) (qual : Str) (st : Stmt) (a : Addr) (body : List Stm) : Prop :=
  ∀ (cdv : Value) (A : Around) (outer : List PySem.Env) (s : Shared) (H : Hp) (E : XK), CodeAt K a cdv → Room (n + 2) (A.deeper (envOfC qual (defScope st) s.heap.objs.size a cdv)) → A.guards = some [] →
    SSs (cxOf (L2.CX P w) P w K mg base N qual (defScope st) a cdv A outer s H E) (fun cls d _ H => E cls d H) (defBody st) (evSs (cfgAt Pg n) body)
/-- a def keeps its word, if those that it calls do -/
theorem fn_ok {P : Program} {w : World} {K : PySem.W.Frag} {mg : Str → Option Value} {base : Heap} {Pg : Prg} {n : Nat} {N ps : List Str} {x qual : Str} {st : Stmt} {a : Addr} {fd : FuncData} {f : Fn} (F : Fun K x qual st a fd) (S : FnScope N ps (defScope st))
    (hbind : ∀ us : List Value, us.length = ps.length → bindArgs fd ⟨us, []⟩ = pure (ps.zip us)) (hf : Pg.fns.find? (fun g => g.name == x) = some f) (hN : f.names = N) (hps : f.pars = ps.length) (hb : BodyOk P w K mg base Pg n N qual st a f.body) :
    FnG P w K mg base (n + 3) a ps (spF P w K mg Pg (n + 1) x) := by
  have run : ∀ ds S0, callF Pg (n + 1) x ds S0 = runFn (cfgAt Pg n) f ds S0 := fun ds S0 => by
    rw [callF_succ, hf]
  refine fnG_of F S (fun vs H Q E h => ?_) hbind (fun cdv A outer s H vs Q E hca hr hgd h => ?_)
  · obtain ⟨z, m, S0, ds, s, r, q⟩ := h
    rw [run] at q
    unfold runFn at q
    by_cases hl : ds.length = f.pars
    · rw [← r.length, hl, hps]
    · rw [if_neg hl] at q; exact q.elim
  · obtain ⟨z, m, S0, ds, sm, r, q⟩ := h
    rw [run] at q
    unfold runFn at q
    by_cases hl : ds.length = f.pars
    · rw [if_pos hl] at q
      refine hb cdv A outer s H E hca hr hgd z m (ds.map some ++ List.replicate (f.names.length - ds.length) none) S0 (L2.start N vs) H _ sm ?_ ?_
      · refine ⟨by simp [L2.start, hN, r.length], fun i d e => ?_⟩
        by_cases hi : i < ds.length
        · rw [List.getElem?_append_left (by simpa using hi), List.getElem?_map] at e
          cases e2 : ds[i]? with
          | none => rw [e2] at e; cases e
          | some d' =>
            rw [e2] at e
            simp at e
            subst e
            obtain ⟨v, h1, h2⟩ := r.get e2
            refine ⟨v, ?_, h2⟩
            unfold L2.start
            rw [List.getElem?_append_left (by simpa [← r.length] using hi), List.getElem?_map, h1]
            rfl
        · rw [List.getElem?_append_right (by simpa using hi), List.getElem?_replicate] at e
          split at e <;> simp at e
      · cases e : evSs (cfgAt Pg n) f.body (ds.map some ++ List.replicate (f.names.length - ds.length) none) S0 with
        | next ρ S1 => rw [e] at q; exact fun m' H' σ' s1 s2 s3 => q m' H' .non s1 s2 Rp.nonI
        | ret d S1 => rw [e] at q; exact fun m' H' v s1 s2 s3 => q m' H' v s1 s2 s3
        | exc c d ρ S1 => rw [e] at q; exact fun m' H' σ' cls dx s1 s2 s3 s4 => q m' H' cls dx s1 s2 s4
        | brk _ _ => rw [e] at q; exact q.elim
        | cont _ _ => rw [e] at q; exact q.elim
        | bad => rw [e] at q; exact q.elim
    · rw [if_neg hl] at q; exact q.elim
/-- within no calls nothing is promised -/
theorem fn_ok0 {P : Program} {w : World} {K : PySem.W.Frag} {mg : Str → Option Value} {base : Heap} {Pg : Prg} {k : Nat} {ps : List Str} {x : Str} {a : Addr} : FnG P w K mg base k a ps (spF P w K mg Pg 0 x) :=
  ⟨fun vs H Q E ⟨z, m, S, ds, s, r, q⟩ => q.elim, fun A outer s H us vs Q E hr hgd e0 hv ⟨z, m, S, ds, sm, r, q⟩ => q.elim⟩
end DL
set_option Elab.async false
set_option linter.all false
set_option maxRecDepth 100000
set_option maxHeartbeats 4000000
/-! DLe: an own error that is caught and kept -/
namespace DL
open PySem PySem.Spec PyProof.Rows L2
section
variable {X : Cx} {pins : List (Addr × Obj)} {σ : L2.St} {H : Hp} {sI s s' : Shared} {B : Heap}
/-- back on the ground, the caught error is tracked from now on -/
theorem landedE {a : Addr} {oe : Obj} {vs : Array Value} {cls : Value} {d : Option Addr} (I : Inv X pins σ H sI) (nb : ∀ b o, sI.heap.get? b = some o → b ∉ frs X.stack → B.get? b = some o) (hB : B.get? a = none) (st : B.StaysIn s'.heap)
    (up : sI.heap.UpToSlots s'.heap) (os : s'.os = sI.os) (ag : AllBare s'.gens) (na : H a = none) (nfr : a ∉ frs X.stack) (he : s'.heap.get? a = some oe) (hz : Zc cls d oe) (hd : oe.data = .fields vs) : Inv X pins σ (upd H a (ErrO cls d a)) s' := by
  have new : ∀ b o, sI.heap.get? b = some o → b ≠ a := fun b o e z => by
    subst z
    rw [nb b o e nfr] at hB
    cases hB
  have fr : ∀ b ∈ frs X.stack, ∀ o, sI.heap.get? b = some o → ∃ sl, s'.heap.get? b = some { o with slots := sl } := fun b hb o e => by
    obtain ⟨_, o2, e2, hnf⟩ := I.stack.mem hb
    rw [e] at e2
    cases e2
    exact up b o e hnf
  have off : ∀ b o, sI.heap.get? b = some o → b ∉ frs X.stack → s'.heap.get? b = some o := fun b o e hb => st b o (nb b o e hb)
  have hok : HOk X.prog X.w (upd H a (ErrO cls d a)) s'.heap := by
    have h0 := (I.inGround nb).kept st
    intro b u e
    by_cases hb : b = a
    · subst hb
      rw [upd_same] at e
      cases e
      exact ⟨⟨oe, vs, he, hz, hd⟩, ⟨oe, he⟩, fun h1 h2 ⟨o, v, q, r⟩ k => ⟨o, v, k o q, r⟩⟩
    · rw [upd_ne hb] at e
      exact (h0 b u e).stay (fun _ _ _ q => q) (fun c q => by rw [upd_ne (ne_of_none q na)]; exact q) fun c xs q => by rw [upd_ne (ne_of_none q na)]; exact q
  refine Inv.call' (ch := []) I os ⟨fun b o e _ hb _ => off b o e hb, fun b o e _ hb _ => fr b hb o e, fun b o e n _ => by rw [upd_ne (new b o e)]; exact n, fun b o e _ => ?_, fun b xs q => by rw [upd_ne (ne_of_none q na)]; exact q,
    fun b o u q => by rw [upd_ne (ne_of_none q na)]; exact q, fun b ps q => ⟨#[], by rw [upd_ne (ne_of_none q na), q]; simp⟩⟩ hok ag fun _ z => nomatch z
  by_cases hb : b ∈ frs X.stack
  · obtain ⟨sl, q⟩ := fr b hb o e
    exact ⟨_, q⟩
  · exact ⟨o, off b o e hb⟩
/-- an except suite, the error tracked -/
theorem suite0 (I : Inv X pins σ H s) (a : Addr) : Inv (X.suite a (X.pn ++ pins)) [] σ H s :=
  ⟨I.ok.suite _ _, I.os, I.bare, I.base, I.loc, I.cell, I.free, I.freeC, fun p hp => I.pin p (by rwa [List.append_nil] at hp), I.hok, I.len⟩
theorem unsuite0 {a : Addr} {pn' : List (Addr × Obj)} (I : Inv (X.suite a (X.pn ++ pins)) pn' σ H s) (ok : X.Ok) : Inv X pins σ H s :=
  ⟨ok, I.os, I.bare, I.base, I.loc, I.cell, I.free, I.freeC, fun p hp => I.pin p (List.mem_append_left _ hp), I.hok, I.len⟩
end
/-- the ends of the suite: the name goes -/
def goneD (i : Nat) (D : Ends) : Ends := { nx := fun σ H => D.nx (σ.set i none) H, rt := D.rt, bk := fun σ H => D.bk (σ.set i none) H, ct := fun σ H => D.ct (σ.set i none) H }
/-- what is wished of an error of the body: it is caught -/
def wTrk (K : PySem.W.Frag) (c : Value) (i : Nat) (ts : TS) (D : Ends) : WX := fun cls d σ H =>
  PySem.W.exmOne K cls c = some true ∧ ∀ a, H a = none → ts (goneD i D) (σ.set i (some (.ref a))) (upd H a (ErrO cls d a))
section
variable {X : Cx} {x n : Str} {c : Value} {i : Nat} {body suite : List Stmt} {b0 : Stmt} {np pos pos' : Pos} {tb : WX → TS} {ts : TS}
theorem ps_try_trk (hs : X.stack = X.env :: X.outer) (hf : X.env.frame = some X.env.locals) (hN : X.N.Nodup) (hi : X.N[i]? = some n) (hln : X.env.kindOf n = some .local) (hc : Names X x c)
    (hb : ∀ (W : WX) (pn : List (Addr × Obj)) (xe : Value → Shared → Prop), Takes (X.tr pn xe) W → PassesOwn (model X.prog X.w) X.A X.env xe → PSs (X.tr pn xe) body (tb W)) (hsu : ∀ (a : Addr) (pn : List (Addr × Obj)), PSs (X.suite a pn) (b0 :: suite) ts) :
    PS X (.Try body [.ExceptHandler (some (.Name x np)) (some n) (b0 :: suite) pos'] [] [] pos) (fun D σ H => tb (wTrk X.K c i ts D) D σ H) := by
  constructor
  intro pins s σ H D I h
  have ok := I.ok
  have hfr : X.A.frames = some (X.env :: X.outer) := by rw [ok.frames, hs]
  let xe : Value → Shared → Prop := fun e s1 => wpAny (model X.prog X.w) X.A (noteFrame e X.env) (fun _ s2 => wpAny (model X.prog X.w) X.A (setFlight e none) (fun _ s3 =>
    wpAny (model X.prog X.w) X.A (handleBy e X.env [.ExceptHandler (some (.Name x np)) (some n) (b0 :: suite) pos']) (SP X pins D) X.xe s3) X.xe s2) X.xe s1
  have tk : Takes (X.tr (X.pn ++ pins) xe) (wTrk X.K c i ts D) := by
    rintro u s1 ⟨a, B, sI, pins', σ', H', cls, d, rfl, J', nb, up, sky, na, os, ag, yes, go⟩
    have J : Inv X pins σ' H' sI := J'.ofTry ok
    show wpAny (model X.prog X.w) X.A (noteFrame (.ref a) X.env) _ _ _
    refine Sky.land (B := B) (L := X.env.locals) (Z := Zc cls d) Zc.steady hfr hf (by rw [← hs]; exact sky) fun h3 fl3 up3 => ?_
    obtain ⟨oe3, vs3, he3, hz3, hd3⟩ := fl3.there
    have J3 : Inv X pins σ' H' { s1 with heap := h3 } := J.landed nb fl3.1 (up.trans up3) os ag
    have nfr : a ∉ frs (X.env :: X.outer) := fun hm => by
      obtain ⟨_, o', e', hnf⟩ := fl3.2.2.1.mem hm
      rw [he3] at e'
      cases e'
      exact hnf _ hd3
    have nL : a ≠ X.env.locals := fun z => nfr (List.mem_filterMap.mpr ⟨X.env, List.mem_cons_self, by rw [hf, z]⟩)
    have nF : a ∉ X.fs := fun hm => by
      obtain ⟨e, he, q⟩ := List.mem_filterMap.mp hm
      exact nfr (List.mem_filterMap.mpr ⟨e, List.mem_cons_of_mem _ he, q⟩)
    have S3 := J3.suite he3 hd3 na nL nF
    refine wpAny_handleBy_cons (codeAny_handlers_test ?_) (by intro q; cases q)
    have LT : PySem.W.Looks (model X.prog X.w) h3 (typeOf (.ref a)) cls := fun A Q E s k q => wpAny_typeOf_ref (k _ _ he3) (by rw [hz3.1]; exact q)
    have LM := PySem.W.exm_one (M := model X.prog X.w) J3.kIn LT yes
    have test : ∀ {Q E : Value → Shared → Prop}, Q c { s1 with heap := h3 } → wpAny (model X.prog X.w) (X.A.mark (some (.ref a))) (eval (.Name x np) X.env) Q E { s1 with heap := h3 } := fun {Q E} q => by
      obtain ⟨hg, hdbg, hm | ⟨hm, hv, hnn⟩⟩ := hc
      · exact ld_glob (X := X.suite a ((a, oe3) :: (X.pn ++ pins))) S3 hg hm q hdbg
      · exact ld_blt (X := X.suite a ((a, oe3) :: (X.pn ++ pins))) S3 hg hm hv q hnn hdbg
    refine test (LM.here ?_)
    refine codeAny_handlers_suite_as (HandSPX.lands_againZ fl3 fun h4 fl4 up4 => ?_)
    obtain ⟨oe4, vs4, he4, hz4, hd4⟩ := fl4.there
    have J4 : Inv X pins σ' (upd H' a (ErrO cls d a)) { s1 with heap := h4 } := landedE J nb fl4.2.1 fl4.1 ((up.trans up3).trans up4) os ag na (by rw [hs]; exact nfr) he4 hz4 hd4
    refine store_ok (X := X.suite a (X.pn ++ pins)) (v := .ref a) (suite0 J4 a) hN hi (.inl hln) rfl (fun s5 S5 => ?_) (.inr hln)
    refine wpAny_mono ((hsu a (X.pn ++ pins)).run [] s5 _ _ (goneD i D) S5 (go a na)) (fun f s6 hsp => ?_) (fun _ _ z => z.elim)
    have fin : ∀ {σ6 : L2.St} {H6 : Hp} {R : Shared → Prop}, Inv (X.suite a (X.pn ++ pins)) [] σ6 H6 s6 → (∀ s7, Inv X pins (σ6.set i none) H6 s7 → R s7) →
        wpAny (model X.prog X.w) X.A (do bindName X.env n .none; unbindBehindTheSuite X.env n pos') (fun _ s7 => R s7) X.xe s6 := fun S6 hq => gone_ok (unsuite0 S6 ok) hN hi hln hq
    match f, hsp with
    | .next, ⟨σ6, H6, S6, q6⟩ => exact fin S6 fun s7 J7 => ⟨_, _, J7, q6⟩
    | .brk, ⟨σ6, H6, S6, q6⟩ => exact fin S6 fun s7 J7 => ⟨_, _, J7, q6⟩
    | .cont, ⟨σ6, H6, S6, q6⟩ => exact fin S6 fun s7 J7 => ⟨_, _, J7, q6⟩
    | .ret u, ⟨v6, σ6, H6, S6, r6, q6⟩ => exact fin S6 fun s7 J7 => ⟨_, _, _, J7, r6, q6⟩
  refine wpAny_Try_except (wpAny_mono ((hb (wTrk X.K c i ts D) (X.pn ++ pins) xe tk PassesOwn.looking).run [] s σ H D (I.toTry _) h) (fun f s1 hsp => ?_) fun e s1 he => he)
  match f, hsp with
  | .next, ⟨σ', H', J', q⟩ => exact wpAny_execs_nil ⟨σ', H', J'.ofTry ok, q⟩
  | .brk, ⟨σ', H', J', q⟩ => exact ⟨σ', H', J'.ofTry ok, q⟩
  | .cont, ⟨σ', H', J', q⟩ => exact ⟨σ', H', J'.ofTry ok, q⟩
  | .ret u, ⟨v, σ', H', J', r, q⟩ => exact ⟨v, σ', H', J'.ofTry ok, r, q⟩
end
end DL
set_option Elab.async false
set_option linter.all false
set_option maxRecDepth 100000
set_option maxHeartbeats 4000000
/-! DLe2: _law_heard(lambda: ..) -/
namespace DL
open PySem PySem.Spec PyProof.Rows L2 LamX
/-- where the def g runs that got the lambda -/
abbrev hCx (X : Cx) (Ng : List Str) (x : Str) (sg : Scope) (g : Addr) (cdg : Value) (s : Shared) (H : Hp) : Cx := cxOf C8.CX0 X.prog X.w X.K X.mg X.base Ng x sg g cdg X.A X.stack s H C8.E0
/-- the def calls what it got by the name a; TT: what it makes of the lambda's reading; Kp: what goes on holding -/
def HearsTo (X : Cx) (Ng : List Str) (x : Str) (sg : Scope) (g : Addr) (cdg : Value) (bg : List Stmt) (a : Str) (TT : (XK → Hp → VK → Prop) → Hp → VK → Prop) : Prop :=
  ∀ (f : Addr) (Kp : Hp → Prop) (s : Shared) (H : Hp) (Q : VK) (tl : XK → Hp → VK → Prop), (∀ H p o, Kp H → H p = none → Kp (upd H p o)) →
    (∀ (W : WX) (pn : List (Addr × Obj)) (xe : Value → Shared → Prop) (p1 p2 : Pos), Takes ((hCx X Ng x sg g cdg s H).tr pn xe) W →
      PE ((hCx X Ng x sg g cdg s H).tr pn xe) (.Call (.Name a p1) [] [] p2) (fun σZ HZ R => σZ[0]? = some (some (.ref f)) ∧ Kp HZ ∧ tl (WE W σZ) HZ R)) →
    Kp H → (∀ p, H p = none → TT tl (upd H p (.tup [.non, .non])) Q) → semSs (hCx X Ng x sg g cdg s H).nox bg { nx := fun _ H' => Q .non H', rt := Q } (L2.start Ng [.ref f]) H
section
variable {X : Cx} {pins : List (Addr × Obj)} {σ : L2.St} {H : Hp} {s : Shared}
/-- the lambda is called in the def that got it -/
theorem act_ok {Ng : List Str} {qg : Str} {sg : Scope} {g f c' : Addr} {cdg pm ctv : Value} {params : Arguments} {body : Expr} {scope : Scope} {k i : Nat} {a : Str} {pn : List (Addr × Obj)} {xe : Value → Shared → Prop} {W : WX} {tb : XK → TE} {p1 p2 : Pos}
    (I : Inv X pins σ H s) (L : LamS X.env.scope scope) (hf : s.heap.get? f = some (PySem.W.kla_obj "<lambda>" (X.env.qual ++ "<lambda>") params body scope (cloFrom X.env.cells scope.names []) pm c' ctv)) (hfn : H f = none) (hfr : f ∉ frs X.stack)
    (hbind : bindArgs (PySem.W.kla_fn "<lambda>" (X.env.qual ++ "<lambda>") params body scope (cloFrom X.env.cells scope.names []) pm (.ref c') ctv) ⟨[], []⟩ = pure [])
    (tk : Takes ((hCx X Ng qg sg g cdg s H).tr pn xe) W) (hr : Room (k + 1) (X.A.deeper (envOfC qg sg s.heap.objs.size g cdg)))
    (hbody : ∀ (A : Around) (outer : List PySem.Env) (s : Shared) (H : Hp) (E : XK), Room k (A.deeper (lamEnv X scope s.heap.objs.size f c')) → A.guards = X.A.guards → PE (lamCx X A outer s H E scope f c') body (tb E)) (hN : Ng[i]? = some a) (hv : Vis sg a)
    (hd : (a == ("__debug__" : Str)) = false) (hcd : (a == ("__classdict__" : Str)) = false) :
    PE ((hCx X Ng qg sg g cdg s H).tr pn xe) (.Call (.Name a p1) [] [] p2) (fun σZ HZ R => σZ[i]? = some (some (.ref f)) ∧ HZ c' = some (CodeO c' (X.env.qual ++ "<lambda>")) ∧ tb (WE W σZ) σ HZ R) := by
  constructor
  rintro pinsZ sZ σZ HZ R IZ ⟨hs, hc, ht⟩
  have rd := (pe_var (X := (hCx X Ng qg sg g cdg s H).tr pn xe) (pos := p1) hN hv hd hcd).run pinsZ sZ σZ HZ (fun v H1 => v = .ref f ∧ H1 = HZ) IZ ⟨.ref f, hs, rfl, rfl⟩
  refine wpAny_Call_Name_kw (thn rd fun u s1 hu => ?_)
  obtain ⟨v, H1, I1, r1, ev, eH⟩ := hu
  subst ev eH
  cases r1
  have of1 := I1.base.keep f _ hf hfn hfr (by intro z; cases z)
  refine PySem.W.callWith_F0 ⟨_, _, _, _, of1⟩ (wpAny_call ?_)
  obtain ⟨⟨oc, vs, t, hoc, hdc, hvc⟩, _, _⟩ := I1.hok c' _ hc
  have key : codeAny (model X.prog X.w) (X.A.deeper (envOfC qg sg s.heap.objs.size g cdg)) (.call (.ref f) ⟨[], []⟩)
      (CR (L2.CX X.prog X.w) (envOfC qg sg s.heap.objs.size g cdg :: X.stack) X.prog X.w H1 s1 R (WE W σZ)) s1 := by
    refine PySem.W.kla_callFunE hr.depth of1 rfl L.co L.gen rfl ⟨c', oc, vs, t, rfl, hoc, hdc, hvc⟩ ?_
    rw [hbind]
    refine wpAny_pure (wpAny_newFunctionEnv (fun y hy => (L.own y hy).2) (fun y hy => by cases hy) (fun h1 hns hsb => ⟨I1.nolimit.fresh _ hsb, ?_⟩) L.kind)
    have kp : ∀ b o, s1.heap.get? b = some o → h1.get? b = some o := fun b o e => hsb.extBut b o (Nat.ne_of_lt (Heap.lt_size e)) (Heap.get?_push_of_some _ e)
    have J : Inv (lamCx X (X.A.deeper (envOfC qg sg s.heap.objs.size g cdg)) (envOfC qg sg s.heap.objs.size g cdg :: X.stack) s1 H1 (WE W σZ) scope f c') [] σ H1 { s1 with heap := h1, toks := s1.toks + ([] : List (Str × Value)).length } := lam_start2 I L I1.env0 hr.hd I1.base hns kp
    refine PySem.W.kla_codeExpr (wpAny_mono ((hbody _ _ s1 H1 (WE W σZ) (hr.deeper _) rfl).run [] _ _ H1 _ J ht) (fun v s2 hq => ?_) fun _ _ hq => hq)
    obtain ⟨w2, H2, J2, rv, q⟩ := hq
    exact ⟨w2, H2, J2.os, J2.bare, J2.base, J2.hok, rv, q⟩
  refine codeAny_mono key fun r s2 hq => ?_
  match r, hq with
  | .error e, hq => exact passAt tk σZ pinsZ H1 s1 e s2 I1 hq
  | .ok (.ret u), hq => exact I1.after hq
  | .ok .next, hq => exact hq.elim
  | .ok .brk, hq => exact hq.elim
  | .ok .cont, hq => exact hq.elim
end
section
variable {X : Cx}
/-- x(lambda: body) -/
theorem pe_hear {T : List (Addr × Str)} {TT : (XK → Hp → VK → Prop) → Hp → VK → Prop} {x a : Str} {g c P : Addr} {k : Nat} {pg : Arguments} {bg : List Stmt} {sg : Scope} {dV kV doc pm cdv ct oc : Value} {an od : Option Addr} {osl : Array (Option Value)} {Ng : List Str}
    {params : Arguments} {body : Expr} {scope : Scope} {t : XK → TE} {p lpos pos : Pos} (hg : Gl X x) (hm : X.mg x = some (.ref g)) (hk : PySem.W.keepIn X.K (.ref g) = true) (lk : X.K.lookup g = some ⟨oc, od, .func (PySem.W.fnOf x x pg bg sg dV kV doc pm an cdv ct), osl⟩)
    (hcg : PySem.W.codeIn X.K cdv x = true) (hb : ∀ u : Value, bindArgs (PySem.W.fnOf x x pg bg sg dV kV doc pm an cdv ct) ⟨[u], []⟩ = pure [(a, u)]) (Sg : FnScope Ng [a] sg) (hNg : Ng[0]? = some a) (hva : Vis sg a)
    (hG : HearsTo X Ng x sg g cdv bg a TT) (TB : TabB X.base X.mg c P) (hcode : X.env.code = .ref c) (hmT : (P, X.env.qual ++ "<lambda>") ∈ T) (hu : ∀ p ∈ T, p.1 = P → p.2 = X.env.qual ++ "<lambda>") (hr : Room (k + 2) X.A)
    (L : LamS X.env.scope scope) (hdef : defaultsOf params X.env = ([], [])) (hbind : ∀ (q : Str) (cl : List (Str × Addr)) (pm cv ctv : Value), bindArgs (PySem.W.kla_fn "<lambda>" q params body scope cl pm cv ctv) ⟨[], []⟩ = pure [])
    (hbody : ∀ (A : Around) (outer : List PySem.Env) (s : Shared) (H : Hp) (E : XK) (f c' : Addr), Room k (A.deeper (lamEnv X scope s.heap.objs.size f c')) → A.guards = X.A.guards → PE (lamCx X A outer s H E scope f c') body (t E))
    (hdb : (x == ("__debug__" : Str)) = false) (hd : (a == ("__debug__" : Str)) = false) (hcd : (a == ("__classdict__" : Str)) = false) :
    PE X (.Call (.Name x p) [.Lambda params body scope lpos] [] pos) (fun σ H Q => Tabs T H ∧ ∀ H1, ExtN H H1 → Tabs T H1 → ∀ p, H1 p = none → TT (fun E H' R => t E σ H' R) (upd H1 p (.tup [.non, .non])) Q) := by
  constructor
  rintro pins s σ H Q I ⟨hT, h⟩
  refine wpAny_Call_Name_kw (ld_glob I hg hm (PySem.W.callWith_K (h₀ := X.base) I.ok.mod.kin hk ?_ (by rfl) (by rfl)) hdb)
  refine Calls.spliced_cons (lam_make2 I TB hcode hmT hu hT hdef (L.has I.ok) fun f c' pm' ctv H1 s1 I1 eN T1 hf hfn hfr hco => ?_)
  refine Calls.spliced_nil ⟨I1.kIn, wpAny_call ?_⟩
  have rc : codeAny (model X.prog X.w) X.A (.call (.ref g) ⟨[.ref f], []⟩) (CR C8.CX0 X.stack X.prog X.w H1 s1 Q C8.E0) s1 := by
    refine run_ofS (N := Ng) (ps := [a]) (us := [.ref f]) (vs := [.ref f]) lk hcg Sg hr I1.env0 (.of_eq (hb _)) (.cons rfl .nil) rfl fun hr2 => ⟨_, PSs.nox pss_sem, ?_⟩
    exact hG f (fun H => H c' = some (CodeO c' (X.env.qual ++ "<lambda>"))) s1 H1 Q (fun E H' R => t E σ H' R) (fun H p o e n => by rw [upd_ne (ne_of_none e n)]; exact e) (fun W pn xe p1 p2 tk => act_ok (tb := t) I1 L hf hfn hfr (hbind _ _ _ _ _) tk hr2 (fun A outer s H E hr3 hgd => hbody A outer s H E f c' hr3 hgd) hNg hva hd hcd) hco fun p hp => h H1 eN T1 p hp
  refine codeAny_mono rc fun r s2 hq => ?_
  match r, hq with
  | .error e, hq => exact (show False from hq).elim
  | .ok (.ret u), hq => exact I1.after hq
  | .ok .next, hq => exact hq.elim
  | .ok .brk, hq => exact hq.elim
  | .ok .cont, hq => exact hq.elim
end
/-- what is heard of the lambda: (None, value), or (error, None) -/
def TTh (K : PySem.W.Frag) (CS : Addr) : (XK → Hp → VK → Prop) → Hp → VK → Prop := fun tl H Q => ∀ (E : XK) (R : VK),
  (∀ cls d H', PySem.W.exmOne K cls (.ref CS) = some true → (∀ a t, H' a = none → upd H' a (ErrO cls d a) t = none → Q (.ref t) (upd (upd H' a (ErrO cls d a)) t (.tup [.ref a, .non]))) → E cls d H') →
  (∀ v H', (∀ t, H' t = none → Q (.ref t) (upd H' t (.tup [.non, v]))) → R v H') → tl E H R
def heardBody (k1 k2 k3 j1 j2 : Nat) (p1 p2 p3 p4 p5 p6 p7 p8 p9 p10 p11 p12 p13 p14 p15 p16 p17 p18 p19 p20 p21 : Pos) : List Stmt :=
  [.Assign [.Tuple [.Name "caught" p1, .Name "back" p2] k1 p3] (.Tuple [.Constant .none j1 p4, .Constant .none j2 p5] k2 p6) p7,
      .Try [.Assign [.Name "back" p8] (.Call (.Name "call" p9) [] [] p10) p11] [.ExceptHandler (some (.Name "ErrandError" p12)) (some "error") [.Assign [.Name "caught" p13] (.Name "error" p14) p15] p16] [] [] p17,
      .Return (some (.Tuple [.Name "caught" p18, .Name "back" p19] k3 p20)) p21]
theorem hears {X : Cx} {x : Str} {sg : Scope} {g CS : Addr} {cdg : Value} {k1 k2 k3 j1 j2 : Nat} {p1 p2 p3 p4 p5 p6 p7 p8 p9 p10 p11 p12 p13 p14 p15 p16 p17 p18 p19 p20 p21 : Pos} (l1 : sg.names.lookup ("call" : Str) = some NameKind.local) (l2 : sg.names.lookup ("caught" : Str) = some NameKind.local) (l3 : sg.names.lookup ("back" : Str) = some NameKind.local)
    (l4 : sg.names.lookup ("error" : Str) = some NameKind.local) (hge : sg.names.lookup ("ErrandError" : Str) = some NameKind.globalImplicit) (hme : X.mg ("ErrandError" : Str) = some (.ref CS)) :
    HearsTo X ["call", "caught", "back", "error"] x sg g cdg (heardBody k1 k2 k3 j1 j2 p1 p2 p3 p4 p5 p6 p7 p8 p9 p10 p11 p12 p13 p14 p15 p16 p17 p18 p19 p20 p21) "call" (TTh X.K CS) := by
  intro f Kp s H Q tl hK act hc h
  have nd : (["call", "caught", "back", "error"] : List Str).Nodup := by decide
  have s1 := ps_asg (X := (hCx X ["call", "caught", "back", "error"] x sg g cdg s H).nox) (pos := p7) (pe_tup (x1 := k2) (pos := p6) (pa_cons (pe_non (j := j1) (pos := p4)) (pa_cons (pe_non (j := j2) (pos := p5)) pa_nil)))
    (pg_tup (k := k1) (pos := p3) rfl (pgs_cons (pg_name (i := 1) (pos := p1) nd rfl (.inl l2) (.inl rfl)) (pgs_cons (pg_name (i := 2) (pos := p2) nd rfl (.inl l3) (.inl rfl)) pgs_nil))) (hw := by
      unfold swappedStores
      dsimp only
      split
      · rfl
      · split
        · rfl
        · split
          · rfl
          · exact if_pos rfl)
  have s2 := ps_try_trk (X := (hCx X ["call", "caught", "back", "error"] x sg g cdg s H).nox) (i := 3) (n := "error") (x := "ErrandError") (c := .ref CS) (np := p12) (pos := p17) (pos' := p16) (body := [.Assign [.Name "back" p8] (.Call (.Name "call" p9) [] [] p10) p11]) (b0 := .Assign [.Name "caught" p13] (.Name "error" p14) p15) (suite := [])
    (tb := fun W D σ H' => σ[0]? = some (some (.ref f)) ∧ Kp H' ∧ tl (WE W σ) H' fun v H2 => D.nx (σ.set 2 (some v)) H2) (ts := fun D σ H => ∃ v, σ[3]? = some (some v) ∧ D.nx (σ.set 1 (some v)) H) rfl rfl nd rfl l4 ⟨hge, by decide, .inl hme⟩ (fun W pn xe tk _ => ?_) (fun a pn => ?_)
  · have s3 := ps_ret (pos := p21) (pe_tup (X := (hCx X ["call", "caught", "back", "error"] x sg g cdg s H).nox) (x1 := k3) (pos := p20) (pa_cons (pe_var (i := 1) (pos := p18) rfl (.inl l2) (by decide) (by decide)) (pa_cons (pe_var (i := 2) (pos := p19) rfl (.inl l3) (by decide) (by decide)) pa_nil)))
    refine semSs_of (pss_cons s1 (pss_cons s2 (pss_one s3))) ?_
    refine ⟨by decide, fun p hp => ⟨p, _, rfl, SqT.of upd_same, rfl, _, _, rfl, _, _, rfl, rfl, rfl, hK _ _ _ hc hp, h p hp _ _ (fun cls d H1 he k => ⟨he, fun a ha => ?_⟩) (fun v H1 k => ?_)⟩⟩
    · refine ⟨.ref a, rfl, ?_⟩
      refine ⟨.ref a, rfl, .non, rfl, (by show (2 : Nat) ≤ sizeLine; decide), fun t ht => k a t ha ht⟩
    · refine ⟨.non, rfl, v, rfl, (by show (2 : Nat) ≤ sizeLine; decide), fun t ht => k t ht⟩
  · have s4 := pss_one (ps_set (pos := p11) (pos' := p8) (i := 2) nd rfl (.inl l3) (act W pn xe p9 p10 tk) (by rfl) (.inl rfl))
    constructor
    intro pins s5 σ5 H5 D I ⟨q1, q2, q3⟩
    exact s4.run pins s5 σ5 H5 D I ⟨q1, q2, q3⟩
  · have s5 := pss_one (ps_set (X := (hCx X ["call", "caught", "back", "error"] x sg g cdg s H).nox.suite a pn) (pos := p15) (pos' := p13) (i := 1) nd rfl (.inl l2) (pe_var (i := 3) (pos := p14) rfl (.inl l4) (by decide) (by decide)) (by rfl) (.inl rfl))
    exact s5
/-- what is known of the defs' tables and of `_law_heard` -/
structure HeardOk (X : Cx) (P : Program) (CS : Addr) : Prop where
  ex : ∃ (g : Addr) (pg : Arguments) (bg : List Stmt) (sg : Scope) (dV kV doc pm cdv ct oc : Value) (an od : Option Addr) (osl : Array (Option Value)), X.mg ("_law_heard" : Str) = some (.ref g) ∧ PySem.W.keepIn X.K (.ref g) = true ∧
    X.K.lookup g = some ⟨oc, od, .func (PySem.W.fnOf "_law_heard" "_law_heard" pg bg sg dV kV doc pm an cdv ct), osl⟩ ∧ PySem.W.codeIn X.K cdv "_law_heard" = true ∧ (∀ u : Value, bindArgs (PySem.W.fnOf "_law_heard" "_law_heard" pg bg sg dV kV doc pm an cdv ct) ⟨[u], []⟩ = pure [(("call" : Str), u)]) ∧
    FnScope ["call", "caught", "back", "error"] ["call"] sg ∧ Vis sg "call" ∧ HearsTo X ["call", "caught", "back", "error"] "_law_heard" sg g cdv bg "call" (TTh X.K CS)
/-- the own errors that are told apart are caught -/
def CatchOk (mg : Str → Option Value) (K : PySem.W.Frag) (CS : Addr) (xs : List Str) : Prop := ∀ x ∈ xs, mg x = some (.ref (He.ga K x)) ∧ PySem.W.exmOne K (.ref (He.ga K x)) (.ref CS) = some true
/-- the reading of a lambda's body, whoever calls it -/
abbrev lamR (X : Cx) (k : Nat) (scope : Scope) (body : Expr) : XK → TE := fun E σ H R => ∀ (A : Around) (outer : List PySem.Env) (s : Shared) (H0 : Hp) (f c' : Addr), Room k (A.deeper (lamEnv X scope s.heap.objs.size f c')) → A.guards = X.A.guards → semE (lamCx X A outer s H0 E scope f c') body σ H R
theorem heard_tail {X : Cx} {W : WX} {CS : Addr} {k : Nat} {xs : List Str} {body : Expr} {scope : Scope} {fb : DL.Env → Sto → Res D} (hc : CatchOk X.mg X.K CS xs)
    (hbody : ∀ (A : Around) (outer : List PySem.Env) (s : Shared) (H : Hp) (E : XK) (f c' : Addr), Room k (A.deeper (lamEnv X scope s.heap.objs.size f c')) → A.guards = X.A.guards → SE (lamCx X A outer s H E scope f c') (fun cls d _ H => E cls d H) body fb)
    {z m : List Addr} {ρ : DL.Env} {S : Sto} {σ : L2.St} {H H1 : Hp} {Q : VK} (st1 : Step m H m H1) (s1 : Sim (kt X z) m S H1) (en : EnvR (kt X z) m H1 ρ σ) (pp : PostE X z W σ m H (heardR xs (fb ρ S)) Q) {t0 : Addr} (ht0 : H1 t0 = none) :
    TTh X.K CS (fun E H' R => lamR X k scope body E σ H' R) (upd H1 t0 (.tup [.non, .non])) Q := by
  intro E R hE hR A outer s0 H0 f c' h1 h2
  have st2 := st1.trans (.aside (o := .tup [.non, .non]) ht0)
  refine hbody A outer s0 H0 E f c' h1 h2 z m ρ S σ _ R (s1.aside ht0) (en.step (.aside ht0)) ?_
  generalize fb ρ S = rr at pp ⊢
  cases rr with
  | bad => exact pp
  | ok d S2 =>
    intro m2 H2 v st sm r
    refine hR v H2 fun t ht => ?_
    refine pp m2 _ (.ref t) ((st2.trans st).trans (.aside ht)) (Sim.aside (k := kt X z) sm ht) ?_
    exact Rp.newTup ht (RpL.cons Rp.nonI (RpL.one r))
  | exc x d S2 =>
    simp only [heardR] at pp
    split at pp
    · rename_i hx
      intro m2 H2 cls dx st sm ex
      obtain ⟨C, a2, v, fs, g1, rfl, rfl, g2, g3, g4⟩ := ex
      obtain ⟨k1, k2⟩ := hc x (by simpa using hx)
      have eC : C = He.ga X.K x := by
        have : X.mg x = some (.ref C) := g1
        rw [k1] at this
        cases this
        rfl
      subst eC
      refine hE _ _ _ k2 fun a t ha ht => ?_
      refine pp m2 _ (.ref t) (((st2.trans st).trans (.aside ha)).trans (.aside ht)) (Sim.aside (k := kt X z) (Sim.aside (k := kt X z) sm ha) ht) ?_
      refine Rp.newTup ht (RpL.cons ?_ (RpL.one Rp.nonI))
      simp only [Rp]
      refine ⟨a, a2, fs, v, rfl, ⟨Sim.notin sm ha, Sim.nohid sm ha⟩, ⟨fun hm => ?_, fun hm => ?_⟩, upd_same, by rw [upd_ne (ne_of_none g2 ha)]; exact g2, g3, Rp.step (.aside ha) g4⟩
      · obtain ⟨u, e, l⟩ := Sim.tracked sm hm
        rw [g2] at e
        exact l.xd _ (Option.some.inj e).symm
      · obtain ⟨_, u, e, l⟩ := sm.hid a2 hm
        rw [g2] at e
        exact l.xd _ (Option.some.inj e).symm
    · exact pp.elim
theorem s_heard {X : Cx} {W : WX} {CS c P : Addr} {k : Nat} {xs : List Str} {params : Arguments} {body : Expr} {scope : Scope} {p lpos pos : Pos} {fb : DL.Env → Sto → Res D} (hg : Gl X ("_law_heard" : Str)) (ho : HeardOk X X.prog CS) (hc : CatchOk X.mg X.K CS xs)
    (TB : TabB X.base X.mg c P) (hcode : X.env.code = .ref c) (hmT : (P, X.env.qual ++ "<lambda>") ∈ tabsOf X.prog X.K) (hu : ∀ p ∈ tabsOf X.prog X.K, p.1 = P → p.2 = X.env.qual ++ "<lambda>") (hr : Room (k + 2) X.A) (L : LamS X.env.scope scope) (hdef : defaultsOf params X.env = ([], []))
    (hbind : ∀ (q : Str) (cl : List (Str × Addr)) (pm cv ctv : Value), bindArgs (PySem.W.kla_fn "<lambda>" q params body scope cl pm cv ctv) ⟨[], []⟩ = pure [])
    (hbody : ∀ (A : Around) (outer : List PySem.Env) (s : Shared) (H : Hp) (E : XK) (f c' : Addr), Room k (A.deeper (lamEnv X scope s.heap.objs.size f c')) → A.guards = X.A.guards → SE (lamCx X A outer s H E scope f c') (fun cls d _ H => E cls d H) body fb) :
    SE X W (.Call (.Name ("_law_heard" : Str) p) [.Lambda params body scope lpos] [] pos) (fun ρ S => heardR xs (fb ρ S)) := by
  intro z m ρ S σ H Q s en pp
  obtain ⟨g, pg, bg, sg, dV, kV, doc, pm, cdv, ct, oc, an, od, osl, o1, o2, o3, o4, o5, o6, o7, o8⟩ := ho.ex
  refine semE_of (pe_hear (X := X) (k := k) (t := lamR X k scope body)
    hg o1 o2 o3 o4 o5 o6 rfl o7 o8 TB hcode hmT hu hr L hdef hbind (fun A outer s H E f c' h1 h2 => ⟨fun pins s2 σ2 H2 Q2 I2 h3 => h3 A outer s H f c' h1 h2 pins s2 I2⟩) (by decide) (by decide) (by decide)) ⟨s.tabs, fun H1 eN T1 t0 ht0 => ?_⟩
  have st1 : Step m H m H1 := ⟨⟨[], by simp⟩, fun _ h h' => absurd h h', fun b o h _ hn => eN b o h hn, fun b _ h => eN b _ h (fun _ z => by cases z), fun b _ _ h => eN b _ h (fun _ z => by cases z)⟩
  have s1 : Sim (kt X z) m S H1 := s.same st1 (fun q _ u h l => eN q u h l.tbl) T1
  exact heard_tail hc hbody st1 s1 (en.step st1) pp ht0
end DL
set_option Elab.async false
set_option linter.all false
set_option maxRecDepth 100000
set_option maxHeartbeats 4000000
/-! DLe3: looking at a caught error -/
namespace DL
open PySem PySem.Spec PyProof.Rows L2 LamX
/-- what a class of own errors must say, so that its caught errors are looked at rightly -/
structure ErrC (K : PySem.W.Frag) (C : Addr) : Prop where
  hcl : (PySem.W.clsIn K C).isSome = true
  hga : PySem.W.findIn K (.ref C) "__getattribute__" = some (some (.builtin "BaseException.__getattribute__"))
  hgt : PySem.W.findIn K (.ref C) "__getattr__" = some none
  hsub : PySem.W.subIn K (.ref C) (.type "BaseException") = some true
  hdict : PySem.W.hasDictIn K C = true
  ha : PySem.W.findIn K (.ref C) "__class__" = some (some (.builtin "object.__class__"))
  hn : PySem.W.specialIn K (.builtin "object.__class__") "__get__" = some (some (.builtin "getset_descriptor.__get__"))
  ht : PySem.W.takesIn K (.builtin "object.__class__") = some true
  hm : PySem.W.mroIn K C (.type "object") = some true
  hno : PySem.W.findIn K (.ref C) "value" = some none
  non : PySem.W.kitOne K (.type "NoneType") (.ref C) = some false
def errB (K : PySem.W.Frag) (C : Addr) : Bool := (PySem.W.clsIn K C).isSome && decide (PySem.W.findIn K (.ref C) "__getattribute__" = some (some (.builtin "BaseException.__getattribute__"))) && decide (PySem.W.findIn K (.ref C) "__getattr__" = some none) &&
  decide (PySem.W.subIn K (.ref C) (.type "BaseException") = some true) && PySem.W.hasDictIn K C && decide (PySem.W.findIn K (.ref C) "__class__" = some (some (.builtin "object.__class__"))) && decide (PySem.W.specialIn K (.builtin "object.__class__") "__get__" = some (some (.builtin "getset_descriptor.__get__"))) &&
  decide (PySem.W.takesIn K (.builtin "object.__class__") = some true) && decide (PySem.W.mroIn K C (.type "object") = some true) && decide (PySem.W.findIn K (.ref C) "value" = some none) && decide (PySem.W.kitOne K (.type "NoneType") (.ref C) = some false)
theorem errB_ok {K : PySem.W.Frag} {C : Addr} (h : errB K C = true) : ErrC K C := by
  simp only [errB, Bool.and_eq_true, decide_eq_true_eq] at h
  obtain ⟨⟨⟨⟨⟨⟨⟨⟨⟨⟨h1, h2⟩, h3⟩, h4⟩, h5⟩, h6⟩, h7⟩, h8⟩, h9⟩, h10⟩, h11⟩ := h
  exact ⟨h1, h2, h3, h4, h5, h6, h7, h8, h9, h10, h11⟩
section
variable {X : Cx} {W : WX} {pins : List (Addr × Obj)} {σ : L2.St} {H : Hp} {s : Shared}
/-- the caught error on the heap -/
theorem err_at {a dx C : Addr} {fs : List (Str × V)} (I : Inv X pins σ H s) (h1 : H a = some (ErrO (.ref C) (some dx) a)) (h2 : H dx = some (.xd fs)) :
    ∃ (oe od : Obj) (mA : Str → Option Value), PySem.W.InstAt s.heap a oe C (some od) ∧ (∀ f, PySem.W.lookIn f od = some (mA f)) ∧ ∀ f, RelO (fs.lookup f) (mA f) := by
  obtain ⟨⟨oe, vs, he, hz, hd⟩, _, _⟩ := I.hok a _ h1
  obtain ⟨mA, hns, hr⟩ := I.hok dx _ h2
  obtain ⟨od, ho, hl⟩ := lookIn_ns hns
  exact ⟨oe, od, mA, ⟨he, hz.1, by unfold PySem.W.notCls; rw [hd], by rw [hz.2]; exact ho⟩, hl, hr⟩
/-- isinstance(error, class) -/
theorem sc_isx {a dx C D : Addr} {fs : List (Str × V)} {b : Bool} {Q : VK} (h1 : H a = some (ErrO (.ref C) (some dx) a)) (h2 : H dx = some (.xd fs)) (T : ErrC X.K C) (e : PySem.W.kitOne X.K (.ref C) (.ref D) = some b) (q : Q (.bl b) H) : semC X (.builtin "isinstance") [.ref a, .ref D] H Q := by
  intro pins s σ us I r
  cases r with
  | cons r1 r2 =>
    cases r2 with
    | cons r2 r3 =>
      cases r3
      cases r1
      cases r2
      obtain ⟨oe, od, mA, J, _, _⟩ := err_at I h1 h2
      refine PySem.W.kia_one (PySem.W.kitx_exc (ox := oe) (od := some od) T.hcl T.hga T.hgt T.hsub T.ha T.hn T.ht T.hm) I.kIn J e (fun z => nomatch z) fun tk => ?_
      exact ⟨.bl b, H, I.kept (t' := tk) fun _ _ z => z, rfl, q⟩
/-- what is known of the classes that are told apart -/
structure KindsOk (mg : Str → Option Value) (K : PySem.W.Frag) (xs : List Str) : Prop where
  at_ : ∀ x ∈ xs, mg x = some (.ref (He.ga K x)) ∧ ErrC K (He.ga K x)
  sub : ∀ x ∈ xs, ∀ y ∈ xs, PySem.W.kitOne K (.ref (He.ga K x)) (.ref (He.ga K y)) = some (decide (x = y))
theorem s_isx {a : Expr} {c : Cfg} {x : E} {y nm : Str} {p1 p2 pos : Pos} (T : KindsOk X.mg X.K c.excs) (hy : y ∈ c.excs) (hg : Gl X nm) (hm : X.mg nm = none) (hv : bootBuiltins nm = some (.builtin "isinstance")) (hn : nm ≠ "__name__") (hdb : (nm == ("__debug__" : Str)) = false) (hg2 : Gl X y)
    (hdb2 : (y == ("__debug__" : Str)) = false) (ha : SE X W a (evE c x)) (hs : starEach [a, .Name y p2] X.env = (false, eval a X.env) :: starEach [.Name y p2] X.env) : SE X W (.Call (.Name nm p1) [a, .Name y p2] [] pos) (evE c (.isx x y)) := by
  intro z m ρ S σ H Q s en p
  simp only [evE] at p
  obtain ⟨m1, T1⟩ := T.at_ y hy
  refine semE_of (pe_callB call_sem hg hm hv (pa_cons pe_sem (pa_cons (pe_glob (v := .ref (He.ga X.K y)) hg2 m1 rfl hdb2) pa_nil (by rfl)) hs) hn hdb hs (by rfl)) (ha z m ρ S σ H _ s en (p.bind fun d S1 m1 H1 v st1 s1 r1 p1 => ?_))
  cases d with
  | non =>
    simp only [RE, Rp] at r1
    subst r1
    exact semC_of call_isi ⟨.non, .ref (He.ga X.K y), .type "NoneType", .ref (He.ga X.K y), false, rfl, .own _, .base .non, T1.non, p1.ok s1 Rp.blI⟩
  | err w d =>
    simp only [isxR] at p1
    split at p1
    · rename_i hw
      have hw' : w ∈ c.excs := by simpa using hw
      simp only [RE, Rp] at r1
      obtain ⟨a, dx, fs, u, rfl, _, _, h3, h4, _, _⟩ := r1
      exact sc_isx h3 h4 (T.at_ w hw').2 (T.sub w hw' y hy) (p1.ok s1 Rp.blI)
    · exact p1.elim
  | _ => exact p1.elim
/-- error.value -/
theorem s_val {a : Expr} {c : Cfg} {x : E} {pos : Pos} (T : KindsOk X.mg X.K c.excs) (ha : SE X W a (evE c x)) (hb : attributeBase a "value" X.env (eval a X.env) = eval a X.env) : SE X W (.Attribute a "value" pos) (evE c (.val x)) := by
  intro z m ρ S σ H Q s en p
  simp only [evE] at p
  have k := ha z m ρ S σ H (fun v H1 => ∃ (e C dx : Addr) (fs : List (Str × V)) (u : V), v = .ref e ∧ H1 e = some (ErrO (.ref C) (some dx) e) ∧ H1 dx = some (.xd fs) ∧ ErrC X.K C ∧ fs.lookup ("value" : Str) = some u ∧ Q u H1) s en (p.bind fun d S1 m1 H1 v st1 s1 r1 p1 => ?_)
  · intro pins s0 I
    refine attr_of hb (thn (k pins s0 I) fun u s1 hh => ?_)
    obtain ⟨x, H1, I1, rx, e, C, dx, fs, v, rfl, h1, h2, T1, hl, q⟩ := hh
    cases rx
    obtain ⟨oe, od, mA, J, hlk, hr⟩ := err_at I1 h1 h2
    obtain ⟨w, hw, rw'⟩ := RelO.some_of (v := v) (o := mA "value") (by rw [← hl]; exact hr "value")
    exact HandSPX.exc_get I1.kIn J T1.hga T1.hgt T1.hsub (PySem.W.findObj_own T1.hdict T1.hno rfl (by rw [hlk, hw])) (handed_of rw') ⟨v, H1, I1.tok _, rw', q⟩
  · cases d with
    | err w d =>
      simp only [valR] at p1
      split at p1
      · rename_i hw
        have hw' : w ∈ c.excs := by simpa using hw
        simp only [RE, Rp] at r1
        obtain ⟨a, dx, fs, u, rfl, _, _, h3, h4, h5, h6⟩ := r1
        exact ⟨a, _, dx, fs, u, rfl, h3, h4, (T.at_ w hw').2, h5, p1.ok s1 h6⟩
      · exact p1.elim
    | _ => exact p1.elim
end
end DL
set_option Elab.async false
set_option linter.all false
set_option maxRecDepth 100000
set_option maxHeartbeats 1000000
/-! DL13: looking whether an own tree is the given one -/
namespace DL
open PySem PySem.Spec PyProof.Rows L2
/-- where a piece of code stands: the def's names by place, the scope -/
structure Bx where
  N : List Str
  sc : Scope
  /-- the scope as it is written, where a comprehension's is read anew -/
  raw : Scope
  /-- in a def's own body, where a lambda may be made -/
  lam : Bool := false
def visB (B : Bx) (x : Str) : Bool := match B.sc.names.lookup x with
  | some .local => true
  | some .cell => true
  | some .free => true
  | _ => false
def locB (B : Bx) (x : Str) : Bool := match B.raw.names.lookup x with
  | some .local => true
  | some .cell => true
  | _ => false
def isLocB (B : Bx) (x : Str) : Bool := match B.sc.names.lookup x with
  | some .local => true
  | _ => false
def gloB (B : Bx) (x : Str) : Bool := match B.sc.names.lookup x with
  | some .globalImplicit => true
  | _ => false
def plainName (x : Str) : Bool := !(x == ("__debug__" : Str)) && !(x == ("__classdict__" : Str)) && !decide (x = ("__name__" : Str))
def notStar : Expr → Bool
  | .Starred _ _ => false
  | _ => true
def notComp : Expr → Bool
  | .ListComp _ _ _ _ => false
  | .SetComp _ _ _ _ => false
  | .DictComp _ _ _ _ _ => false
  | _ => true
def notSet : Expr → Bool
  | .Set _ _ _ => false
  | _ => true
def notSlice : Expr → Bool
  | .Slice _ _ _ _ => false
  | _ => true
def notTup : Expr → Bool
  | .Tuple _ _ _ => false
  | .List _ _ => false
  | _ => true
def notSuper : Expr → Bool
  | .Call (.Name _ _) [] [] _ => false
  | _ => true
/-- its test is its value's -/
def plainTest : Expr → Bool
  | .UnaryOp .Not _ _ => false
  | .BoolOp _ _ _ => false
  | .IfExp _ _ _ _ => false
  | .Compare _ _ _ _ => false
  | _ => true
def notIf : Expr → Bool
  | .IfExp _ _ _ _ => false
  | _ => true
theorem star_of {e : Expr} (h : notStar e = true) (es : List Expr) (env : PySem.Env) : starEach (e :: es) env = (false, eval e env) :: starEach es env := by
  cases e <;> first | rfl | cases h
theorem stars_of {pos : Pos} {env : PySem.Env} : ∀ {es : List Expr}, es.all notStar = true → (backTo pos (starEach es env)).any (·.1) = false
  | [], _ => rfl
  | e :: es, h => by
    simp only [List.all_cons, Bool.and_eq_true] at h
    rw [star_of h.1]
    have ih := stars_of (pos := pos) (env := env) h.2
    unfold backTo at ih ⊢
    rw [List.map_cons, List.any_cons, ih]
    rfl
theorem swaps_of {e : Expr} (h : notComp e = true) (t : Option Expr) (l : Nat) (env : PySem.Env) : swapsWith e t l env = pure false := by
  cases e <;> first | rfl | cases h
theorem folded_of {e : Expr} (h : notSet e = true) (env : PySem.Env) (v : Value) : foldedSetIterable e env v = pure v := by
  cases e <;> first | rfl | cases h
theorem behind_of {e : Expr} (h : notSet e = true) (op : CmpOp) : behindInMarks op e = false := by
  cases e <;> first | rfl | cases h
theorem plainIx_of {e : Expr} (h : notSlice e = true) : PlainIx e := by
  intro o i
  cases e <;> first | rfl | cases h
theorem super_of {e : Expr} (h : notSuper e = true) (nm : Str) (env : PySem.Env) : attributeBase e nm env (eval e env) = eval e env := by
  unfold attributeBase
  split
  · cases h
  · rfl
theorem test_of {e : Expr} (h : plainTest e = true) (env : PySem.Env) (whole : Sem Value) : isTrue e env whole = (do let v ← whole; standAt e.pos; holding [v] (truthy v)) := by
  cases e with
  | UnaryOp op _ _ => cases op <;> first | rfl | cases h
  | _ => first | rfl | cases h
def opB : BOp → Operator → Bool
  | .add, .Add => true
  | .sub, .Sub => true
  | .mul, .Mult => true
  | .fdiv, .FloorDiv => true
  | .mod, .Mod => true
  | .pow, .Pow => true
  | _, _ => false
def copB : COp → CmpOp → Bool
  | .eq, .Eq => true
  | .ne, .NotEq => true
  | .lt, .Lt => true
  | .le, .LtE => true
  | .gt, .Gt => true
  | .ge, .GtE => true
  | .isNon, .Is => true
  | .notNon, .IsNot => true
  | .inn, .In => true
  | .notIn, .NotIn => true
  | _, _ => false
def P1.nm : P1 → Str
  | .len => "len" | .abs => "abs" | .int => "int" | .str => "str" | .sum => "sum" | .tuple => "tuple" | .list => "list" | .set => "set" | .sorted => "sorted" | .repr => "repr" | .all => "all" | .any => "any"
/-- the built-ins that are known here -/
def blts : List Str := ["len", "abs", "int", "str", "sum", "tuple", "list", "set", "sorted", "repr", "all", "any", "isinstance", "bool", "max", "min", "range", "enumerate", "zip", "dict"]
def tyNames : List String := ["int", "bool", "str", "tuple", "list"]
def freshE : E → Bool
  | .lst _ => true
  | .prim .list _ => true
  | .rgs t _ => !t
  | .addL _ _ => true
  | .repL _ _ => true
  | .lc _ _ _ _ _ => true
  | _ => false
mutual
def chkG (B : Bx) : Tg → Expr → Bool
  | .name i, e => match e with
    | .Name x _ => decide (B.N[i]? = some x) && locB B x
    | _ => false
  | .tup ts, e => match e with
    | .Tuple es _ _ => chkGs B ts es && es.all notStar
    | _ => false
def chkGs (B : Bx) : List Tg → List Expr → Bool
  | [], es => match es with
    | [] => true
    | _ => false
  | t :: ts, es => match es with
    | e :: es => chkG B t e && chkGs B ts es
    | [] => false
end
def blkOf (B : Bx) (scope : Scope) : Bx := { N := B.N, sc := relS scope B.sc, raw := scope }
def ownOf (B : Bx) (own : List Nat) : List (Str × Nat) := own.map fun i => (B.N.getD i Str.empty, i)
/-- a lambda's body -/
def lamOf (B : Bx) (scope : Scope) : Bx := { N := B.N, sc := scope, raw := scope }
def noArgs : Arguments → Bool
  | ⟨[], [], none, [], [], none, []⟩ => true
  | _ => false
def isNil : E → Bool
  | .nil => true
  | _ => false
mutual
def chkE (Pg : Prg) (B : Bx) : E → Expr → Bool
  | .var i, e => match e with
    | .Name x _ => decide (B.N[i]? = some x) && visB B x && plainName x
    | _ => false
  | .cst d, e => match d, e with
    | .int i, .Constant (.int j) _ _ => decide (i = j)
    | .bl i, .Constant (.bool j) _ _ => decide (i = j)
    | .str i, .Constant (.str j) _ _ => decide (i = j)
    | .non, .Constant .none _ _ => true
    | _, _ => false
  | .glb x, e => match e with
    | .Name y _ => decide (x = y) && gloB B x && plainName x && (Pg.glb x).isSome
    | _ => false
  | .tup xs, e => match e with
    | .Tuple es _ _ => chkL Pg B xs es
    | _ => false
  | .lst xs, e => match e with
    | .List es _ => chkL Pg B xs es
    | _ => false
  | .thaw x, e => freshE x && chkE Pg B x e
  | .bin o x y, e => match e with
    | .BinOp a op b _ => opB o op && chkE Pg B x a && chkE Pg B y b
    | _ => false
  | .addL x y, e => match e with
    | .BinOp a .Add b _ => chkE Pg B x a && chkE Pg B y b
    | _ => false
  | .repL x y, e => match e with
    | .BinOp a .Mult b _ => chkE Pg B x a && chkE Pg B y b
    | _ => false
  | .neg x, e => match e with
    | .UnaryOp .USub a _ => chkE Pg B x a
    | _ => false
  | .not x, e => match e with
    | .UnaryOp .Not a _ => notIf a && chkE Pg B x a
    | _ => false
  | .cmp o x y, e => match e with
    | .Compare a [op] [b] _ => copB o op && notSet b && chkE Pg B x a && chkE Pg B y b
    | _ => false
  | .chain o1 o2 x y w, e => match e with
    | .Compare a [op1, op2] [b, d] _ => copB o1 op1 && copB o2 op2 && notSet d && chkE Pg B x a && chkE Pg B y b && chkE Pg B w d
    | _ => false
  | .and x y, e => match e with
    | .BoolOp .And [a, b] _ => notIf a && notIf b && chkE Pg B x a && chkE Pg B y b
    | .BoolOp .And (a :: b :: d :: r) p => notIf a && chkE Pg B x a && chkE Pg B y (.BoolOp .And (b :: d :: r) p)
    | _ => false
  | .or x y, e => match e with
    | .BoolOp .Or [a, b] _ => notIf a && notIf b && chkE Pg B x a && chkE Pg B y b
    | .BoolOp .Or (a :: b :: d :: r) p => notIf a && chkE Pg B x a && chkE Pg B y (.BoolOp .Or (b :: d :: r) p)
    | _ => false
  | .ite q x y, e => match e with
    | .IfExp d a b _ => notIf d && chkE Pg B q d && chkE Pg B x a && chkE Pg B y b
    | _ => false
  | .call x xs, e => match e with
    | .Call (.Name y _) es [] _ => decide (x = y) && gloB B x && plainName x && (Pg.fns.find? fun f => f.name == x).isSome && es.all notStar && chkL Pg B xs es
    | _ => false
  | .callM x xs, e => match e with
    | .Call (.Name y _) es [] _ => decide (x = y) && gloB B x && plainName x && (Pg.fns.find? fun f => f.name == x).isSome && es.all notStar && chkL Pg B xs es
    | _ => false
  | .prim p x, e => match e with
    | .Call (.Name y _) [a] [] _ => decide (p.nm = y) && gloB B y && notStar a && chkE Pg B x a
    | _ => false
  | .isi x ty, e => match e with
    | .Call (.Name y _) [a, .Name t _] [] _ => decide (y = ("isinstance" : Str)) && decide (t = Str.ofString ty) && decide (ty ∈ tyNames) && gloB B y && gloB B t && notStar a && chkE Pg B x a
    | _ => false
  | .max2 x y, e => match e with
    | .Call (.Name f _) [a, b] [] _ => decide (f = ("max" : Str)) && gloB B f && notStar a && notStar b && chkE Pg B x a && chkE Pg B y b
    | _ => false
  | .min2 x y, e => match e with
    | .Call (.Name f _) [a, b] [] _ => decide (f = ("min" : Str)) && gloB B f && notStar a && notStar b && chkE Pg B x a && chkE Pg B y b
    | _ => false
  | .idx x y, e => match e with
    | .Subscript a i _ => notSlice i && chkE Pg B x a && chkE Pg B y i
    | _ => false
  | .sl x y w, e => match e with
    | .Subscript a (.Slice lo hi none _) _ => chkE Pg B x a && (match lo with | none => isNil y | some e => chkE Pg B y e) && (match hi with | none => isNil w | some e => chkE Pg B w e)
    | _ => false
  | .rev x, e => match e with
    | .Subscript a (.Slice none none (some (.UnaryOp .USub (.Constant (.int 1) _ _) _)) _) _ => chkE Pg B x a
    | _ => false
  | .rgs t it, e => match e with
    | .Call (.Name f _) [.Call (.Name g _) [a] [] _] [] _ => decide (f = (if t then ("tuple" : Str) else ("list" : Str))) && decide (g = ("range" : Str)) && gloB B f && gloB B g && notStar a && (match it with
      | .irange1 x => chkE Pg B x a
      | _ => false)
    | .Call (.Name f _) [.Call (.Name g _) [a, b] [] _] [] _ => decide (f = (if t then ("tuple" : Str) else ("list" : Str))) && decide (g = ("range" : Str)) && gloB B f && gloB B g && notStar a && notStar b && (match it with
      | .irange2 x y => chkE Pg B x a && chkE Pg B y b
      | _ => false)
    | _ => false
  | .upper x, e => match e with
    | .Call (.Attribute a nm p1) [] [] p2 => decide (nm = ("upper" : Str)) && notSuper a && (p1.endLine == p2.line) && chkE Pg B x a
    | _ => false
  | .lc x t own it ifs, e => match e with
    | .ListComp elt [⟨tg, iter, fs, 0⟩] scope _ => blkC B.N B.sc scope (ownOf B own) && notSet iter && (t.names.all fun i => own.contains i) && chkI Pg B it tg iter && chkG (blkOf B scope) t tg && chkE Pg (blkOf B scope) x elt && chkC Pg (blkOf B scope) ifs fs
    | _ => false
  | .fnv x, e => match e with
    | .Name y _ => decide (x = y) && gloB B x && plainName x && (Pg.fns.find? fun f => f.name == x).isSome
    | _ => false
  | .callV i fs xs, e => match e with
    | .Call (.Name y _) (a :: es) [] _ => decide (B.N[i]? = some y) && visB B y && plainName y && (fs.all fun x => (Pg.fns.find? fun f => f.name == x).isSome) && notStar a && es.all notStar && chkL Pg B xs (a :: es)
    | _ => false
  | .heard x, e => match e with
    | .Call (.Name y _) [.Lambda params body scope _] [] _ => decide (y = ("_law_heard" : Str)) && gloB B y && B.lam && Pg.heard && noArgs params && LamX.lamSB B.sc scope && chkE Pg (lamOf B scope) x body
    | _ => false
  | .isx x y, e => match e with
    | .Call (.Name f _) [a, .Name t _] [] _ => decide (f = ("isinstance" : Str)) && decide (t = y) && Pg.excs.contains y && Pg.heard && gloB B f && gloB B t && plainName y && notStar a && chkE Pg B x a
    | _ => false
  | .val x, e => match e with
    | .Attribute a nm _ => decide (nm = ("value" : Str)) && Pg.heard && notSuper a && chkE Pg B x a
    | _ => false
  | _, _ => false
def chkL (Pg : Prg) (B : Bx) : List E → List Expr → Bool
  | [], es => match es with
    | [] => true
    | _ => false
  | x :: xs, es => match es with
    | e :: es => (match x, e with
      | .star y, .Starred a _ => chkE Pg B y a
      | y, a => notStar a && chkE Pg B y a) && chkL Pg B xs es
    | [] => false
def chkC (Pg : Prg) (B : Bx) : List E → List Expr → Bool
  | [], es => match es with
    | [] => true
    | _ => false
  | x :: xs, es => match xs, es with
    | [], [e] => notIf e && chkE Pg B x e
    | _, _ => false
def chkI (Pg : Prg) (B : Bx) : E → Expr → Expr → Bool
  | .iseq x, _, e => chkE Pg B x e
  | .irange1 x, _, e => match e with
    | .Call (.Name f _) [a] [] _ => decide (f = ("range" : Str)) && gloB B f && notStar a && chkE Pg B x a
    | _ => false
  | .irange2 x y, _, e => match e with
    | .Call (.Name f _) [a, b] [] _ => decide (f = ("range" : Str)) && gloB B f && notStar a && notStar b && chkE Pg B x a && chkE Pg B y b
    | _ => false
  | .ienum x, tg, e => match tg, e with
    | .Tuple _ _ _, .Call (.Name f _) [a] [] _ => decide (f = ("enumerate" : Str)) && gloB B f && notStar a && chkE Pg B x a
    | _, _ => false
  | .izip x y, tg, e => match tg, e with
    | .Tuple _ _ _, .Call (.Name f _) [a, b] [] _ => decide (f = ("zip" : Str)) && gloB B f && notStar a && notStar b && chkE Pg B x a && chkE Pg B y b
    | _, _ => false
  | _, _, _ => false
end
def chkO (Pg : Prg) (B : Bx) (x : E) (o : Option Expr) : Bool := match o with
  | none => isNil x
  | some e => chkE Pg B x e
end DL
set_option Elab.async false
set_option linter.all false
set_option maxRecDepth 100000
set_option maxHeartbeats 1000000
namespace DL
open PySem PySem.Spec PyProof.Rows L2
mutual
theorem noDict : ∀ {d : D}, d.pure = true → d.toP.hasDict = false
  | .non, _ => by simp only [D.toP, PyData.hasDict]
  | .bl _, _ => by simp only [D.toP, PyData.hasDict]
  | .int _, _ => by simp only [D.toP, PyData.hasDict]
  | .str _, _ => by simp only [D.toP, PyData.hasDict]
  | .tup xs, h => by simp only [D.toP, PyData.hasDict]; exact noDictL (by simpa only [D.pure] using h)
  | .lst xs, h => by simp only [D.toP, PyData.hasDict]; exact noDictL (by simpa only [D.pure] using h)
theorem noDictL : ∀ {ds : List D}, pureL ds = true → PyData.hasDictAll (toPL ds) = false
  | [], _ => by simp only [toPL, PyData.hasDictAll]
  | d :: ds, h => by
    simp only [pureL, Bool.and_eq_true] at h
    simp only [toPL, PyData.hasDictAll, noDict h.1, noDictL h.2, Bool.or_self]
end
section
variable {X : Cx} {W : WX} {a : Expr} {c : Cfg} {x : E}
theorem sc_repr (hu : X.A.units + 100 < cLine) (hgd : X.A.guards = some []) : SC1 X (.builtin "repr") (p1 .repr) := by
  intro z W m S σ H d v Q s r p
  simp only [DL.p1] at p
  split at p
  · rename_i e h1
    split at p
    · rename_i t h2
      obtain ⟨hp, dp⟩ := see_at s r h1
      have q := p.ok s (Rp.strI (i := t))
      unfold textD at h2
      split at h2
      · rename_i h3
        cases h2
        simp only [Bool.and_eq_true, decide_eq_true_eq] at h3
        obtain ⟨⟨⟨h4, h5⟩, h6⟩, h7⟩ := h3
        have hdep := okP_depth h6
        intro pins s1 σ' us I rx
        obtain ⟨u, rfl, rv⟩ := vals1 rx
        have fin : ∀ {h' : Heap} {tk u' : Nat}, (∀ b o, s1.heap.get? b = some o → h'.get? b = some o) → EP X pins σ' Q (.str e.toP.shown u') { s1 with heap := h', toks := tk } := fun {h' tk u'} hk =>
          ⟨.str e.toP.shown, H, I.kept (t' := tk) hk, ⟨u', rfl⟩, q⟩
        obtain ⟨as, rd⟩ := Dp.reads I _ _ _ dp rv
        have hnd := PyData.noDict_hsm (as := as) (noDict hp)
        cases e with
        | non =>
          simp only [D.toP] at dp
          cases dp
          cases rv
          exact PySem.P.repr_of_none (fin fun _ _ h => h)
        | bl b =>
          simp only [D.toP] at dp
          cases dp
          cases rv
          exact PySem.P.repr_of_bool (fin fun _ _ h => h)
        | int i =>
          simp only [D.toP] at dp h5
          cases dp
          obtain ⟨t, rfl⟩ := rv
          simp only [PyData.showable, decide_eq_true_eq] at h5
          exact PySem.P.repr_of_int h5 (fin fun _ _ h => h)
        | str y =>
          simp only [D.toP] at dp h7
          cases dp
          obtain ⟨t, rfl⟩ := rv
          exact PySem.P.repr_of_str (fin fun _ _ h => h) h7
        | tup xs =>
          cases dp with
          | tup d1 d2 =>
            cases rv
            exact repr_of_reads' rd h5 hnd hgd (by omega) (fun _ _ h => h) (fun h' u' tk hk => fin hk) h7
        | lst xs =>
          cases dp with
          | lst d1 d2 =>
            cases rv
            exact repr_of_reads' rd h5 hnd hgd (by omega) (fun _ _ h => h) (fun h' u' tk hk => fin hk) h7
        | _ => simp [D.pure] at hp
      · cases h2
    · exact p.elim
  · exact p.elim
end
end DL
set_option Elab.async false
set_option linter.all false
set_option maxRecDepth 100000
set_option maxHeartbeats 1000000
/-! DLp2: in, not in -/
namespace DL
open PySem PySem.Spec PyProof.Rows L2
section
variable {X : Cx} {W : WX} {a : Expr} {c : Cfg} {x : E}
theorem okP_lay {d : D} (h : okP d = true) : d.toP.canLay0 = true := by
  simp only [okP, Bool.and_eq_true] at h
  exact h.1
theorem any_toP (xs : List D) (d : D) : ((toPL xs).any fun y => PyData.eqv y d.toP) = xs.any fun y => eqD y d := by
  rw [toPL_eq, List.any_map]
  rfl
theorem so_inn (hu : X.A.units + 100 < cLine) : SO X (compareOp .In) (copD .inn) := by
  intro z W m S σ H x y v u Q s rx ry p
  obtain ⟨k, e⟩ := copD_some p
  have q := p.blD s e
  simp only [cop] at e
  split at e
  · rename_i xs e1
    split at e
    · rename_i h
      cases e
      simp only [Bool.and_eq_true] at h
      obtain ⟨q1, vs, rfl, h1, h2⟩ := seqOf_at s ry e1
      have l1 := okP_lay h.1.2
      have l2 : PyData.canLayAll0 (toPL xs) = true := okP_lay (d := .tup xs) h.2
      have dd := okP_depth h.1.2
      intro pins s1 σ' v' u' I rv ru
      obtain ⟨bs, r2⟩ := Dp.reads I _ _ _ (dp_of (k := kt X z) h.1.1.1 rx) rv
      have da : DpAll X.K H vs (toPL xs) := dpAll_of (k := kt X z) h.1.1.2 h2
      have fin : EP X pins σ' Q (.bool ((toPL xs).any fun y => PyData.eqv y x.toP)) s1 := ⟨.bl _, H, I, rfl, by rw [any_toP]; exact q⟩
      rcases h1 with h1 | h1
      · obtain ⟨as, r1⟩ := Dp.reads I (.list (toPL xs)) _ _ (.lst h1 da) ru
        exact SeqAt.in_list_reads r1 r2 l2 l1 (by omega) fin
      · obtain ⟨as, r1⟩ := Dp.reads I (.tuple (toPL xs)) _ _ (.tup h1 da) ru
        exact SeqAt.in_tuple_reads r1 r2 l2 l1 (by omega) fin
    · cases e
  · cases e
theorem so_notIn (hu : X.A.units + 100 < cLine) : SO X (compareOp .NotIn) (copD .notIn) := by
  intro z W m S σ H x y v u Q s rx ry p
  obtain ⟨k, e⟩ := copD_some p
  have q := p.blD s e
  simp only [cop] at e
  split at e
  · rename_i xs e1
    split at e
    · rename_i h
      cases e
      simp only [Bool.and_eq_true] at h
      obtain ⟨q1, vs, rfl, h1, h2⟩ := seqOf_at s ry e1
      have l1 := okP_lay h.1.2
      have l2 : PyData.canLayAll0 (toPL xs) = true := okP_lay (d := .tup xs) h.2
      have dd := okP_depth h.1.2
      intro pins s1 σ' v' u' I rv ru
      obtain ⟨bs, r2⟩ := Dp.reads I _ _ _ (dp_of (k := kt X z) h.1.1.1 rx) rv
      have da : DpAll X.K H vs (toPL xs) := dpAll_of (k := kt X z) h.1.1.2 h2
      have fin : EP X pins σ' Q (.bool (!(toPL xs).any fun y => PyData.eqv y x.toP)) s1 := ⟨.bl _, H, I, rfl, by rw [any_toP]; exact q⟩
      rcases h1 with h1 | h1
      · obtain ⟨as, r1⟩ := Dp.reads I (.list (toPL xs)) _ _ (.lst h1 da) ru
        exact SeqAt.notIn_list_reads r1 r2 l2 l1 (by omega) fin
      · obtain ⟨as, r1⟩ := Dp.reads I (.tuple (toPL xs)) _ _ (.tup h1 da) ru
        exact SeqAt.notIn_tuple_reads r1 r2 l2 l1 (by omega) fin
    · cases e
  · cases e
end
end DL
set_option Elab.async false
set_option linter.all false
set_option maxRecDepth 100000
set_option maxHeartbeats 4000000
/-! DLk: equal keys -/
namespace DL
open PySem PySem.Spec PyProof.Rows L2
mutual
theorem eqD_key : ∀ (x y : D), x.keyable = true → y.keyable = true → (PyData.eqv x.toP y.toP = true ↔ x = y)
  | .int i, .int j, _, _ => by simp [D.toP, PyData.eqv]
  | .int i, .tup ys, _, _ => by simp [D.toP, PyData.eqv]
  | .tup xs, .int j, _, _ => by simp [D.toP, PyData.eqv]
  | .tup xs, .tup ys, hx, hy => by
    simp only [D.toP, PyData.eqv, D.tup.injEq]
    exact eqDL_key xs ys (by simpa only [D.keyable] using hx) (by simpa only [D.keyable] using hy)
theorem eqDL_key : ∀ (xs ys : List D), keyableL xs = true → keyableL ys = true → (PyData.eqvAll (toPL xs) (toPL ys) = true ↔ xs = ys)
  | [], [], _, _ => by simp [toPL, PyData.eqvAll]
  | [], _ :: _, _, _ => by simp [toPL, PyData.eqvAll]
  | _ :: _, [], _, _ => by simp [toPL, PyData.eqvAll]
  | x :: xs, y :: ys, hx, hy => by
    simp only [keyableL, Bool.and_eq_true] at hx hy
    simp only [toPL, PyData.eqvAll, Bool.and_eq_true, List.cons.injEq, eqD_key x y hx.1 hy.1, eqDL_key xs ys hx.2 hy.2]
end
end DL
set_option Elab.async false
set_option linter.all false
set_option maxRecDepth 100000
set_option maxHeartbeats 1000000
/-! DLo: the order of data -/
namespace DL
open PySem PySem.Spec PyProof.Rows L2
theorem lt_eqv {x y : PyData} (h : PySem.W.alike x y = true) (h1 : PySem.W.dataLt x y = false) (h2 : PySem.W.dataLt y x = false) : PyData.eqv x y = true := by
  cases e : PyData.eqv x y with
  | true => rfl
  | false =>
    exfalso
    have ht := PySem.W.toks_eqv x y h
    have hk : PySem.W.keyToks x = PySem.W.keyToks y := PyProof.Rows.lex_total (O := itemOrd) _ _ h1 h2
    have := ht.2 e [] [.inl 0]
    rw [hk, List.append_nil] at this
    have h3 : PyProof.Rows.lexLt itemOrd (PySem.W.keyToks y) (PySem.W.keyToks y ++ [.inl 0]) = true := by
      have e2 : ∀ l : List (Int ⊕ List Nat), PyProof.Rows.lexLt itemOrd l (l ++ [.inl 0]) = true := by
        intro l
        induction l with
        | nil => rfl
        | cons a l ih => exact (PyProof.Rows.lex_self (O := itemOrd) a l _).trans ih
      exact e2 _
    rw [h3] at this
    have h4 : PyProof.Rows.lexLt itemOrd (PySem.W.keyToks y) (PySem.W.keyToks y) = false := PyProof.Rows.lex_irrefl (O := itemOrd) _
    rw [h4] at this
    cases this
theorem ltD_irrefl (x : D) : ltD x x = false := PyProof.Rows.lex_irrefl (O := itemOrd) _
theorem ltD_trans {x y z : D} (h : ltD x y = true) (h' : ltD y z = true) : ltD x z = true := PyProof.Rows.lex_trans (O := itemOrd) _ _ _ h h'
theorem ltD_neg {x y z : D} (h : ltD x z = true) : ltD x y = true ∨ ltD y z = true := PyProof.Rows.lex_negTrans (O := itemOrd) _ _ _ h
theorem ltD_key {x y : D} (hx : x.keyable = true) (hy : y.keyable = true) (ha : alikeD x y = true) (h1 : ltD x y = false) (h2 : ltD y x = false) : x = y :=
  (eqD_key x y hx hy).mp (lt_eqv ha h1 h2)
theorem dle_eq (x y : D) : PySem.W.dataLe false D.toP x y = !ltD y x := rfl
theorem dle_trans (a b c : D) (h1 : PySem.W.dataLe false D.toP a b = true) (h2 : PySem.W.dataLe false D.toP b c = true) : PySem.W.dataLe false D.toP a c = true := by
  simp only [dle_eq, Bool.not_eq_true'] at *
  cases e : ltD c a with
  | false => rfl
  | true =>
    rcases ltD_neg (y := b) e with h | h
    · rw [h] at h2; cases h2
    · rw [h] at h1; cases h1
theorem dle_total (a b : D) : (PySem.W.dataLe false D.toP a b || PySem.W.dataLe false D.toP b a) = true := by
  simp only [dle_eq]
  cases e : ltD b a with
  | false => rfl
  | true =>
    cases e2 : ltD a b with
    | false => rfl
    | true =>
      have := ltD_trans e e2
      rw [ltD_irrefl] at this
      cases this
theorem insD_at {x : D} : ∀ {l1 l2 : List D}, (∀ b ∈ l1, ltD b x = true) → (∀ b ∈ l2, ltD b x = false) → insD x (l1 ++ l2) = l1 ++ x :: l2
  | [], [], _, _ => rfl
  | [], y :: l2, _, h => by
    have := h y (List.mem_cons_self ..)
    simp only [List.nil_append, insD, this, Bool.false_eq_true, if_false]
  | y :: l1, l2, h, h2 => by
    have := h y (List.mem_cons_self ..)
    simp only [List.cons_append, insD, this, if_true]
    rw [insD_at (fun b hb => h b (List.mem_cons_of_mem _ hb)) h2]
theorem sortD_ms : ∀ xs : List D, sortD xs = xs.mergeSort (PySem.W.dataLe false D.toP)
  | [] => by simp [sortD]
  | x :: xs => by
    obtain ⟨l1, l2, e1, e2, h⟩ := List.mergeSort_cons (le := PySem.W.dataLe false D.toP) dle_trans dle_total x xs
    have hp := List.pairwise_mergeSort (le := PySem.W.dataLe false D.toP) dle_trans dle_total (x :: xs)
    rw [e1] at hp ⊢
    rw [sortD, sortD_ms xs, e2]
    refine insD_at (fun b hb => ?_) (fun b hb => ?_)
    · have := h b hb
      simpa only [dle_eq, Bool.not_not, Bool.not_eq_true', Bool.not_eq_false'] using this
    · have := (List.pairwise_cons.mp (List.pairwise_append.mp hp).2.1).1 b hb
      simpa only [dle_eq, Bool.not_eq_true'] using this
theorem sortD_pairwise (xs : List D) : (sortD xs).Pairwise fun a b => ltD b a = false := by
  have := List.pairwise_mergeSort (le := fun a b => PySem.W.dataLe false D.toP a b) dle_trans dle_total xs
  rw [sortD_ms]
  refine this.imp fun h => ?_
  simpa only [dle_eq, Bool.not_eq_true'] using h
theorem sortD_perm (xs : List D) : (sortD xs).Perm xs := by rw [sortD_ms]; exact List.mergeSort_perm _ _
theorem sortD_eq {xs ys : List D} (h : xs.Perm ys) (hk : ∀ x ∈ xs, x.keyable = true) (ha : ∀ x ∈ xs, ∀ y ∈ xs, alikeD x y = true) : sortD xs = sortD ys := by
  refine List.Perm.eq_of_pairwise (le := fun a b => ltD b a = false) (fun a b h1 h2 h3 h4 => ?_) (sortD_pairwise xs) (sortD_pairwise ys) ((sortD_perm xs).trans (h.trans (sortD_perm ys).symm))
  have m1 : a ∈ xs := (sortD_perm xs).mem_iff.mp h1
  have m2 : b ∈ xs := h.mem_iff.mpr ((sortD_perm ys).mem_iff.mp h2)
  exact ltD_key (hk a m1) (hk b m2) (ha a m1 b m2) h4 h3
end DL
set_option Elab.async false
set_option linter.all false
set_option maxRecDepth 100000
set_option maxHeartbeats 1000000
/-! DLp3: sorted(a list) -/
namespace DL
open PySem PySem.Spec PyProof.Rows L2
section
variable {X : Cx} {W : WX} {a : Expr} {c : Cfg} {x : E}
theorem each_of {k : Kt} {m : List Addr} {H : Hp} : ∀ {ds : List D} {vs : List V} {us : List Value}, RpL k m H ds vs → Vals vs us → PySem.W.EachIs (fun u d => ∃ v, RelV v u ∧ Rp k m H d v) us ds
  | [], vs, us, h, r => by simp only [RpL] at h; subst h; cases r; exact .nil
  | d :: ds, vs, us, h, r => by
    simp only [RpL] at h
    obtain ⟨v, vs, rfl, h1, h2⟩ := h
    cases r with
    | cons r1 r2 => exact .cons ⟨v, r1, h1⟩ (each_of h2 r2)
theorem of_each {k : Kt} {m : List Addr} {H : Hp} : ∀ {us : List Value} {ds : List D}, PySem.W.EachIs (fun u d => ∃ v, RelV v u ∧ Rp k m H d v) us ds → ∃ vs, Vals vs us ∧ RpL k m H ds vs
  | _, _, .nil => ⟨[], .nil, RpL.nil⟩
  | _, _, .cons ⟨v, r, h⟩ e => by
    obtain ⟨vs, h1, h2⟩ := of_each e
    exact ⟨v :: vs, .cons r h1, RpL.cons h h2⟩
theorem depth_in : ∀ {xs : List D} {d : D}, d ∈ xs → d.toP.depth ≤ PyData.depthAll (toPL xs)
  | x :: xs, d, h => by
    simp only [toPL, PyData.depthAll]
    rcases List.mem_cons.mp h with rfl | h
    · exact Nat.le_max_left _ _
    · exact Nat.le_trans (depth_in h) (Nat.le_max_right _ _)
theorem pure_in {xs : List D} (h : pureL xs = true) {d : D} (hd : d ∈ xs) : d.pure = true := by
  rw [pureL_eq] at h
  exact List.all_eq_true.mp h d hd
theorem sortable_ok {xs : List D} (h : sortable xs = true) : PySem.W.AllAlike (xs.map D.toP) ∧ PySem.W.Sortable (xs.map D.toP) := by
  simp only [sortable, Bool.and_eq_true, Bool.or_eq_true] at h
  obtain ⟨h1, h2⟩ := h
  constructor
  · intro d hd e he
    obtain ⟨x, hx, rfl⟩ := List.mem_map.mp hd
    obtain ⟨y, hy, rfl⟩ := List.mem_map.mp he
    exact List.all_eq_true.mp (List.all_eq_true.mp h1 x hx) y hy
  · rcases h2 with h2 | h2
    · left
      intro d hd
      obtain ⟨x, hx, rfl⟩ := List.mem_map.mp hd
      have := List.all_eq_true.mp h2 x hx
      cases x with
      | tup l =>
        cases l with
        | nil => cases this
        | cons y r => exact ⟨y.toP, toPL r, by simp only [D.toP, toPL]⟩
      | _ => cases this
    · right
      intro d hd
      obtain ⟨x, hx, rfl⟩ := List.mem_map.mp hd
      have := List.all_eq_true.mp h2 x hx
      cases x <;> first | (cases this; done) | exact ⟨by simp [D.toP], by intro xs; simp [D.toP]⟩
theorem sorted_lst (hu : X.A.units + 100 < cLine) {z m : List Addr} {S : Sto} {σ : L2.St} {H : Hp} {d : D} {v : V} {xs : List D} {Q : VK} (s : Sim (kt X z) m S H) (r : Rp (kt X z) m H d v) (e : listOf S d = some xs) (hp : pureL xs = true) (hs : sortable xs = true) (ho : okP (.tup xs) = true)
    (p : PostE X z W σ m H (.ok (.lst (sortD xs)) S) Q) : semC X (.builtin "sorted") [v] H Q := by
  rw [sortD_ms] at p
  obtain ⟨q, vs, rfl, h1, h2⟩ := listOf_at s r e
  obtain ⟨hal, hso⟩ := sortable_ok hs
  have hdep := okP_depth ho
  intro pins s1 σ' us I rx
  obtain ⟨u, rfl, rv⟩ := vals1 rx
  cases rv
  obtain ⟨its, rits, pl, hlen⟩ := I.list (SqL.of h1)
  have ev := each_of h2 rits
  have er : PySem.W.EachIs (fun u d => ∃ as, Reads s1.heap u (D.toP d) as) its xs := by
    have : ∀ {us : List Value} {ds : List D}, pureL ds = true → PySem.W.EachIs (fun u d => ∃ v, RelV v u ∧ Rp (kt X z) m H d v) us ds → PySem.W.EachIs (fun u d => ∃ as, Reads s1.heap u (D.toP d) as) us ds := by
      intro us ds hp h
      induction h with
      | nil => exact .nil
      | cons h t ih =>
        simp only [pureL, Bool.and_eq_true] at hp
        obtain ⟨v, h3, h4⟩ := h
        exact .cons (Dp.reads I _ _ _ (dp_of (k := kt X z) hp.1 h4) h3) (ih hp.2)
    exact this hp ev
  refine PySem.W.sorted_data pl.isList ev er hal hso (by rw [← ev.length]; simpa [rits.length] using hlen) (fun d hd => ?_) fun out hl eo => ?_
  · have h3 := depth_in hd
    have h4 : (D.tup xs).toP.depth = PyData.depthAll (toPL xs) + 1 := by simp only [D.toP, PyData.depth]
    omega
  · obtain ⟨ys, hv, hr⟩ := of_each eo
    obtain ⟨cc, hc⟩ := PyProof.Rows.sortedAll_at s1.heap its out.toArray
    have hn : H (s1.heap.objs.size + 1) = none := I.hok.fresh (Nat.le_succ _)
    have hz : ys.length ≤ sizeLine := by
      rw [hv.length, hl, ← ev.length]
      simpa [rits.length] using hlen
    refine ⟨.ref (s1.heap.objs.size + 1), upd H (s1.heap.objs.size + 1) (.lst ys), I.laid (t' := s1.toks) (fun b o h => PyProof.Rows.sortedAll_old h) (Nat.le_succ _) ⟨hz, out, cc, hv, hc⟩, rfl, p.aside s hn (Rp.newLst s hn hr)⟩
end
end DL
set_option Elab.async false
set_option linter.all false
set_option maxRecDepth 100000
set_option maxHeartbeats 1000000
/-! DLp4: x[::-1] -/
namespace DL
open PySem PySem.Spec PyProof.Rows L2
section
variable {prog : Program} {w : World} {A : Around} {E : Value → Shared → Prop} {s : Shared}
theorem slice_rev {sl : Addr} {n : Nat} {t : Tok} {Q : Int × Int × Nat → Shared → Prop} (hs : s.heap.IsSliceOf sl .none .none (.int (-1) t)) (h : Q ((n : Int) - 1, -1, n) s) : wpAny (model prog w) A (Builtin.Slice.sliceApplied (.ref sl) (pure (n : Int))) Q E s := by
  obtain ⟨o, ho, hc, hd⟩ := hs
  unfold Builtin.Slice.sliceApplied Builtin.Slice.sliceFields
  refine wpAny_bind (wpAny_bind (wpAny_field ho hd (x := .none) rfl (wpAny_bind (wpAny_field ho hd (x := .none) rfl (wpAny_bind (wpAny_field ho hd (x := .int (-1) t) rfl (wpAny_pure ?_)))))))
  refine wpAny_bind (HT.slicePart_ (o := some (-1)) (.int (-1) t) ?_)
  show wpAny _ _ (if ((-1 : Int) == 0) = true then _ else _) _ _ s
  rw [if_neg (by decide)]
  refine wpAny_bind (HT.slicePart_ .none (wpAny_bind (HT.slicePart_ .none (wpAny_bind (wpAny_pure ?_)))))
  have e1 : Builtin.Slice.sliceAdjust none none (-1) (n : Int) = ((n : Int) - 1, -1) := rfl
  show wpAny _ _ (match Builtin.Slice.sliceAdjust none none (-1) (n : Int) with | (lo, hi) => pure (lo, (-1 : Int), Builtin.Slice.slicePlaces lo hi (-1))) _ _ s
  rw [e1]
  have e2 : Builtin.Slice.slicePlaces ((n : Int) - 1) (-1) (-1) = n := by
    unfold Builtin.Slice.slicePlaces
    rw [if_neg (by decide)]
    split
    · have : ((n : Int) - 1 - -1 - 1) / (- -1) + 1 = (n : Int) := by
        rw [show (- -1 : Int) = 1 from rfl, Int.ediv_one]
        omega
      rw [this]
      rfl
    · omega
  show wpAny _ _ (pure ((n : Int) - 1, (-1 : Int), Builtin.Slice.slicePlaces ((n : Int) - 1) (-1) (-1))) _ _ s
  rw [e2]
  exact wpAny_pure h
theorem fm_congr {α β : Type} {f g : α → Option β} : ∀ {l : List α}, (∀ k ∈ l, f k = g k) → l.filterMap f = l.filterMap g
  | [], _ => rfl
  | x :: l, h => by
    rw [List.filterMap_cons, List.filterMap_cons, h x (List.mem_cons_self ..), fm_congr fun k hk => h k (List.mem_cons_of_mem _ hk)]
theorem fm_all {α : Type} : ∀ (l : List α), (List.range l.length).filterMap (fun k => l[k]?) = l
  | [] => rfl
  | x :: l => by
    rw [List.length_cons, List.range_succ_eq_map, List.filterMap_cons, List.filterMap_map]
    show x :: List.filterMap (fun k => l[k]?) (List.range l.length) = x :: l
    rw [fm_all l]
theorem pick_rev (xs : Array Value) : ((List.range xs.size).filterMap fun (k : Nat) => xs[(((xs.size : Nat) : Int) - 1 + (k : Int) * -1).toNat]?).toArray = xs.toList.reverse.toArray := by
  congr 1
  have e : ∀ k ∈ List.range xs.size, xs[(((xs.size : Nat) : Int) - 1 + (k : Int) * -1).toNat]? = xs.toList.reverse[k]? := by
    intro k hk
    have hk' : k < xs.size := List.mem_range.mp hk
    have : (((xs.size : Nat) : Int) - 1 + (k : Int) * -1).toNat = xs.size - 1 - k := by omega
    rw [this, List.getElem?_reverse (by simpa using hk')]
    simp
  rw [fm_congr e]
  have := fm_all xs.toList.reverse
  rw [List.length_reverse, Array.length_toList] at this
  exact this
theorem getItem_rev {t sl : Addr} {items : Array Value} {k : Tok} {Q : Value → Shared → Prop} (ht : IsTup s.heap t items) (hs : s.heap.IsSliceOf sl .none .none (.int (-1) k)) (hz : items.size ≤ sizeLine)
    (h : Q (.ref s.heap.objs.size) { s with heap := s.heap.push { cls := .type "tuple", data := .seq items.toList.reverse.toArray } }) : wpAny (model prog w) A (getItem (.ref t) (.ref sl)) Q E s := by
  obtain ⟨o, ho, hc, hd⟩ := id hs
  have hT : s.TypeIs (.ref sl) "slice" := ⟨o, ho, hc⟩
  unfold getItem
  try with_reducible refine wpAny_holding ?_
  try refine wpAny_bind (wpAny_pure ?_)
  refine wpAny_bind (wpAny_sequenceKey ht.typeIs (by decide) (wpAny_bind (wpAny_callSpecial?_slot (name := Str.ofString "__getitem__") ht.typeIs PyProof.Rows.slot_tuple_getitem (wpAny_call_entry PyProof.Rows.slot_tuple_getitem ht.typeIs entry_tuple_getitem ?_ (args_tuple_getitem _ _)))))
  show wpAny _ _ (Builtin.Tuple.tupleItemsOf (.ref t) >>= _) _ _ s
  refine wpAny_bind (tupleItemsOf_ ht (wpAny_bind (wpAny_typeOf hT ?_)))
  rw [if_pos (by decide)]
  refine wpAny_bind (slice_rev hs ?_)
  show wpAny _ _ (if (((items.size : Int) - 1) == 0 && (-1 : Int) == 1 && items.size == items.size) = true then _ else _) _ _ s
  rw [if_neg (by simp), pick_rev]
  have hk : sizeOk (.seq items.toList.reverse.toArray) := by
    show items.toList.reverse.toArray.size ≤ sizeLine
    simpa using hz
  first
    | exact wpAny_bind (m := Builtin.Tuple.tupleExact _) (wpAny_newObj_type (wpAny_pure ⟨_, rfl, wpAny_pure h⟩) hk)
    | exact wpAny_bind (m := Builtin.Tuple.tupleExact _) (wpAny_newObj_type (wpAny_bind (wpAny_pure (wpAny_pure ⟨_, rfl, wpAny_pure h⟩))) hk)
    | exact wpAny_bind (wpAny_bind (m := Builtin.Tuple.tupleExact _) (wpAny_newObj_type (wpAny_pure ⟨_, rfl, wpAny_pure h⟩) hk))
end
section
variable {X : Cx} {W : WX} {e : Expr} {c : Cfg} {x : E}
/-- t[::-1] -/
theorem pe_revT {te : TE} {k : Nat} {p1 p2 p3 pos : Pos} (he : PE X e te) : PE X (.Subscript e (.Slice none none (some (.UnaryOp .USub (.Constant (.int 1) k p1) p2)) p3) pos)
    (fun σ H Q => te σ H fun v H1 => ∃ a vs, v = .ref a ∧ SqT X.K H1 a vs ∧ ∀ p, H1 p = none → Q (.ref p) (upd H1 p (.tup vs.reverse))) := by
  constructor
  intro pins s σ H Q I h
  refine Subscript_ (thn (he.run pins s σ H _ I h) fun u1 s1 ⟨v, H1, I1, r1, a, vs, ev, hx, q⟩ => ?_)
  subst ev
  cases r1
  have hst : PO X (some (.UnaryOp .USub (.Constant (.int 1) k p1) p2)) (tPart (tUn (rU fun i => .int (-i)) (tC (.int 1)))) := po_some (pe_un un_neg pe_int)
  refine wpAny_Slice (thn (po_none.run pins s1 σ H1 (fun o H2 => o = none ∧ H2 = H1) I1 ⟨rfl, rfl⟩) fun g1 s2 ⟨o1, H2, I2, d1, b1, c1⟩ => thn (po_none.run pins s2 σ H2 (fun o H3 => o = none ∧ H3 = H2) I2 ⟨rfl, rfl⟩) fun g2 s3 ⟨o2, H3, I3, d2, b2, c2⟩ => ?_)
  subst b1 c1 b2 c2
  refine thn (hst.run pins s3 σ H3 (fun o H4 => o = some (-1) ∧ H4 = H3) I3 ⟨1, rfl, -1, rfl, rfl, rfl⟩) fun g3 s4 ⟨o3, H4, I4, d3, b3, c3⟩ => ?_
  subst b3 c3
  cases d1; cases d2
  cases d3 with
  | int _ tk =>
  have J : Inv X pins σ H4 { s4 with heap := s4.heap.push { cls := .type "slice", data := .fields #[.none, .none, .int (-1) tk] } } := I4.kept (t' := s4.toks) fun b o q => Heap.get?_push_of_some _ q
  obtain ⟨us, rv, pl, hz⟩ := J.tuple hx
  have tup : IsTup (s4.heap.push { cls := .type "slice", data := .fields #[.none, .none, .int (-1) tk] }) a us.toArray := pl
  have hlen := rv.length
  show wpAny (model X.prog X.w) X.A (subscriptTail e (.Slice none none (some (.UnaryOp .USub (.Constant (.int 1) k p1) p2)) p3) (.ref a) (.ref s4.heap.objs.size)) _ _ { s4 with heap := s4.heap.push { cls := .type "slice", data := .fields #[.none, .none, .int (-1) tk] } }
  refine tail_any (ops := [.ref a, .ref s4.heap.objs.size]) tup.typeIs (PyProof.Rows.slot_tuple_getitem.lookup) ?_ (by with_unfolding_all rfl)
  refine getItem_rev tup (Heap.IsSliceOf.new _ .none .none (.int (-1) tk)) (by rw [List.size_toArray]; omega) ?_
  refine ⟨.ref _, _, J.laid (t' := s4.toks) (o := .tup vs.reverse) (fun b o q => Heap.get?_push_of_some _ q) (Nat.le_refl _) ?_, rfl, q _ (J.hok.fresh (Nat.le_refl _))⟩
  exact ⟨by rw [List.length_reverse]; exact hz, us.reverse, rv.reverse, _, Heap.get?_push_size _ (by rfl), rfl, 0, rfl⟩
theorem s_rev {k : Nat} {p1 p2 p3 pos : Pos} (ha : SE X W e (evE c x)) : SE X W (.Subscript e (.Slice none none (some (.UnaryOp .USub (.Constant (.int 1) k p1) p2)) p3) pos) (evE c (.rev x)) := by
  intro z m ρ S σ H Q s en p
  simp only [evE] at p
  cases e0 : evE c x ρ S with
  | bad => rw [e0] at p; exact p.elim
  | exc y d S1 =>
    rw [e0] at p
    refine semE_of (pe_revT pe_sem) (ha z m ρ S σ H _ s en ?_)
    rw [e0]
    exact fun m' H' cl dx t1 t2 t3 => p m' H' cl dx t1 t2 t3
  | ok d S1 =>
    rw [e0] at p
    simp only [Res.bind_ok] at p
    have lists : ∀ xs, listOf S1 d = some xs → PostE X z W σ m H (.ok (.lst xs.reverse) S1) Q → semE X (.Subscript e (.Slice none none (some (.UnaryOp .USub (.Constant (.int 1) k p1) p2)) p3) pos) σ H Q := fun xs e1 p1 => by
      refine semE_of (pe_revL pe_sem) (ha z m ρ S σ H _ s en ?_)
      rw [e0]
      intro m1 H1 v st1 s1 r1
      obtain ⟨q, vs, rfl, h1, h2⟩ := listOf_at s1 r1 e1
      exact ⟨q, vs, rfl, SqL.of h1, fun n hn => (p1.later st1).aside s1 hn (Rp.newLst s1 hn h2.reverse)⟩
    cases d with
    | tup xs =>
      refine semE_of (pe_revT pe_sem) (ha z m ρ S σ H _ s en ?_)
      rw [e0]
      intro m1 H1 v st1 s1 r1
      obtain ⟨q, vs, rfl, h1, h2⟩ := r1.tupAt
      exact ⟨q, vs, rfl, h1, fun n hn => (p.later st1).aside s1 hn (Rp.newTup hn h2.reverse)⟩
    | lst xs => exact lists xs rfl p
    | ref n =>
      simp only [revD] at p
      split at p
      · rename_i xs e1; exact lists xs e1 p
      · exact p.elim
    | _ => exact p.elim
end
end DL
set_option Elab.async false
set_option linter.all false
set_option maxRecDepth 100000
set_option maxHeartbeats 2000000
/-! DLp5: enumerate(a tuple) -/
namespace DL
open PySem PySem.Spec PyProof.Rows L2
theorem meets_enum1 {v : Value} {o : Obj} {Hh : Heap → Prop} (B : Begins v o Hh) : Meets (Builtin.«enumerate.__new__» ⟨[.type "enumerate", v], []⟩) (fun _ R s => Hh s.heap ∧
    R (.ok (.ret (.ref (s.heap.push o).objs.size))) { s with heap := (s.heap.push o).push { cls := .type "enumerate", data := .fields #[.none, .bool false, .ref s.heap.objs.size, rawInt 0, .none, .none] } }) :=
  .of_wp fun prog w A R s h => by
    obtain ⟨hp, g, d, tk, os⟩ := s
    obtain ⟨h1, h⟩ := h
    have hsub := sub_enumerate
    have q1 : ∀ {A' : Around} {E Q : Value → Shared → Prop}, Q (.ref hp.objs.size) ⟨hp.push o, g, d, tk, os⟩ → wpAny (model prog w) A' (pyIter v) Q E ⟨hp, g, d, tk, os⟩ := fun q => B.iter prog w _ _ ⟨hp, g, d, tk, os⟩ _ h1 q
    wp_walk using q1
    refine wpAny_stack_any fun st => wpAny_pure ?_
    split
    · rename_i c _ _ _ _ _
      cases (c == Value.type "enumerate")
      all_goals (wp_walk using q1; exact ⟨_, rfl, h⟩)
    · wp_walk using q1
      exact ⟨_, rfl, h⟩
theorem call_enum1 {prog : Program} {w : World} {A : Around} {E : Value → Shared → Prop} {s : Shared} {v : Value} {o : Obj} {Hh : Heap → Prop} {Q : Value → Shared → Prop} (B : Begins v o Hh) (h1 : Hh s.heap)
    (h : ∀ h', IsEnum h' (s.heap.objs.size + 1) s.heap.objs.size 0 .none → h'.get? s.heap.objs.size = some o → (∀ b u, s.heap.get? b = some u → h'.get? b = some u) → Q (.ref (s.heap.objs.size + 1)) { s with heap := h' }) :
    wpAny (model prog w) A (call (.type "enumerate") [v]) Q E s := by
  refine callType_new F.called_enumerate (by decide) (F.typeCall_enumerate_1 _) (F.newCall_enumerate_1 _) (fun obj => F.args_object_init_2 obj _) F.entry_enumerate_new (meets_enum1 B) ⟨h1, ?_⟩
  have hz : (s.heap.push o).objs.size = s.heap.objs.size + 1 := Heap.size_push ..
  have he := Heap.get?_push_size (s.heap.push o) (o := { cls := .type "enumerate", data := .fields #[.none, .bool false, .ref s.heap.objs.size, rawInt 0, .none, .none] }) rfl
  rw [hz] at he
  show _ ∧ _
  rw [hz]
  exact ⟨⟨_, he, rfl⟩, h _ he (Heap.get?_push_of_some _ (Heap.get?_push_size _ B.free)) fun b u x => Heap.get?_push_of_some _ (Heap.get?_push_of_some _ x)⟩
/-- the tuple at a, each item in a new pair -/
def Itet (K : PySem.W.Frag) (a : Addr) : It where
  go := fun i H => ∃ (xs : List V) (x : V), SqT K H a xs ∧ xs[i]? = some x
  yld := fun i H v H' => ∃ T x, v = .ref T ∧ H T = none ∧ H' = upd H T (.tup [.int (i : Nat), x]) ∧ ∀ xs, SqT K H a xs → xs[i]? = some x
  stop := fun i H => ∃ xs : List V, SqT K H a xs ∧ xs.length = i
theorem turn_enumT {P : Program} {w : World} {K : PySem.W.Frag} {elts : List Expr} {kk : Nat} {tpos : Pos} (a e it : Addr) : Turn P w K (.Tuple elts kk tpos) (Itet K a) [e, it] e (fun i h => (∃ old, IsEnum h e it ((i : Nat) : Int) old) ∧ h.IsTupleIter it a i ∧ e ≠ it) where
  mem := List.mem_cons_self ..
  obj := fun i h st b hb => by
    obtain ⟨⟨old, h1⟩, ⟨o, h2, _, h3⟩, _⟩ := st
    rcases List.mem_cons.mp hb with rfl | hb
    · exact ⟨_, h1, fun v q => nomatch q⟩
    · rw [List.mem_singleton.mp hb]
      exact ⟨o, h2, fun v q => by rw [h3] at q; cases q⟩
  keep := fun i h h' st k => by
    obtain ⟨⟨old, h1⟩, h2, h3⟩ := st
    exact ⟨⟨old, k e (by simp) _ h1⟩, h2.at fun o q => k it (by simp) o q, h3⟩
  item := by
    intro X hP hw hK hc i pins s σ H E I hf st hg
    subst hP hw hK
    obtain ⟨⟨old, h1⟩, h2, hne⟩ := st
    obtain ⟨xs, x, hq, hx⟩ := hg
    obtain ⟨us, rv, pl, hz⟩ := I.tuple hq
    have tup : s.heap.IsTuple a us.toArray := pl
    obtain ⟨u, hu, ru⟩ := rv.get hx
    have hlt : i < us.toArray.size := by simpa using (List.getElem?_eq_some_iff.mp hu).1
    have ee : e < s.heap.objs.size := Heap.lt_size h1
    have ii : it < s.heap.objs.size := by obtain ⟨_, q, _⟩ := h2; exact Heap.lt_size q
    have ai : a ≠ it := by
      rintro rfl
      obtain ⟨o1, q1, q2, _⟩ := h2
      obtain ⟨o2, q3, q4, _⟩ := tup
      rw [q1] at q3; cases q3
      exact absurd (q2.symm.trans q4) (by decide)
    have ae : e ≠ a := by
      rintro rfl
      obtain ⟨o2, q3, q4, _⟩ := tup
      have q1 := h1
      unfold IsEnum at q1
      rw [q1] at q3; cases q3
      exact absurd (show Value.type "enumerate" = Value.type "tuple" from q4) (by decide)
    have hd : X.A.in1.handled = none := I.ok.hd hc
    refine wpAny_pyNext_enum_itemD (Draws.tuple hd it a ai us.toArray) h1 ⟨h2, tup⟩ hlt hne (by simp [hne, ae]) fun y h' tk hy ho hs' hT hsz hk => ?_
    have hyu : y = u := by
      have hy' : us.toArray[i]? = some y := hy
      rw [show us.toArray[i]? = us[i]? by simp, hu] at hy'
      exact (Option.some.inj hy').symm
    subst hyu
    refine ⟨_, rfl, wpAny_letOwnedTupleGo_enum (s := { s with heap := h', toks := tk + 1 }) ho fun h'' he' sb => ?_⟩
    have hT2 : h''.get? s.heap.objs.size = some { cls := .type "tuple", data := .seq #[.int i tk, y] } := (sb.2 _ (Nat.ne_of_gt ee)).trans hT
    have new : ObjOk X.prog X.w (upd H s.heap.objs.size (.tup [.int (i : Nat), x])) h'' s.heap.objs.size (.tup [.int (i : Nat), x]) := ⟨by show 2 ≤ sizeLine; decide, [.int i tk, y], .cons ⟨_, rfl⟩ (.cons ru .nil), ⟨_, hT2, rfl, _, rfl⟩⟩
    have J : Inv X pins σ (upd H s.heap.objs.size (.tup [.int (i : Nat), x])) { s with heap := h'', toks := tk + 1 } :=
      I.turnedNew (ch := [e, it]) (fun b ob hb q => (sb.2 b (fun z => hb (by rw [z]; simp))).trans (hk b ob (fun z => hb (by rw [z]; simp)) (fun z => hb (by rw [z]; simp)) q)) hf (Nat.le_refl _) new
    refine ⟨.ref s.heap.objs.size, _, J, rfl, ⟨_, x, rfl, I.hok.fresh (Nat.le_refl _), rfl, fun ys hys => by rw [I.tuple_inj hys hq]; exact hx⟩, ⟨⟨y, ?_⟩, hs'.1.at fun o q => (sb.2 it (Ne.symm hne)).trans q, hne⟩, fun b hb => ?_⟩
    · rw [show ((i + 1 : Nat) : Int) = (i : Int) + 1 by omega]
      exact he'
    · have hb' : b < s.heap.objs.size := by
        rcases List.mem_cons.mp hb with rfl | hb
        · exact ee
        · rw [List.mem_singleton.mp hb]; exact ii
      rw [upd_ne (Nat.ne_of_lt hb')]
      exact (hf b hb).1
  done := by
    intro X hP hw hK hc i pins s σ H E I hf st hg
    subst hP hw hK
    obtain ⟨⟨old, h1⟩, h2, hne⟩ := st
    obtain ⟨xs, hq, hx⟩ := hg
    obtain ⟨us, rv, pl, hz⟩ := I.tuple hq
    have tup : s.heap.IsTuple a us.toArray := pl
    have ai : a ≠ it := by
      rintro rfl
      obtain ⟨o1, q1, q2, _⟩ := h2
      obtain ⟨o2, q3, q4, _⟩ := tup
      rw [q1] at q3; cases q3
      exact absurd (q2.symm.trans q4) (by decide)
    have hd : X.A.in1.handled = none := I.ok.hd hc
    obtain ⟨f0, f1, f2, f3, f4, f5⟩ := hf it (by simp)
    obtain rfl : us.toArray.size = i := by rw [List.size_toArray, ← rv.length]; exact hx
    refine wpAny_pyNext_enum_endD (Draws.tuple hd it a ai us.toArray) h1 ⟨h2, tup⟩ fun h' eb => ⟨rfl, I.turned (t' := s.toks) (fun b o hb q => eb b o hb q) f0 f1 f3 f4 f5⟩
  self := fun A i s Q E st h => wpAny_pyIter_enum st.1.choose_spec h
section
variable {X : Cx} {a : Expr}
theorem walk_enumT {p : Addr} {vs : List V} {xs : List D} : Walk X (Itet X.K p) (enumD 0 xs) (GT X p vs xs) where
  step := fun z m H m' H' g st => g.step st
  hide := fun z m H q g hq => g.hide hq
  hwrite := fun z m H q us ws g hq h0 => g.hwrite hq h0
  go := fun z i m H g hi => by
    rw [enumD_length] at hi
    have hi' : i < vs.length := by rw [← g.2.length]; exact hi
    exact ⟨vs, vs[i], g.1, List.getElem?_eq_getElem hi'⟩
  stop := fun z m H g => ⟨vs, g.1, by rw [enumD_length, g.2.length]⟩
  yld := fun z i m H u H' S g hy hi s => by
    obtain ⟨T, x, rfl, hT, rfl, hy⟩ := hy
    obtain ⟨d, h1, h2⟩ := g.2.getV (hy vs g.1)
    refine ⟨.tup [.int ((0 + i : Nat) : Int), d], enumD_get xs 0 i d h1, .aside hT, s.aside hT, fun b o h => by rw [upd_ne (ne_of_none h hT)]; exact h, ?_⟩
    rw [Nat.zero_add]
    exact Rp.newTup hT (RpL.cons Rp.intI (RpL.one h2))
theorem pi_enumA {elts : List Expr} {kk : Nat} {tpos pn pos : Pos} (hg : Gl X "enumerate") (hm : X.mg "enumerate" = none) (hs : starEach [a] X.env = [(false, eval a X.env)]) {te : TE} (he : PE X a te) : PI X (.Tuple elts kk tpos) (.Call (.Name "enumerate" pn) [a] [] pos)
    (fun σ H R => te σ H fun v H1 => ∃ q, v = .ref q ∧ ((∃ vs, SqL X.K H1 q vs) ∧ R (Ite X.K q) H1 ∨ ∃ vs, SqT X.K H1 q vs ∧ ∀ J, (∀ xs, Walk X J (enumD 0 xs) (GT X q vs xs)) → R J H1)) := by
  constructor
  intro pins s σ H R I h
  refine Call_ (ld_blt I hg hm boot_enumerate (PyProof.Rows.callWith_type1 (thn ((pa_cons he pa_nil hs).run pos pins s σ H (fun vs H1 => match vs with | [v] => ∃ q, v = .ref q ∧ ((∃ vs, SqL X.K H1 q vs) ∧ R (Ite X.K q) H1 ∨ ∃ vs, SqT X.K H1 q vs ∧ ∀ J, (∀ xs, Walk X J (enumD 0 xs) (GT X q vs xs)) → R J H1) | _ => False) I h) fun us s1 ⟨vs, H1, I1, r1, q1⟩ => ?_) hs rfl))
  dsimp only at q1
  split at q1
  · obtain ⟨q, e2, q1⟩ := q1
    subst e2
    obtain ⟨u, rfl, rv⟩ := vals1 r1
    cases rv
    have fp : ∀ {h' : Heap}, ∀ b ∈ [s1.heap.objs.size + 1, s1.heap.objs.size], FpOk X pins H1 b := fun {h'} b hb => by
      have hle : s1.heap.objs.size ≤ b := by
        rcases List.mem_cons.mp hb with rfl | hb
        · exact Nat.le_succ _
        · rw [List.mem_singleton.mp hb]; exact Nat.le_refl _
      exact I1.fpOk hle (I1.hok.fresh hle)
    rcases q1 with ⟨⟨ws, hq⟩, q1⟩ | ⟨ws, hq, q1⟩
    · obtain ⟨its, rv, pl, hz⟩ := I1.list hq
      refine call_enum1 (begins_list q its.toArray) pl.isList fun h' he hit hk => wpAny_pyIter_enum he ?_
      exact ⟨_, _, _, _, H1, rfl, I1.kept (t' := s1.toks) hk, turn_enum q (s1.heap.objs.size + 1) s1.heap.objs.size, ⟨⟨.none, he⟩, ⟨_, hit, rfl, rfl⟩, Nat.succ_ne_self _⟩, fp (h' := h'), q1⟩
    · obtain ⟨its, rv, pl, hz⟩ := I1.tuple hq
      refine call_enum1 (begins_tuple q its.toArray) (show s1.heap.IsTuple q its.toArray from pl) fun h' he hit hk => wpAny_pyIter_enum he ?_
      exact ⟨_, _, _, _, H1, rfl, I1.kept (t' := s1.toks) hk, turn_enumT q (s1.heap.objs.size + 1) s1.heap.objs.size, ⟨⟨.none, he⟩, ⟨_, hit, rfl, rfl⟩, Nat.succ_ne_self _⟩, fp (h' := h'), q1 _ fun xs => walk_enumT⟩
  · exact q1.elim
end
end DL
set_option Elab.async false
set_option linter.all false
set_option maxRecDepth 100000
set_option maxHeartbeats 2000000
/-! DLs1: sets of nested tuples: what a search and an adding do -/
namespace DL
open PySem PySem.Spec PyProof.Rows L2
mutual
/-- whole numbers alone within: its hash is by value -/
def hard : NestedKey → Bool
  | .none => false
  | .num _ => true
  | .text _ => false
  | .tup ks => hardAll ks
def hardAll : List NestedKey → Bool
  | [] => true
  | k :: ks => hard k && hardAll ks
end
/-- a question that is answered without a trace -/
def Plainly (P : Program) (w : World) (s : Shared) (b : Bool) (q : Sem Bool) : Prop := ∀ (A : Around) (E : Value → Shared → Prop) (Q : Bool → Shared → Prop), Q b s → wpAny (model P w) A q Q E s
section
variable {P : Program} {w : World}
mutual
theorem ofA_key : ∀ (k : NestedKey) (v : Value) (n : Nat) (s : Shared), NestedIs s.heap k v → k.depth ≤ n → Plainly P w s false (ofAClassStatement n v)
  | .none, v, n, s, h, hd => fun A E Q q => by
    cases h
    cases n <;> exact wpAny_pure q
  | .num i, v, n, s, h, hd => fun A E Q q => by
    cases h <;> cases n <;> exact wpAny_pure q
  | .text x, v, n, s, h, hd => fun A E Q q => by
    cases h
    cases n <;> exact wpAny_pure q
  | .tup ks, v, n, s, h, hd => fun A E Q q => by
    cases h with
    | tup ho hc hdt hall =>
    simp only [NestedKey.depth] at hd
    cases n with
    | zero => omega
    | succ n =>
    have each := ofA_keys ks _ n s hall (by omega)
    unfold ofAClassStatement
    refine wpAny_bind (wpAny_typeOf ⟨_, ho, hc⟩ ?_)
    dsimp only
    simp only [show (("tuple" : String) == "tuple") = true from rfl, if_true, Bool.not_true, Bool.false_eq_true, if_false]
    try refine wpAny_bind (wpAny_pure ?_)
    try simp only [Bool.not_true, Bool.false_eq_true, if_false]
    show wpAny _ _ (seqItems? _ >>= _) _ _ s
    refine wpAny_bind (wpAny_seqItems ho hdt ?_)
    dsimp only
    refine wpAny_bind ?_
    show wpAny _ _ (forIn _ _ _) _ _ s
    rw [← Array.forIn_toList]
    refine wpAny_forIn_list _ (fun rest r s' => (r.1 = none ∧ s' = s) ∧ ∀ u ∈ rest, Plainly P w s false (ofAClassStatement n u)) _ ?_ ?_ _ _ ⟨⟨rfl, rfl⟩, each⟩
    · rintro u rest r s' ⟨⟨hr, rfl⟩, hall'⟩
      refine wpAny_bind (hall' u (List.mem_cons_self ..) _ _ _ ?_)
      simp only [Bool.false_eq_true, if_false]
      exact wpAny_pure ⟨⟨rfl, rfl⟩, fun y hy => hall' y (List.mem_cons_of_mem _ hy)⟩
    · rintro ⟨r1, r2⟩ s' ⟨⟨hr, rfl⟩, _⟩
      simp only at hr
      subst hr
      exact wpAny_pure q
theorem ofA_keys : ∀ (ks : List NestedKey) (vs : List Value) (n : Nat) (s : Shared), NestedAll s.heap ks vs → NestedKey.depthAll ks ≤ n → ∀ v ∈ vs, Plainly P w s false (ofAClassStatement n v)
  | [], vs, n, s, h, hd, v, hv => by cases h; cases hv
  | k :: ks, vs, n, s, h, hd, v, hv => by
    cases h with
    | cons h1 h2 =>
    simp only [NestedKey.depthAll] at hd
    rcases List.mem_cons.mp hv with rfl | hv
    · exact ofA_key k _ n s h1 (by omega)
    · exact ofA_keys ks _ n s h2 (by omega) v hv
end
mutual
theorem hby_key : ∀ (k : NestedKey) (v : Value) (n : Nat) (s : Shared), NestedIs s.heap k v → k.depth ≤ n → hard k = true → Plainly P w s true (hashByValue n v)
  | .none, v, n, s, h, hd, hh => fun A E Q q => by cases hh
  | .num i, v, n, s, h, hd, hh => fun A E Q q => by
    cases h <;> cases n <;> exact wpAny_pure q
  | .text x, v, n, s, h, hd, hh => fun A E Q q => by cases hh
  | .tup ks, v, n, s, h, hd, hh => fun A E Q q => by
    cases h with
    | tup ho hc hdt hall =>
    simp only [NestedKey.depth] at hd
    cases n with
    | zero => omega
    | succ n =>
    have each := hby_keys ks _ n s hall (by omega) (by simpa only [hard] using hh)
    unfold hashByValue
    refine wpAny_bind (wpAny_specialOf ⟨_, ho, hc⟩ F.slot_tuple_hash.lookup ?_)
    show wpAny _ _ (seqItems? _ >>= _) _ _ s
    refine wpAny_bind (wpAny_seqItems ho hdt ?_)
    refine wpAny_bind ?_
    show wpAny _ _ (forIn _ _ _) _ _ s
    rw [← Array.forIn_toList]
    refine wpAny_forIn_list _ (fun rest r s' => (r.1 = none ∧ s' = s) ∧ ∀ u ∈ rest, Plainly P w s true (hashByValue n u)) _ ?_ ?_ _ _ ⟨⟨rfl, rfl⟩, each⟩
    · rintro u rest r s' ⟨⟨hr, rfl⟩, hall'⟩
      refine wpAny_bind (hall' u (List.mem_cons_self ..) _ _ _ ?_)
      simp only [Bool.not_true, Bool.false_eq_true, if_false]
      exact wpAny_pure ⟨⟨rfl, rfl⟩, fun y hy => hall' y (List.mem_cons_of_mem _ hy)⟩
    · rintro ⟨r1, r2⟩ s' ⟨⟨hr, rfl⟩, _⟩
      simp only at hr
      subst hr
      exact wpAny_pure q
theorem hby_keys : ∀ (ks : List NestedKey) (vs : List Value) (n : Nat) (s : Shared), NestedAll s.heap ks vs → NestedKey.depthAll ks ≤ n → hardAll ks = true → ∀ v ∈ vs, Plainly P w s true (hashByValue n v)
  | [], vs, n, s, h, hd, hh, v, hv => by cases h; cases hv
  | k :: ks, vs, n, s, h, hd, hh, v, hv => by
    cases h with
    | cons h1 h2 =>
    simp only [NestedKey.depthAll] at hd
    simp only [hardAll, Bool.and_eq_true] at hh
    rcases List.mem_cons.mp hv with rfl | hv
    · exact hby_key k _ n s h1 (by omega) hh.1
    · exact hby_keys ks _ n s h2 (by omega) hh.2 v hv
end
end
/-- the tuple at a is the key k -/
abbrev IsN (h : Heap) (k : NestedKey) (a : Addr) : Prop := NestedIs h k (.ref a) ∧ k.depth ≤ 8 ∧ hard k = true
section
variable {P : Program} {w : World} {A : Around} {E : Value → Shared → Prop} {s : Shared}
theorem seen_key {k : NestedKey} {b : Addr} {Q : Bool → Shared → Prop} (hk : IsN s.heap k b) {ys : List Value} (hy : ∀ y ∈ ys, ∃ k' c, y = Value.ref c ∧ IsN s.heap k' c) (h : Q false s) : wpAny (model P w) A (searchCouldBeSeen (.ref b) ys) Q E s := by
  unfold searchCouldBeSeen
  refine wpAny_bind (wpAny_forIn_list _ (fun rest r s' => (r.1 = none ∧ s' = s) ∧ ∀ y ∈ rest, ∃ k' c, y = Value.ref c ∧ IsN s.heap k' c) _ ?_ ?_ _ _ ⟨⟨rfl, rfl⟩, hy⟩)
  · rintro v rest r s' ⟨⟨hr, rfl⟩, all⟩
    obtain ⟨k', c, rfl, hc⟩ := all v (List.mem_cons_self ..)
    have next := fun y (hm : y ∈ rest) => all y (List.mem_cons_of_mem _ hm)
    dsimp only
    by_cases hv : (b == c || (carriedByValue (.ref b) && carriedByValue (.ref c))) = true
    · exact wp_if_pos hv (wpAny_pure ⟨⟨rfl, rfl⟩, next⟩)
    · refine wp_if_neg hv (wpAny_bind ((nestedKind P w).quiet ⟨hk.1, hk.2.1⟩ ?_))
      simp only [Bool.not_true, Bool.false_eq_true, if_false]
      refine wpAny_bind ((nestedKind P w).quiet ⟨hc.1, hc.2.1⟩ ?_)
      simp only [Bool.not_true, Bool.false_eq_true, if_false]
      refine wpAny_bind (ofA_key k _ 8 _ hk.1 hk.2.1 _ _ _ ?_)
      simp only [Bool.false_eq_true, if_false]
      refine wpAny_bind (ofA_key k' _ 8 _ hc.1 hc.2.1 _ _ _ ?_)
      simp only [Bool.false_eq_true, if_false]
      exact wpAny_pure ⟨⟨rfl, rfl⟩, next⟩
  · rintro ⟨r1, r2⟩ s' ⟨⟨hr, rfl⟩, _⟩
    simp only at hr
    subst hr
    exact wpAny_pure h
end
end DL
set_option Elab.async false
set_option linter.all false
set_option maxRecDepth 100000
set_option maxHeartbeats 4000000
/-! DLs2: sets of nested tuples: looking for a key, putting one in -/
namespace DL
open PySem PySem.Spec PyProof.Rows L2
/-- the members as the set's rows -/
def rowsN (w : World) (L : List (Addr × NestedKey)) : List (Int × Value) := L.map fun p => (p.2.hash w, Value.ref p.1)
abbrev hsN (w : World) (L : List (Addr × NestedKey)) : List Int := L.map fun p => p.2.hash w
/-- the set at a, its members in the machine's own order -/
structure SN (w : World) (h : Heap) (a : Addr) (L : List (Addr × NestedKey)) (es : Array (Int × Value)) (ep : Nat) (t : SetTable) : Prop where
  obj : ∃ o, h.get? a = some o ∧ o.ExactSet ∧ o.data = .set es ep t
  row : es.toList = rowsN w L
  tab : TabOk t (hsN w L)
  one : (L.map (·.2)).Nodup
  mem : ∀ p ∈ L, IsN h p.2 p.1
  pln : t.plain = true
  led : w.params.followText "set-order" = true ∨ t.led = true
  big : L.length * 5 < t.mask * 3
  few : L.length < 64
/-- the probe's place on its way -/
abbrev pr (t : SetTable) (h : Int) (n : Nat) : SetTable.Probe := nth t.mask (runAt t.mask (SetTable.bits h % (t.mask + 1)) (SetTable.bits h)) n
theorem pr_add (t : SetTable) (h : Int) (c q : Nat) : nth t.mask (pr t h c) q = pr t h (c + q) := (nth_add t.mask c _ q).symm
theorem pr_way (t : SetTable) (h : Int) (c q : Nat) : (nth t.mask (pr t h c) q).j = way t.mask h (c + q) := congrArg SetTable.Probe.j (pr_add t h c q)
theorem pr_dummy (t : SetTable) (h : Int) (c : Nat) : (pr t h c).dummy = none := by
  have gen : ∀ (n : Nat) (p : SetTable.Probe), p.dummy = none → (nth t.mask p n).dummy = none := by
    intro n
    induction n with
    | zero => exact fun _ e => e
    | succ n ih =>
      intro p e
      refine ih (adv t.mask p) ?_
      unfold adv
      split <;> exact e
  exact gen c _ rfl
section
variable {P : Program} {w : World} {A : Around} {E : Value → Shared → Prop} {s : Shared} {a : Addr} {L : List (Addr × NestedKey)} {es : Array (Int × Value)} {ep : Nat} {t : SetTable} {h : Heap}
theorem SN.size (R : SN w h a L es ep t) : es.size = L.length := by
  have e := congrArg List.length R.row
  simpa [rowsN] using e
theorem SN.slots (R : SN w h a L es ep t) : t.place.size = L.length := by
  have e := R.tab.sz
  simpa using e
theorem SN.fits (R : SN w h a L es ep t) : t.fits es.size = true := by
  have e1 := R.slots
  have e2 := R.size
  have e3 := R.big
  unfold SetTable.fits SetTable.fill
  rw [R.tab.dm]
  simp only [Bool.and_eq_true, beq_iff_eq, decide_eq_true_eq]
  exact ⟨by omega, by show t.place.size + 0 ≤ t.mask; omega⟩
theorem SN.at (R : SN w h a L es ep t) {i : Nat} {p : Addr × NestedKey} (e : L[i]? = some p) : es[i]? = some (p.2.hash w, Value.ref p.1) := by
  have e1 : es.toList[i]? = some (p.2.hash w, Value.ref p.1) := by
    rw [R.row]
    simp [rowsN, e]
  simpa using e1
theorem SN.hashAt (R : SN w h a L es ep t) {i : Nat} {p : Addr × NestedKey} (e : L[i]? = some p) : (es[i]?.map (·.1)).getD 0 = p.2.hash w := by
  rw [R.at e]
  rfl
/-- looking for k among the members, from the c-th place of its way on -/
theorem seek_from (R : SN w s.heap a L es ep t) {x : Addr} {k : NestedKey} (hx : IsN s.heap k x) (hu : A.units + 8 < cLine) {K : Nat} (hK0 : K < 10 * SetTable.turns t.mask) (hK1 : way t.mask (k.hash w) K ∉ t.place.toList) (hK2 : ∀ c, c < K → way t.mask (k.hash w) c ∈ t.place.toList)
    {Q : SetFound → Shared → Prop} (yes : k ∈ L.map (·.2) → Q (.there none) s) (no : k ∉ L.map (·.2) → Q (.free (way t.mask (k.hash w) K) false) s) (f : Nat) :
    ∀ (c : Nat) (st : Option SetTable.Probe), st.getD (t.probeStart (k.hash w)) = pr t (k.hash w) c → c ≤ K → K - c < f → (∀ (i : Nat) p, L[i]? = some p → p.2 = k → ∃ d, c ≤ d ∧ d < K ∧ t.place.toList[i]? = some (way t.mask (k.hash w) d)) →
      wpAny (model P w) A (setSearchFrom a (.ref x) (k.hash w) true f st) Q E s := by
  induction f with
  | zero => exact fun c st _ _ h0 _ => absurd h0 (Nat.not_lt_zero _)
  | succ f ih =>
  intro c st hst hcK hf ahead
  obtain ⟨o, ho, hex, hd⟩ := R.obj
  have godd : ¬ t.gaveWay = true := by
    unfold SetTable.gaveWay
    rw [mask_odd R.tab.mok]
    decide
  rw [setSearchFrom_succ]
  refine wpAny_bind (wpAny_setState_of ho hd R.fits ?_)
  dsimp only
  refine wp_if_neg godd ?_
  try refine wpAny_bind (wpAny_pure ?_)
  have spec := go_spec t R.tab.ris R.tab.dm (fun i => (es[i]?.map (·.1)).getD 0) (k.hash w) (10 * SetTable.turns t.mask) (K - c) (pr t (k.hash w) c) (pr_dummy t _ c) (by omega) (fun q hq => by rw [pr_way]; exact hK2 (c + q) (by omega)) (by rw [pr_way, Nat.add_sub_cancel' hcK]; exact hK1)
  rcases spec with ⟨q, i, hq, hi, hh, hno, hpr⟩ | ⟨hno, hpr⟩
  · -- a member of this hash
    have e1 : t.probe (fun i => (es[i]?.map (·.1)).getD 0) (k.hash w) (st.getD (t.probeStart (k.hash w))) = some (.candidate (way t.mask (k.hash w) (c + q)) i (pr t (k.hash w) (c + (q + 1)))) := by
      rw [hst, ← pr_way, ← pr_add]
      exact hpr
    rw [e1]
    dsimp only
    rw [pr_way] at hi
    have hiL : i < L.length := by
      have l1 := (List.getElem?_eq_some_iff.mp hi).1
      have l2 := R.slots
      rw [Array.length_toList] at l1
      omega
    obtain ⟨p, hp⟩ : ∃ p, L[i]? = some p := ⟨_, List.getElem?_eq_getElem hiL⟩
    have pm : p ∈ L := List.mem_of_getElem? hp
    have pN := R.mem p pm
    have rest : wpAny (model P w) A (searchRest a (.ref x) (k.hash w) true f es t (way t.mask (k.hash w) (c + q)) i (pr t (k.hash w) (c + (q + 1)))) Q E s := by
      unfold searchRest
      rw [R.at hp]
      dsimp only
      refine wpAny_bind (wpAny_holding ((nestedKind P w).eqBool hu ⟨pN.1, pN.2.1⟩ ⟨hx.1, hx.2.1⟩ ?_))
      refine wpAny_bind (wpAny_setState_of ho hd R.fits ?_)
      dsimp only
      by_cases hkk : p.2 = k
      · exact wp_if_pos (by simp [hkk]) (wpAny_pure (yes (List.mem_map.mpr ⟨p, pm, hkk⟩)))
      · refine wp_if_neg (by simp [hkk]) ?_
        try refine wpAny_bind (wpAny_pure ?_)
        rw [sameMem]
        dsimp only
        have live : t.slot (way t.mask (k.hash w) (c + q)) = .live i := slot_live R.tab.ris hi
        simp only [if_true, live, R.at hp]
        refine wpAny_bind (wpAny_isSame_ref_self (wpAny_bind (wpAny_pure ?_)))
        simp only [if_true]
        refine wp_if_neg (by simp [hkk]) (ih (c + (q + 1)) _ rfl (by omega) (by omega) fun j r hj hr => ?_)
        obtain ⟨d, d1, d2, d3⟩ := ahead j r hj hr
        refine ⟨d, Classical.byContradiction fun hlt => ?_, d2, d3⟩
        by_cases e2 : d = c + q
        · subst e2
          have l2 := slot_live R.tab.ris d3
          rw [live] at l2
          cases l2
          rw [hp] at hj
          cases hj
          exact hkk hr
        · refine hno (d - c) j (by omega) (by rw [pr_way, Nat.add_sub_cancel' d1]; exact d3) ?_
          show (es[j]?.map (·.1)).getD 0 = _
          rw [R.hashAt hj, hr]
    by_cases hl : t.led = true
    · refine wp_if_neg (by simp [hl]) ?_
      try refine wpAny_bind (wpAny_pure ?_)
      exact rest
    · refine wp_if_pos (by simp [hl]) (wpAny_bind (seen_key hx (fun y hy => ?_) ?_))
      · obtain ⟨r, hr, rfl⟩ := List.mem_map.mp hy
        have hr2 : r ∈ es.toList := by
          have : r ∈ es ∧ r.1 = k.hash w := by simpa using hr
          simpa using this.1
        rw [R.row] at hr2
        obtain ⟨u, hu1, rfl⟩ := List.mem_map.mp hr2
        exact ⟨u.2, u.1, rfl, R.mem u hu1⟩
      · refine wp_if_neg (by decide) ?_
        try refine wpAny_bind (wpAny_pure ?_)
        exact rest
  · -- none of it
    have e1 : t.probe (fun i => (es[i]?.map (·.1)).getD 0) (k.hash w) (st.getD (t.probeStart (k.hash w))) = some (.empty (way t.mask (k.hash w) K) none) := by
      have e2 : way t.mask (k.hash w) K = (nth t.mask (pr t (k.hash w) c) (K - c)).j := by rw [pr_way, Nat.add_sub_cancel' hcK]
      rw [hst, e2]
      exact hpr
    rw [e1]
    dsimp only
    refine wpAny_pure (no fun hm => ?_)
    obtain ⟨r, hr, hk⟩ := List.mem_map.mp hm
    obtain ⟨j, hj, e2⟩ := List.mem_iff_getElem.mp hr
    have hj2 : L[j]? = some r := by rw [List.getElem?_eq_getElem hj, e2]
    obtain ⟨d, d1, d2, d3⟩ := ahead j r hj2 hk
    refine hno (d - c) j (by omega) (by rw [pr_way, Nat.add_sub_cancel' d1]; exact d3) ?_
    show (es[j]?.map (·.1)).getD 0 = _
    rw [R.hashAt hj2, hk]
/-- the question as an adding asks it -/
theorem seek_at (R : SN w s.heap a L es ep t) {x : Addr} {k : NestedKey} (hx : IsN s.heap k x) (hu : A.units + 8 < cLine) {Q : SetFound → Shared → Prop} (yes : k ∈ L.map (·.2) → Q (.there none) s)
    (no : ∀ K, k ∉ L.map (·.2) → way t.mask (k.hash w) K ∉ t.place.toList → (∀ c, c < K → way t.mask (k.hash w) c ∈ t.place.toList) → Q (.free (way t.mask (k.hash w) K) false) s) : wpAny (model P w) A (setSearch a (.ref x) (k.hash w) true) Q E s := by
  have big := R.big
  obtain ⟨K, h0, h1, h2⟩ := R.tab.first (by rw [List.length_map]; omega) (k.hash w)
  have hK : K < 100000 := by
    have e : 10 * SetTable.turns t.mask ≤ 1420 := by
      unfold SetTable.turns
      rcases R.tab.mok with e | e | e <;> omega
    omega
  unfold setSearch
  refine seek_from R hx hu h0 h1 h2 yes (fun hn => no K hn h1 h2) 100000 0 none rfl (Nat.zero_le _) (by omega) fun i p hp hk => ?_
  have hi : (hsN w L)[i]? = some (k.hash w) := by simp [hsN, hp, hk]
  have hil : i < t.place.toList.length := by
    have l1 := (List.getElem?_eq_some_iff.mp hp).1
    have l2 := R.slots
    rw [Array.length_toList]
    omega
  obtain ⟨d, d1, d2⟩ := R.tab.before h1 hi (List.getElem?_eq_getElem hil)
  exact ⟨d, Nat.zero_le _, d1, by rw [List.getElem?_eq_getElem hil, d2]⟩
end
end DL
set_option Elab.async false
set_option linter.all false
set_option maxRecDepth 100000
set_option maxHeartbeats 4000000
/-! DLs3: sets of nested tuples: a member more -/
namespace DL
open PySem PySem.Spec PyProof.Rows L2
section
variable {P : Program} {w : World} {A : Around} {E : Value → Shared → Prop} {s : Shared} {a : Addr} {L : List (Addr × NestedKey)} {es : Array (Int × Value)} {ep : Nat} {t : SetTable}
/-- keys stand on when the set is written -/
theorem IsN.over {h h' : Heap} {k : NestedKey} {b : Addr} {o : Obj} (hb : IsN h k b) (ho : h.get? a = some o) (hd : o.data = .set es ep t) (hs : Heap.SameBut a h h') : IsN h' k b :=
  ⟨NestedIs.at (fun c u vs n e d => (hs.2 c fun z => by subst z; rw [ho] at e; cases e; rw [hd] at d; cases d).trans e) _ _ hb.1, hb.2⟩
theorem IsN.kept {h h' : Heap} {k : NestedKey} {b : Addr} (hb : IsN h k b) (hk : ∀ c o, h.get? c = some o → h'.get? c = some o) : IsN h' k b := ⟨NestedIs.at (fun c u _ _ e _ => hk c u e) _ _ hb.1, hb.2⟩
theorem rowsN_len {L : List (Addr × NestedKey)} {es : Array (Int × Value)} (h : es.toList = rowsN w L) : es.size = L.length := by
  have e := congrArg List.length h
  simpa [rowsN] using e
theorem rowsN_put (L : List (Addr × NestedKey)) (p : Nat) (x : Addr) (k : NestedKey) : rowsN w (L.take p ++ (x, k) :: L.drop p) = (rowsN w L).take p ++ (k.hash w, Value.ref x) :: (rowsN w L).drop p := by
  simp [rowsN, List.map_take, List.map_drop]
/-- the rows laid in another order -/
theorem rowsN_order (L : List (Addr × NestedKey)) (es : Array (Int × Value)) (ord : Array Nat) (hr : es.toList = rowsN w L) (hp : ord.toList.Perm (List.range L.length)) :
    ∃ L2, (ord.filterMap (es[·]?)).toList = rowsN w L2 ∧ L2.Perm L ∧ hsN w L2 = ord.toList.map fun i => (es.map (·.1)).getD i 0 := by
  have hsz := rowsN_len hr
  have row : ∀ i (h : i < L.length), es[i]? = some ((L[i]).2.hash w, Value.ref (L[i]).1) := fun i h => by
    have e1 : es.toList[i]? = some ((L[i]).2.hash w, Value.ref (L[i]).1) := by rw [hr]; simp [rowsN, h]
    simpa using e1
  have all : ∀ l : List Nat, (∀ i ∈ l, i < L.length) → l.filterMap (fun i => es[i]?) = rowsN w (l.filterMap fun i => L[i]?) ∧ hsN w (l.filterMap fun i => L[i]?) = l.map fun i => (es.map (·.1)).getD i 0 := by
    intro l
    induction l with
    | nil => exact fun _ => ⟨rfl, rfl⟩
    | cons i l ih =>
      intro hl
      have hi := hl i (List.mem_cons_self ..)
      obtain ⟨e1, e2⟩ := ih fun j hj => hl j (List.mem_cons_of_mem _ hj)
      have e3 : (es.map (·.1)).getD i 0 = (L[i]).2.hash w := by simp [Array.getD_eq_getD_getElem?, row i hi]
      rw [List.filterMap_cons_some (row i hi), List.filterMap_cons_some (List.getElem?_eq_getElem hi), e1]
      refine ⟨rfl, ?_⟩
      exact congr (congrArg _ e3.symm) e2
  obtain ⟨e1, e2⟩ := all ord.toList fun i hi => List.mem_range.mp (hp.mem_iff.mp hi)
  refine ⟨_, by rw [Array.toList_filterMap]; exact e1, ?_, e2⟩
  have e3 := hp.filterMap fun i => L[i]?
  rwa [fm_all L] at e3
/-- a larger table -/
theorem grow_at {o : Obj} (ho : s.heap.get? a = some o) (hex : o.ExactSet) (hd : o.data = .set es ep t) (hrow : es.toList = rowsN w L) (hsz : t.place.size = es.size) (hdm : t.dummies = #[]) (hfl : es.size ≤ t.mask) (one : (L.map (·.2)).Nodup) (mem : ∀ p ∈ L, IsN s.heap p.2 p.1)
    (pln : t.plain = true) (led : w.params.followText "set-order" = true ∨ t.led = true) (few : L.length < 64) {wanted M : Nat} (hw : SetTable.sizeAbove wanted - 1 = M) (hM : MaskOk M) (hw2 : SetTable.sizeAbove wanted ≤ 128) (hn : L.length * 5 < M * 3) {Q : Unit → Shared → Prop}
    (q : ∀ h' L' es' ep' t', Heap.SameBut a s.heap h' → SN w h' a L' es' ep' t' → L'.Perm L → Q () { s with heap := h' }) : wpAny (model P w) A (setRelay a wanted) Q E s := by
  have hsl := rowsN_len hrow
  have fits : t.fits es.size = true := by
    unfold SetTable.fits SetTable.fill
    rw [hdm]
    simp only [Bool.and_eq_true, beq_iff_eq, decide_eq_true_eq]
    exact ⟨by omega, by show t.place.size + 0 ≤ t.mask; omega⟩
  obtain ⟨t', ord, e, hp, T, em, el, ep', ed⟩ := relaid_ok t (hs := es.map (·.1)) (wanted := wanted) hw hM (by rw [Array.size_map]; omega)
  rw [Array.size_map, hsl] at hp
  obtain ⟨L2, r1, r2, r3⟩ := rowsN_order L es ord hrow hp
  rw [← r3] at T
  have hs2 : (ord.filterMap (es[·]?)).size = es.size := by rw [rowsN_len r1, r2.length_eq, hsl]
  rw [setRelay_eq]
  refine wpAny_bind (wpAny_setState_of ho hd fits ?_)
  dsimp only
  refine wp_if_neg (by rw [sizeLine_eq]; omega) ?_
  try refine wpAny_bind (wpAny_pure ?_)
  rw [e]
  dsimp only
  refine wpAny_bind (wp_if_neg (by rw [hs2]; simp) ?_)
  try refine wpAny_bind (wpAny_pure ?_)
  refine wpAny_pure ?_
  dsimp only
  refine wpAny_storeSet_of ho hd ?_ (by rw [hs2, hsl, sizeLine_eq]; omega)
  have same : Heap.SameBut a s.heap (s.heap.update a (Obj.putSet (ord.filterMap (es[·]?)) t')) := Heap.SameBut.update ..
  exact q _ L2 _ (ep + 1) t' same ⟨⟨_, store_at ho hd, ⟨hex.1, hex.2.1, hex.2.2⟩, rfl⟩, r1, T, (r2.map (·.2)).nodup_iff.mpr one, fun p hpm => (mem p (r2.mem_iff.mp hpm)).over ho hd same, ep'.trans pln, by rw [el]; exact led, by rw [r2.length_eq, em]; exact hn, by rw [r2.length_eq]; exact few⟩ r2
/-- one more -/
theorem put_at (R : SN w s.heap a L es ep t) {x : Addr} {k : NestedKey} (hx : IsN s.heap k x) (hu : A.units + 8 < cLine) (hfew : L.length + 1 < 64) {Q : Bool → Shared → Prop}
    (q : ∀ b h' L' es' ep' t', Heap.SameBut a s.heap h' → SN w h' a L' es' ep' t' → (k ∈ L.map (·.2) → L' = L) → (k ∉ L.map (·.2) → L'.Perm ((x, k) :: L)) → Q b { s with heap := h' }) : wpAny (model P w) A (setAddHashed a (.ref x) (k.hash w)) Q E s := by
  obtain ⟨o, ho, hex, hd⟩ := R.obj
  have hsl := R.size
  have big := R.big
  unfold setAddHashed
  refine wpAny_holding ?_
  rw [show (100000 : Nat) = 99999 + 1 from rfl, setAddHashedIn_succ]
  refine wpAny_bind (wpAny_setState_of ho hd R.fits ?_)
  dsimp only
  refine wp_if_neg (by simp [byScan, Value.scannable]) ?_
  try refine wpAny_bind (wpAny_pure ?_)
  refine wpAny_bind (seek_at R hx hu (fun hm => ?_) fun K hm hK hb => ?_)
  · exact wpAny_pure (q false s.heap L es ep t (Heap.SameBut.refl a s.heap) R (fun _ => rfl) fun n => absurd hm n)
  dsimp only
  refine wpAny_bind (wpAny_setState_of ho hd R.fits ?_)
  dsimp only
  obtain ⟨g1, g2, g3, g4, g5, g6, g7, g8, g9⟩ := R.tab.put hK hb
  have pl1 : (t.put (way t.mask (k.hash w) K)).1.plain = true := g6.trans R.pln
  generalize hpt : t.put (way t.mask (k.hash w) K) = pt at g1 g3 g4 g5 g6 g7 g8 g9 pl1 ⊢
  obtain ⟨t1, p⟩ := pt
  dsimp only at g1 g3 g4 g5 g6 g7 g8 g9 pl1 ⊢
  subst g1
  first
    | refine wpAny_bind (wp_if_pos pl1 (hby_key k _ 8 _ hx.1 hx.2.1 hx.2.2 _ _ _ ?_))
    | refine wp_if_pos pl1 (wpAny_bind (hby_key k _ 8 _ hx.1 hx.2.1 hx.2.2 _ _ _ ?_))
  simp only [if_true]
  have hin : (SetTable.insertAt es (SetTable.below t.place (way t.mask (k.hash w) K)) (k.hash w, Value.ref x)).toList = rowsN w (L.take (SetTable.below t.place (way t.mask (k.hash w) K)) ++ (x, k) :: L.drop (SetTable.below t.place (way t.mask (k.hash w) K))) := by
    rw [SetTable.toList_insertAt, rowsN_put, R.row]
  generalize SetTable.below t.place (way t.mask (k.hash w) K) = p at g2 g3 hin ⊢
  have perm : (L.take p ++ (x, k) :: L.drop p).Perm ((x, k) :: L) := by
    have e := List.perm_middle (l₁ := L.take p) (l₂ := L.drop p) (a := (x, k))
    rwa [List.take_append_drop] at e
  have hlen : (L.take p ++ (x, k) :: L.drop p).length = L.length + 1 := perm.length_eq
  have hhs : hsN w (L.take p ++ (x, k) :: L.drop p) = (hsN w L).take p ++ k.hash w :: (hsN w L).drop p := by simp [hsN, List.map_take, List.map_drop]
  rw [← hhs] at g3
  have one1 : ((L.take p ++ (x, k) :: L.drop p).map (·.2)).Nodup := (perm.map (·.2)).nodup_iff.mpr (by rw [List.map_cons]; exact List.nodup_cons.mpr ⟨hm, R.one⟩)
  have hes : (SetTable.insertAt es p (k.hash w, Value.ref x)).size = L.length + 1 := (rowsN_len hin).trans hlen
  generalize SetTable.insertAt es p (k.hash w, Value.ref x) = es1 at hin hes ⊢
  generalize L.take p ++ (x, k) :: L.drop p = L1 at perm hlen g3 one1 hin
  refine wpAny_bind (wpAny_storeSet_of ho hd ?_ (by rw [hes, sizeLine_eq]; omega))
  have same : Heap.SameBut a s.heap (s.heap.update a (Obj.putSet es1 t1)) := Heap.SameBut.update ..
  have ho1 := store_at (es' := es1) (t' := t1) ho hd
  generalize s.heap.update a (Obj.putSet es1 t1) = h1 at same ho1 ⊢
  have mem1 : ∀ r ∈ L1, IsN h1 r.2 r.1 := fun r hr => by
    rcases List.mem_cons.mp (perm.mem_iff.mp hr) with e | hr
    · rw [e]; exact hx.over ho hd same
    · exact (R.mem r hr).over ho hd same
  have led1 : w.params.followText "set-order" = true ∨ t1.led = true := by rw [g5]; exact R.led
  have full : t1.tooFull = decide ((L.length + 1) * 5 ≥ t.mask * 3) := by
    unfold SetTable.tooFull
    rw [g9, g4, List.length_map]
  by_cases hf : t1.tooFull = true
  · first
      | refine wpAny_bind (wp_if_pos (by simp [hf]) ?_)
      | refine wp_if_pos (by simp [hf]) (wpAny_bind ?_)
    rw [full, decide_eq_true_eq] at hf
    rw [hsl]
    have e1 : t1.place.size = es1.size := by
      have e := g3.sz
      rw [List.length_map, hlen] at e
      rw [e, hes]
    have more : ∀ M, SetTable.sizeAbove (SetTable.grown (L.length + 1)) - 1 = M → MaskOk M → SetTable.sizeAbove (SetTable.grown (L.length + 1)) ≤ 128 → (L.length + 1) * 5 < M * 3 → L.length + 1 ≤ t.mask →
        wpAny (model P w) A (setRelay a (SetTable.grown (L.length + 1))) (fun _ s' => wpAny (model P w) A (pure true) Q E s') E { s with heap := h1 } := fun M m1 m2 m3 m4 m5 =>
      grow_at (s := { s with heap := h1 }) ho1 ⟨hex.1, hex.2.1, hex.2.2⟩ rfl hin e1 g3.dm (by rw [hes, g4]; exact m5) one1 mem1 pl1 led1 (by rw [hlen]; exact hfew) m1 m2 m3 (by rw [hlen]; exact m4) fun h2 L2 es2 ep2 t2 sb R2 pm2 =>
        wpAny_pure (q true h2 L2 es2 ep2 t2 (same.trans sb) R2 (fun z => absurd z hm) fun _ => pm2.trans perm)
    rcases R.tab.mok with e | e | e
    · have e4 : L.length = 4 := by rw [e] at hf big; omega
      exact more 31 (by rw [e4, size_20]) (.inr (.inl rfl)) (by rw [e4, size_20]; decide) (by omega) (by omega)
    · have e4 : L.length = 18 := by rw [e] at hf big; omega
      exact more 127 (by rw [e4, size_76]) (.inr (.inr rfl)) (by rw [e4, size_76]; decide) (by omega) (by omega)
    · rw [e] at hf; omega
  · first
      | refine wp_if_neg (by simp [hf]) ?_
      | refine wpAny_bind (wp_if_neg (by simp [hf]) (wpAny_pure ?_))
    rw [full, decide_eq_true_eq] at hf
    exact wpAny_pure (q true h1 L1 es1 (ep + 1) t1 same ⟨⟨_, ho1, ⟨hex.1, hex.2.1, hex.2.2⟩, rfl⟩, hin, g3, one1, mem1, pl1, led1, by rw [hlen, g4]; omega, by rw [hlen]; exact hfew⟩ (fun z => absurd z hm) fun _ => perm)
end
end DL
set_option Elab.async false
set_option linter.all false
set_option maxRecDepth 100000
set_option maxHeartbeats 4000000
/-! DLs4: set(xs), xs of nested tuples -/
namespace DL
open PySem PySem.Spec PyProof.Rows L2
/-- what has been put in of the first i -/
structure Had (ks : List (Addr × NestedKey)) (i : Nat) (L : List (Addr × NestedKey)) : Prop where
  sub : ∀ p ∈ L, p ∈ ks.take i
  all : ∀ p ∈ ks.take i, p.2 ∈ L.map (·.2)
  len : L.length ≤ i
theorem Had.zero (ks : List (Addr × NestedKey)) : Had ks 0 [] := ⟨fun p h => (by cases h), fun p h => (by simp at h), Nat.le_refl _⟩
theorem take_one {α : Type} {l : List α} {i : Nat} {x : α} (h : l[i]? = some x) : l.take (i + 1) = l.take i ++ [x] := by rw [List.take_add_one, h]; rfl
theorem Had.next {ks L L' : List (Addr × NestedKey)} {i : Nat} {x : Addr × NestedKey} (g : Had ks i L) (h : ks[i]? = some x) (c1 : x.2 ∈ L.map (·.2) → L' = L) (c2 : x.2 ∉ L.map (·.2) → L'.Perm (x :: L)) : Had ks (i + 1) L' := by
  have e := take_one h
  by_cases c : x.2 ∈ L.map (·.2)
  · rw [c1 c]
    refine ⟨fun p hp => by rw [e]; exact List.mem_append_left _ (g.sub p hp), fun p hp => ?_, Nat.le_succ_of_le g.len⟩
    rw [e] at hp
    rcases List.mem_append.mp hp with hp | hp
    · exact g.all p hp
    · rw [List.mem_singleton.mp hp]; exact c
  · have pm := c2 c
    refine ⟨fun p hp => ?_, fun p hp => ?_, by rw [pm.length_eq]; exact Nat.succ_le_succ g.len⟩
    · rw [e]
      rcases List.mem_cons.mp (pm.mem_iff.mp hp) with rfl | hp
      · exact List.mem_append_right _ (List.mem_singleton.mpr rfl)
      · exact List.mem_append_left _ (g.sub p hp)
    · rw [e] at hp
      refine (pm.map (·.2)).mem_iff.mpr ?_
      rw [List.map_cons]
      rcases List.mem_append.mp hp with hp | hp
      · exact List.mem_cons_of_mem _ (g.all p hp)
      · rw [List.mem_singleton.mp hp]; exact List.mem_cons_self ..
abbrev newSetObj (w : World) : Obj := { cls := .type "set", dict := none, data := .set #[] 0 (.fresh 0 0 (!w.params.followText "set-order")) }
section
variable {P : Program} {w : World} {A : Around} {E : Value → Shared → Prop} {s : Shared}
theorem SN.keep {h h' : Heap} {a : Addr} {L : List (Addr × NestedKey)} {es : Array (Int × Value)} {ep : Nat} {t : SetTable} (R : SN w h a L es ep t) (ha : ∀ o, h.get? a = some o → h'.get? a = some o) (ht : ∀ p ∈ L, IsN h' p.2 p.1) : SN w h' a L es ep t :=
  ⟨let ⟨o, ho, r⟩ := R.obj; ⟨o, ha o ho, r⟩, R.row, R.tab, R.one, ht, R.pln, R.led, R.big, R.few⟩
theorem SN.fresh {h : Heap} {a : Addr} (ho : h.get? a = some (newSetObj w)) : SN w h a [] #[] 0 (.fresh 0 0 (!w.params.followText "set-order")) where
  obj := ⟨_, ho, ⟨rfl, rfl, rfl⟩, rfl⟩
  row := rfl
  tab := ⟨List.Pairwise.nil, rfl, rfl, .inl rfl, fun x hx => (by cases hx), fun i h j hi => (by simp at hi)⟩
  one := List.nodup_nil
  mem := fun p hp => by cases hp
  pln := rfl
  led := by
    cases e : w.params.followText "set-order" with
    | true => exact .inl rfl
    | false => exact .inr rfl
  big := show 0 * 5 < 7 * 3 by decide
  few := show 0 < 64 by decide
/-- the loop of set.update -/
theorem fill_at {I : Addr} {fp wr : List Addr} {G : Array GenState → Array GenState → Prop} {Pv : Nat → Value → Prop} {St : Nat → Shared → Prop} {R : Result → Shared → Prop} {ks : List (Addr × NestedKey)} (W : WalksS P w A.in1 I fp wr G ks.length Pv St) {S : Addr} (hSf : S ∉ fp) (hfew : ks.length < 64)
    (hval : ∀ i v, Pv i v → ∃ p, ks[i]? = some p ∧ v = .ref p.1) {h0 : Heap} (hk : ∀ p ∈ ks, IsN h0 p.2 p.1) (hS0 : h0.get? S = none) (hw0 : ∀ b ∈ wr, h0.get? b = none) (hu : A.in1.units + 8 < cLine) (k : Nat) :
    ∀ (i : Nat) (s : Shared), ks.length - i = k → i ≤ ks.length → St i s → (∀ b o, h0.get? b = some o → s.heap.get? b = some o) → (∃ L es ep t, SN w s.heap S L es ep t ∧ Had ks i L) →
      (∀ s' L es ep t, Moved (S :: wr) G s s' → SN w s'.heap S L es ep t → Had ks ks.length L → (∀ b o, h0.get? b = some o → s'.heap.get? b = some o) → R (.ok (.ret .none)) s') → codeAny (model P w) A (.builtin "set.update.loop" ⟨[.ref S, .ref I], []⟩) R s := by
  have Sw : S ∉ wr := fun z => hSf (W.sub _ z)
  have kM : ∀ {s s' : Shared}, Moved wr G s s' → (∀ b o, h0.get? b = some o → s.heap.get? b = some o) → ∀ b o, h0.get? b = some o → s'.heap.get? b = some o := fun hm hkp b o e => hm.heap b o (fun hb => by rw [hw0 b hb] at e; cases e) (hkp b o e)
  have sub : ∀ {i L}, Had ks i L → ∀ p ∈ L, p ∈ ks := fun g p hp => List.mem_of_mem_take (g.sub p hp)
  induction k with
  | zero =>
    rintro i s ek hi hst hkp ⟨L, es, ep, t, hS, g⟩ hR
    obtain rfl : i = ks.length := by omega
    refine codeAny_builtin F.entry_set_update_loop ?_; rw [Around.under_plainId F.plain_set_update_loop _]; show wpAny _ A.in1 (pyNext (.ref I) >>= _) _ _ s; refine wpAny_bind (W.done s _ _ hst fun s' hm => ?_); show wpAny _ A.in1 (ret Value.none) _ _ s'
    exact wpAny_pure (hR s' L es ep t (hm.mono fun b hb => List.mem_cons_of_mem _ hb) (hS.keep (fun o e => hm.heap S o Sw e) fun p hp => (hk p (sub g p hp)).kept (kM hm hkp)) g (kM hm hkp))
  | succ k ih =>
    rintro i s ek hi hst hkp ⟨L, es, ep, t, hS, g⟩ hR
    have hlt : i < ks.length := by omega
    refine codeAny_builtin F.entry_set_update_loop ?_; rw [Around.under_plainId F.plain_set_update_loop _]; show wpAny _ A.in1 (pyNext (.ref I) >>= _) _ _ s; refine wpAny_bind (W.item i s _ _ hlt hst fun v s' hP hst' hm => ?_)
    obtain ⟨p, hp, rfl⟩ := hval i v hP
    have hkp' := kM hm hkp
    have hS' : SN w s'.heap S L es ep t := hS.keep (fun o e => hm.heap S o Sw e) fun r hr => (hk r (sub g r hr)).kept hkp'
    have hx : IsN s'.heap p.2 p.1 := (hk p (List.mem_of_getElem? hp)).kept hkp'
    show wpAny _ A.in1 (holding [Value.ref p.1] (setAdd S (.ref p.1)) >>= _) _ _ s'; refine wpAny_bind (wpAny_holding ?_); unfold setAdd
    refine wpAny_holding (wpAny_bind ((nestedKind P w).pyHash hu ⟨hx.1, hx.2.1⟩ ?_))
    refine put_at (s := { s' with toks := s'.toks + p.2.draws }) hS' hx hu (by have := g.len; omega) fun b h' L' es' ep' t' sb R2 c1 c2 => ?_
    have kp2 : ∀ b o, h0.get? b = some o → h'.get? b = some o := fun b o e => (sb.2 b fun z => by rw [z, hS0] at e; cases e).trans (hkp' b o e)
    refine wpAny_pure ⟨plainId_quiet F.plain_set_update_loop _, ih (i + 1) _ (by omega) hlt (W.frame _ s' _ _ hst' (Nat.le_add_right _ _) fun b hb o e => (sb.2 b fun z => hSf (z ▸ hb)).trans e) kp2 ⟨L', es', ep', t', R2, g.next hp c1 c2⟩ fun s2 L2 es2 ep2 t2 hm2 h2 g2 kp3 => ?_⟩
    exact hR s2 L2 es2 ep2 t2 (Moved.trans W.gtrans ((hm.mono fun b hb => List.mem_cons_of_mem _ hb).then_heap (Nat.le_add_right _ _) fun b o hb e => (sb.2 b fun z => hb (z ▸ List.mem_cons_self ..)).trans e) hm2) h2 g2 kp3

set_option maxRecDepth 100000 in
set_option maxHeartbeats 8000000 in
/-- set(xs) of a list or a tuple -/
theorem call_setG {l : Addr} {T : String} {ol oi : Obj} {Hh : Heap → Prop} {Pv : Nat → Value → Prop} {St : Addr → Nat → Heap → Prop} {n : Nat} {Done : Heap → Prop} {Q : Value → Shared → Prop} (hol : s.heap.get? l = some ol) (hcl : ol.cls = .type T) (hT1 : isSubtype (.type T) (.type "set") = pure false) (hT2 : isSubtype (.type T) (.type "frozenset") = pure false) (hT3 : (Value.type T == Value.type "dict") = false)
    (B : Begins (.ref l) oi Hh) (hH : Hh s.heap) (W : ∀ I, l ≠ I → Walks P w A.in1.in1.in1 I [I, l] [I] n Pv (St I)) (hSt : ∀ I h, h.get? I = some oi → Hh h → St I 0 h) 
    (fill : ∀ {I : Addr} {fp wr : List Addr} {G : Array GenState → Array GenState → Prop} {St : Nat → Shared → Prop} {R : Result → Shared → Prop} (_ : WalksS P w A.in1.in1.in1 I fp wr G n Pv St), s.heap.objs.size ∉ fp → (∀ b ∈ wr, s.heap.get? b = none) → ∀ s1, St 0 s1 → (∀ b o, s.heap.get? b = some o → s1.heap.get? b = some o) →
      s1.heap.get? s.heap.objs.size = some (newSetObj w) → (∀ s', Moved (s.heap.objs.size :: wr) G s1 s' → Done s'.heap → (∀ b o, s.heap.get? b = some o → s'.heap.get? b = some o) → R (.ok (.ret .none)) s') → codeAny (model P w) A.in1.in1 (.builtin "set.update.loop" ⟨[.ref s.heap.objs.size, .ref I], []⟩) R s1)
    (h : ∀ (h' : Heap) (tk : Nat), Done h' → (∀ b o, s.heap.get? b = some o → h'.get? b = some o) → Q (.ref s.heap.objs.size) { s with heap := h', toks := tk }) : wpAny (model P w) A (call (.type "set") [.ref l]) Q E s := by
  obtain ⟨mc, mt, hmro⟩ := id F.called_set.mro; have hmade := id F.called_set.made; have hsub := id F.called_set.sub
  refine wpAny_call (codeAny_of_tree (show wpAny _ _ (callAny (.type "set") _) _ _ _ from ?_))
  refine wpAny_pure ⟨Code.quiet_builtin _ (by decide +kernel), codeAny_builtin F.entry_type_call ?_⟩; rw [Around.under_plain (weight_type_call_type "set" [.ref l] []) rfl]
  have n1 := id F.called_set.notType; have n2 := id F.called_set.canCreate; have n3 := F.typeCall_set_1 (.ref l)
  repeat (any_goals (first | assumption | wp_step))

  refine codeAny_mono (code_set_led1 (.ref l) (E := E) (Q₁ := fun obj s1 => obj = .ref s.heap.objs.size ∧ s1 = { s with heap := s.heap.push (newSetObj w) }) ⟨rfl, rfl⟩) fun r s1 hr => ?_
  match r, hr with
  | .error e, hr => exact hr
  | .ok (.ret obj), hr =>
    obtain ⟨rfl, rfl⟩ := hr
    have gS : (s.heap.push (newSetObj w)).get? s.heap.objs.size = some (newSetObj w) := Heap.get?_push_size _ rfl
    have tS : Shared.TypeIs { s with heap := s.heap.push (newSetObj w) } (.ref s.heap.objs.size) "set" := ⟨_, gS, rfl⟩
    have i1 := id F.called_set.init.lookup; have i2 := F.called_set.init.bind (.ref s.heap.objs.size)
    repeat (any_goals (first | assumption | wp_step))

    refine codeAny_mono (codeAny_call_builtin (R := wants (fun r s2 => r = .none ∧ ∃ h' tk, s2 = { s with heap := h', toks := tk } ∧ Done h' ∧ (∀ b o, s.heap.get? b = some o → h'.get? b = some o)) E) F.called_set.init.plain F.entry_set_init (check_set_init_1 tS ?_)) fun r2 s2 h2 => ?_
    · obtain ⟨cc, dd, dt, sl⟩ := ol
      simp only at hcl
      subst hcl
      have gl : (s.heap.push (newSetObj w)).get? l = some { cls := .type T, dict := dd, data := dt, slots := sl } := Heap.get?_push_of_some _ hol
      have hl : l < s.heap.objs.size := Heap.lt_size hol
      unfold Builtin.«set.__init__» noKeywords Builtin.Frozenset.updateFrom
      generalize ePI : pyIter = PI
      wp_walk
      subst ePI
      have H1 := B.keeps _ (s.heap.push (newSetObj w)) hH fun b o e => Heap.get?_push_of_some _ e
      refine B.iter _ _ _ _ _ _ H1 ?_
      refine wpAny_bind (wpAny_runValue ?_)
      have sz : (s.heap.push (newSetObj w)).objs.size = s.heap.objs.size + 1 := Heap.size_push ..
      have gone : ∀ b, s.heap.objs.size ≤ b → s.heap.get? b = none := fun b hb => by
        cases q : s.heap.get? b with
        | none => rfl
        | some o => exact absurd (Nat.lt_of_lt_of_le (Heap.lt_size q) hb) (Nat.lt_irrefl _)
      have gI := Heap.get?_push_size (s.heap.push (newSetObj w)) (o := oi) B.free
      have gS2 : ((s.heap.push (newSetObj w)).push oi).get? s.heap.objs.size = some (newSetObj w) := Heap.get?_push_of_some _ gS
      refine fill ((W (s.heap.push (newSetObj w)).objs.size (by rw [sz]; exact Nat.ne_of_lt (Nat.lt_succ_of_lt hl))).toS) (fun z => by
        rw [sz] at z
        rcases List.mem_cons.mp z with e | z
        · exact absurd e (Nat.ne_of_lt (Nat.lt_succ_self _))
        · exact absurd (List.mem_singleton.mp z) (Nat.ne_of_gt hl)) (fun b hb => gone b (by rw [List.mem_singleton.mp hb, sz]; exact Nat.le_succ _)) _
        (hSt _ _ gI (B.keeps _ _ H1 fun b o e => Heap.get?_push_of_some _ e)) (fun b o e => Heap.get?_push_of_some _ (Heap.get?_push_of_some _ e)) gS2 fun s2 hm q1 q3 => ?_
      obtain ⟨h', g2, d2, tk, os2⟩ := s2
      obtain rfl : g2 = s.gens := hm.gens
      obtain rfl : d2 = s.drawn := hm.drawn
      obtain rfl : os2 = s.os := hm.os
      show wpAny _ _ _ _ _ _
      refine wpAny_pure (show wpAny _ _ (ret Value.none) _ _ _ from wpAny_pure ⟨rfl, h', tk, rfl, q1, q3⟩)
    · match r2, h2 with
      | .error e, h2 => exact h2
      | .ok (.ret r), h2 =>
        obtain ⟨rfl, h', tk, rfl, q1, q3⟩ := h2
        repeat (any_goals (first | assumption | wp_step))
        exact h _ _ q1 q3
      | .ok .next, h2 => exact h2.elim
      | .ok .brk, h2 => exact h2.elim
      | .ok .cont, h2 => exact h2.elim
  | .ok .next, hr => exact hr.elim
  | .ok .brk, hr => exact hr.elim
  | .ok .cont, hr => exact hr.elim

theorem call_setN {l : Addr} {T : String} {ol oi : Obj} {Hh : Heap → Prop} {Pv : Nat → Value → Prop} {St : Addr → Nat → Heap → Prop} {ks : List (Addr × NestedKey)} {Q : Value → Shared → Prop} (hol : s.heap.get? l = some ol) (hcl : ol.cls = .type T) (hT1 : isSubtype (.type T) (.type "set") = pure false) (hT2 : isSubtype (.type T) (.type "frozenset") = pure false) (hT3 : (Value.type T == Value.type "dict") = false)
    (B : Begins (.ref l) oi Hh) (hH : Hh s.heap) (W : ∀ I, l ≠ I → Walks P w A.in1.in1.in1 I [I, l] [I] ks.length Pv (St I)) (hSt : ∀ I h, h.get? I = some oi → Hh h → St I 0 h) (hval : ∀ i v, Pv i v → ∃ p, ks[i]? = some p ∧ v = .ref p.1)
    (hk : ∀ p ∈ ks, IsN s.heap p.2 p.1) (hfew : ks.length < 64) (hu : A.units + 11 < cLine)
    (h : ∀ (h' : Heap) (tk : Nat) L es ep t, SN w h' s.heap.objs.size L es ep t → Had ks ks.length L → (∀ b o, s.heap.get? b = some o → h'.get? b = some o) → Q (.ref s.heap.objs.size) { s with heap := h', toks := tk }) : wpAny (model P w) A (call (.type "set") [.ref l]) Q E s := by
  have gone : ∀ b, s.heap.objs.size ≤ b → s.heap.get? b = none := fun b hb => by
    cases q : s.heap.get? b with
    | none => rfl
    | some o => exact absurd (Nat.lt_of_lt_of_le (Heap.lt_size q) hb) (Nat.lt_irrefl _)
  refine call_setG (Done := fun h' => ∃ L es ep t, SN w h' s.heap.objs.size L es ep t ∧ Had ks ks.length L) hol hcl hT1 hT2 hT3 B hH W hSt (fun Wk hSf hwr s1 h0 hold hnew k => ?_) fun h' tk ⟨L, es, ep, t, q1, q2⟩ q3 => h h' tk L es ep t q1 q2 q3
  exact fill_at (h0 := s.heap) Wk (S := s.heap.objs.size) hSf hfew hval hk (gone _ (Nat.le_refl _)) hwr (by show A.units + 1 + 1 + 1 + 8 < cLine; omega) (ks.length - 0) 0 _ rfl (Nat.zero_le _) h0 hold ⟨[], #[], 0, _, SN.fresh hnew, Had.zero ks⟩ fun s2 L es ep t hm q1 q2 q3 => k s2 hm ⟨L, es, ep, t, q1, q2⟩ q3
/-- set(xs) of whole numbers -/
theorem call_setI {l : Addr} {T : String} {ol oi : Obj} {Hh : Heap → Prop} {Pv : Nat → Value → Prop} {St : Addr → Nat → Heap → Prop} {ns : List Int} {Q : Value → Shared → Prop} (hol : s.heap.get? l = some ol) (hcl : ol.cls = .type T) (hT1 : isSubtype (.type T) (.type "set") = pure false) (hT2 : isSubtype (.type T) (.type "frozenset") = pure false) (hT3 : (Value.type T == Value.type "dict") = false)
    (B : Begins (.ref l) oi Hh) (hH : Hh s.heap) (W : ∀ I, l ≠ I → Walks P w A.in1.in1.in1 I [I, l] [I] ns.length Pv (St I)) (hSt : ∀ I h, h.get? I = some oi → Hh h → St I 0 h) 
    (hval : ∀ i v, Pv i v → ∃ k t, ns[i]? = some k ∧ v = .int k t) (hb : ns.length + 1 < scanBound)
    (h : ∀ (h' : Heap) (tk c : Nat), SetR w h' s.heap.objs.size (fun j => decide (j ∈ ns)) c → (∀ b o, s.heap.get? b = some o → h'.get? b = some o) → Q (.ref s.heap.objs.size) { s with heap := h', toks := tk }) : wpAny (model P w) A (call (.type "set") [.ref l]) Q E s := by
  have gone : ∀ b, s.heap.objs.size ≤ b → s.heap.get? b = none := fun b hb => by
    cases q : s.heap.get? b with
    | none => rfl
    | some o => exact absurd (Nat.lt_of_lt_of_le (Heap.lt_size q) hb) (Nat.lt_irrefl _)
  refine call_setG (Done := fun h' => ∃ c, SetR w h' s.heap.objs.size (fun j => decide (j ∈ ns)) c) hol hcl hT1 hT2 hT3 B hH W hSt (fun Wk hSf hwr s1 h0 hold hnew k => ?_) fun h' tk ⟨c, q1⟩ q3 => h h' tk c q1 q3
  refine set_update_ints Wk _ hSf ns rfl hb hval (ns.length - 0) 0 s1 rfl (Nat.zero_le _) h0 ⟨0, Nat.le_refl _, setR_new_at hnew⟩ fun s' c hm hc q1 => k s' hm ⟨c, q1⟩ fun b o e => hm.heap b o (fun hbm => ?_) (hold b o e)
  rcases List.mem_cons.mp hbm with e2 | hbm
  · rw [e2, gone _ (Nat.le_refl _)] at e; cases e
  · rw [hwr b hbm] at e; cases e
end
end DL
set_option Elab.async false
set_option linter.all false
set_option maxRecDepth 100000
set_option maxHeartbeats 4000000
/-! DLs5: sets as data -/
namespace DL
open PySem PySem.Spec PyProof.Rows L2
mutual
theorem toK_inj : ∀ (x y : D), x.keyable = true → y.keyable = true → x.toK = y.toK → x = y
  | .int i, .int j, _, _, h => by simp only [D.toK, NestedKey.num.injEq] at h; rw [h]
  | .int i, .tup ys, _, _, h => by simp [D.toK] at h
  | .tup xs, .int j, _, _, h => by simp [D.toK] at h
  | .tup xs, .tup ys, hx, hy, h => by
    simp only [D.toK, NestedKey.tup.injEq] at h
    rw [toKL_inj xs ys (by simpa only [D.keyable] using hx) (by simpa only [D.keyable] using hy) h]
theorem toKL_inj : ∀ (xs ys : List D), keyableL xs = true → keyableL ys = true → toKL xs = toKL ys → xs = ys
  | [], [], _, _, _ => rfl
  | [], _ :: _, _, _, h => by simp [toKL] at h
  | _ :: _, [], _, _, h => by simp [toKL] at h
  | x :: xs, y :: ys, hx, hy, h => by
    simp only [keyableL, Bool.and_eq_true] at hx hy
    simp only [toKL, List.cons.injEq] at h
    rw [toK_inj x y hx.1 hy.1 h.1, toKL_inj xs ys hx.2 hy.2 h.2]
end
mutual
theorem key_hard : ∀ (x : D), x.keyable = true → hard x.toK = true ∧ x.toK.depth = x.toP.depth
  | .int i, _ => by simp [D.toK, D.toP, hard, NestedKey.depth, PyData.depth]
  | .tup xs, h => by
    have := keyL_hard xs (by simpa only [D.keyable] using h)
    simp only [D.toK, D.toP, hard, NestedKey.depth, PyData.depth]
    exact ⟨this.1, by rw [this.2]⟩
theorem keyL_hard : ∀ (xs : List D), keyableL xs = true → hardAll (toKL xs) = true ∧ NestedKey.depthAll (toKL xs) = PyData.depthAll (toPL xs)
  | [], _ => by simp [toKL, toPL, hardAll, NestedKey.depthAll, PyData.depthAll]
  | x :: xs, h => by
    simp only [keyableL, Bool.and_eq_true] at h
    obtain ⟨h1, h2⟩ := key_hard x h.1
    obtain ⟨h3, h4⟩ := keyL_hard xs h.2
    simp only [toKL, toPL, hardAll, NestedKey.depthAll, PyData.depthAll, Bool.and_eq_true]
    exact ⟨⟨h1, h3⟩, by rw [h2, h4]⟩
end
section
variable {X : Cx} {pins : List (Addr × Obj)} {σ : L2.St} {H : Hp} {s : Shared} {z m : List Addr}
mutual
theorem key_is (I : Inv X pins σ H s) : ∀ (x : D) (v : V) (u : Value), x.keyable = true → Rp (kt X z) m H x v → RelV v u → NestedIs s.heap x.toK u
  | .int i, v, u, _, h, r => by
    cases h.int
    obtain ⟨t, rfl⟩ := r
    simp only [D.toK]
    exact .int i t
  | .tup xs, v, u, hk, h, r => by
    obtain ⟨p, vs, rfl, h1, h2⟩ := h.tupAt
    cases r
    obtain ⟨us, rv, ⟨o, ho, hc, n, hd⟩, hz⟩ := I.tuple h1
    simp only [D.toK]
    exact .tup ho hc hd (by simpa using keys_is I xs vs us (by simpa only [D.keyable] using hk) h2 rv)
theorem keys_is (I : Inv X pins σ H s) : ∀ (xs : List D) (vs : List V) (us : List Value), keyableL xs = true → RpL (kt X z) m H xs vs → Vals vs us → NestedAll s.heap (toKL xs) us
  | [], vs, us, _, h, r => by
    simp only [RpL] at h
    subst h
    cases r
    simp only [toKL]
    exact .nil
  | x :: xs, vs, us, hk, h, r => by
    simp only [RpL] at h
    simp only [keyableL, Bool.and_eq_true] at hk
    obtain ⟨v, vs, rfl, h1, h2⟩ := h
    cases r with
    | cons r1 r2 =>
    simp only [toKL]
    exact .cons (key_is I x _ _ hk.1 h1 r1) (keys_is I xs _ _ hk.2 h2 r2)
end
end
end DL
set_option Elab.async false
set_option linter.all false
set_option maxRecDepth 100000
set_option maxHeartbeats 4000000
/-! DLs6: set(xs) as data -/
namespace DL
open PySem PySem.Spec PyProof.Rows L2
theorem dedup_mem : ∀ (xs seen : List D), (∀ x ∈ seen, x.keyable = true) → (∀ x ∈ xs, x.keyable = true) → ∀ y, y ∈ dedup seen xs ↔ y ∈ seen ∨ y ∈ xs
  | [], seen, _, _, y => by simp [dedup]
  | x :: xs, seen, hs, hx, y => by
    have hx0 := hx x (List.mem_cons_self ..)
    have hx1 : ∀ y ∈ xs, y.keyable = true := fun y h => hx y (List.mem_cons_of_mem _ h)
    simp only [dedup]
    split
    · rename_i h
      obtain ⟨w, hw, e⟩ := List.any_eq_true.mp h
      have e' := (eqD_key w x (hs w hw) hx0).mp e
      subst e'
      rw [dedup_mem xs seen hs hx1 y, List.mem_cons]
      exact ⟨fun h => h.elim .inl fun h => .inr (.inr h), fun h => h.elim .inl fun h => h.elim (fun h => .inl (h ▸ hw)) .inr⟩
    · rw [dedup_mem xs (x :: seen) (fun z hz => (List.mem_cons.mp hz).elim (fun e => e ▸ hx0) (hs z)) hx1 y, List.mem_cons, List.mem_cons]
      exact ⟨fun h => h.elim (fun h => h.elim (fun h => .inr (.inl h)) .inl) fun h => .inr (.inr h), fun h => h.elim (fun h => .inl (.inr h)) fun h => h.elim (fun h => .inl (.inl h)) .inr⟩
theorem dedup_nodup : ∀ (xs seen : List D), (∀ x ∈ seen, x.keyable = true) → (∀ x ∈ xs, x.keyable = true) → seen.Nodup → (dedup seen xs).Nodup
  | [], seen, _, _, h => by simp only [dedup]; exact (List.reverse_perm seen).nodup_iff.mpr h
  | x :: xs, seen, hs, hx, h => by
    have hx0 := hx x (List.mem_cons_self ..)
    have hx1 : ∀ y ∈ xs, y.keyable = true := fun y h => hx y (List.mem_cons_of_mem _ h)
    simp only [dedup]
    split
    · exact dedup_nodup xs seen hs hx1 h
    · rename_i hn
      refine dedup_nodup xs (x :: seen) (fun z hz => (List.mem_cons.mp hz).elim (fun e => e ▸ hx0) (hs z)) hx1 (List.nodup_cons.mpr ⟨fun hm => hn ?_, h⟩)
      exact List.any_eq_true.mpr ⟨x, hm, (eqD_key x x hx0 hx0).mpr rfl⟩
theorem toKL_map : ∀ xs : List D, toKL xs = xs.map D.toK
  | [] => rfl
  | x :: xs => by simp [toKL, toKL_map xs]
section
variable {k : Kt} {m : List Addr} {H : Hp}
theorem RpL.ix {xs : List D} {as : List Addr} (h : RpL k m H xs (as.map V.ref)) {a : Addr} {key : NestedKey} (hm : (a, key) ∈ as.zip (xs.map D.toK)) : ∃ d ∈ xs, d.toK = key ∧ Rp k m H d (.ref a) := by
  obtain ⟨i, hi, e⟩ := List.mem_iff_getElem.mp hm
  have l1 := h.length
  rw [List.length_map] at l1
  rw [List.length_zip, List.length_map] at hi
  have hx : i < xs.length := by omega
  have ha : i < as.length := by omega
  rw [List.getElem_zip] at e
  simp only [List.getElem_map, Prod.mk.injEq] at e
  obtain ⟨v, h1, h2⟩ := h.get (List.getElem?_eq_getElem hx)
  rw [List.getElem?_map, List.getElem?_eq_getElem ha] at h1
  cases h1
  exact ⟨xs[i], List.getElem_mem hx, e.2, by rw [← e.1]; exact h2⟩
theorem pick_all {L2 : List (Addr × NestedKey)} : ∀ (ys : List D), (∀ y ∈ ys, ∃ a, (a, y.toK) ∈ L2 ∧ Rp k m H y (.ref a)) → ∃ la : List Addr, la.length = ys.length ∧ RpL k m H ys (la.map V.ref) ∧ ∀ q ∈ la.zip (ys.map D.toK), q ∈ L2
  | [], _ => ⟨[], rfl, RpL.nil, fun q h => by simp at h⟩
  | y :: ys, h => by
    obtain ⟨a, h1, h2⟩ := h y (List.mem_cons_self ..)
    obtain ⟨la, e1, e2, e3⟩ := pick_all ys fun z hz => h z (List.mem_cons_of_mem _ hz)
    refine ⟨a :: la, by simp [e1], RpL.cons h2 e2, fun q hq => ?_⟩
    rw [List.map_cons, List.zip_cons_cons] at hq
    rcases List.mem_cons.mp hq with rfl | hq
    · exact h1
    · exact e3 q hq
theorem one_of {α β : Type} {f : α → β} : ∀ {l : List α}, (l.map f).Nodup → ∀ {x y : α}, x ∈ l → y ∈ l → f x = f y → x = y
  | [], _, _, _, hx, _, _ => by cases hx
  | a :: l, h, x, y, hx, hy, e => by
    rw [List.map_cons, List.nodup_cons] at h
    rcases List.mem_cons.mp hx with e1 | h1
    · rcases List.mem_cons.mp hy with e2 | h2
      · rw [e1, e2]
      · exact absurd (List.mem_map.mpr ⟨y, h2, by rw [← e, e1]⟩) h.1
    · rcases List.mem_cons.mp hy with e2 | h2
      · exact absurd (List.mem_map.mpr ⟨x, h1, by rw [e, e2]⟩) h.1
      · exact one_of h.2 h1 h2 e
/-- what a set holds, told by its data -/
theorem set_rel {xs : List D} {as : List Addr} {L2 : List (Addr × NestedKey)} (hk : ∀ x ∈ xs, x.keyable = true) (h : RpL k m H xs (as.map V.ref)) (one : (L2.map (·.2)).Nodup) (g : Had (as.zip (xs.map D.toK)) (as.zip (xs.map D.toK)).length L2) :
    ∃ la : List Addr, RpL k m H (dedup [] xs) (la.map V.ref) ∧ L2.Perm (la.zip ((dedup [] xs).map D.toK)) := by
  have mem : ∀ y, y ∈ dedup [] xs ↔ y ∈ xs := fun y => by rw [dedup_mem xs [] (fun x h => by cases h) hk y]; simp
  have nd : (dedup [] xs).Nodup := dedup_nodup xs [] (fun x h => by cases h) hk List.nodup_nil
  have l1 := h.length
  rw [List.length_map] at l1
  have sub : ∀ q ∈ L2, q ∈ as.zip (xs.map D.toK) := fun q hq => by
    have := g.sub q hq
    rwa [List.take_length] at this
  have ndK : ((dedup [] xs).map D.toK).Nodup := by
    refine List.pairwise_map.mpr (List.Pairwise.imp_of_mem (fun {x y} hx hy hne e => ?_) nd)
    exact hne (toK_inj x y (hk x ((mem x).mp hx)) (hk y ((mem y).mp hy)) e)
  obtain ⟨la, e1, e2, e3⟩ := pick_all (L2 := L2) (k := k) (m := m) (H := H) (dedup [] xs) fun y hy => by
    have hyx := (mem y).mp hy
    -- its key is among the members
    have hky : y.toK ∈ L2.map (·.2) := by
      obtain ⟨i, hi, e⟩ := List.mem_iff_getElem.mp hyx
      have hz : i < (as.zip (xs.map D.toK)).length := by rw [List.length_zip, List.length_map]; omega
      have := g.all (as.zip (xs.map D.toK))[i] (by rw [List.take_length]; exact List.getElem_mem hz)
      rw [List.getElem_zip] at this
      simpa [e] using this
    obtain ⟨q, hq, eq⟩ := List.mem_map.mp hky
    obtain ⟨a, key⟩ := q
    dsimp only at eq
    subst eq
    obtain ⟨d, hd, ed, rd⟩ := h.ix (sub _ hq)
    exact ⟨a, hq, by rw [← toK_inj d y (hk d hd) (hk y hyx) ed]; exact rd⟩
  refine ⟨la, e2, ?_⟩
  have keys : (la.zip ((dedup [] xs).map D.toK)).map (·.2) = (dedup [] xs).map D.toK := by
    rw [List.map_snd_zip]
    rw [List.length_map, e1]
    exact Nat.le_refl _
  have ndZ : (la.zip ((dedup [] xs).map D.toK)).Nodup := _root_.L2.nodup_of_map (f := (·.2)) (by rw [keys]; exact ndK)
  have ndL : L2.Nodup := _root_.L2.nodup_of_map one
  have uniq : ∀ q ∈ L2, ∀ r ∈ L2, q.2 = r.2 → q = r := fun q hq r hr e => one_of one hq hr e
  refine (List.perm_ext_iff_of_nodup ndL ndZ).mpr fun q => ⟨fun hq => ?_, fun hq => e3 q hq⟩
  obtain ⟨a, key⟩ := q
  obtain ⟨d, hd, ed, rd⟩ := h.ix (sub _ hq)
  have hkey : key ∈ (la.zip ((dedup [] xs).map D.toK)).map (·.2) := by
    rw [keys, ← ed]
    exact List.mem_map.mpr ⟨d, (mem d).mpr hd, rfl⟩
  obtain ⟨r, hr, er⟩ := List.mem_map.mp hkey
  rw [← uniq r (e3 r hr) (a, key) hq er]
  exact hr
end
end DL
set_option Elab.async false
set_option linter.all false
set_option maxRecDepth 100000
set_option maxHeartbeats 4000000
/-! DLs7: set(xs) -/
namespace DL
open PySem PySem.Spec PyProof.Rows L2
section
variable {X : Cx} {W : WX}
def tupKey (x : D) : Bool := isTupD x && x.keyable && decide (x.toP.depth ≤ 8)
theorem refs_of {k : Kt} {m : List Addr} {H : Hp} : ∀ {xs : List D} {vs : List V}, xs.all tupKey = true → RpL k m H xs vs → ∃ as : List Addr, vs = as.map V.ref
  | [], vs, _, h => by simp only [RpL] at h; exact ⟨[], h⟩
  | x :: xs, vs, hx, h => by
    simp only [RpL] at h
    obtain ⟨v, vs, rfl, h1, h2⟩ := h
    rw [List.all_cons, Bool.and_eq_true] at hx
    obtain ⟨as, rfl⟩ := refs_of hx.2 h2
    cases x with
    | tup ys => obtain ⟨p, ws, rfl, _⟩ := h1.tupAt; exact ⟨p :: as, rfl⟩
    | _ => simp [tupKey, isTupD] at hx
theorem vals_refs2 : ∀ {as : List Addr} {us : List Value}, Vals (as.map V.ref) us → us = as.map Value.ref
  | [], us, h => by cases h; rfl
  | a :: as, us, h => by
    cases h with
    | cons h1 h2 =>
    cases h1
    rw [vals_refs2 h2]
    rfl
theorem SN.n0 {w : World} {h : Heap} {a : Addr} {L : List (Addr × NestedKey)} {es : Array (Int × Value)} {ep : Nat} {t : SetTable} (R : SN w h a L es ep t) : SetN0 w h a L := ⟨es, ep, t, R.obj, R.row, R.tab, R.one, R.pln, R.led, R.big, R.few⟩
theorem setHO_ok {P : Program} {w : World} {H : Hp} {h : Heap} {a : Addr} {L : List (Addr × NestedKey)} (R : SetN0 w h a L) : ObjOk P w H h a (setHO w a L) := by
  obtain ⟨es, ep, t, ⟨o, ho, r⟩, rest⟩ := id R.ex
  refine ⟨R, ⟨o, ho⟩, fun h1 h2 q hk => ?_⟩
  obtain ⟨es, ep, t, ⟨o, ho, r⟩, rest⟩ := q.ex
  exact ⟨es, ep, t, ⟨o, hk o ho, r⟩, rest⟩
theorem ints_of_all : ∀ {xs : List D}, xs.all isIntD = true → ∃ ns : List Int, xs = ns.map D.int
  | [], _ => ⟨[], rfl⟩
  | x :: xs, h => by
    rw [List.all_cons, Bool.and_eq_true] at h
    obtain ⟨ns, rfl⟩ := ints_of_all h.2
    cases x with
    | int i => exact ⟨i :: ns, rfl⟩
    | _ => simp [isIntD] at h
theorem ints_item : ∀ {us : List Value} {ns : List Int}, IntsAre us ns → ∀ (i : Nat) (v : Value), us[i]? = some v → ∃ k t, ns[i]? = some k ∧ v = .int k t
  | _, _, .nil, i, v, h => by simp at h
  | _, _, .cons n t h, i, v, e => by
    cases i with
    | zero =>
      simp only [List.getElem?_cons_zero, Option.some.injEq] at e
      subst e
      exact ⟨n, t, rfl, rfl⟩
    | succ i => simpa using ints_item h i v (by simpa using e)
theorem set_ints (hc : X.calm = true) {z m : List Addr} {S : Sto} {σ : L2.St} {H : Hp} {d : D} {v : V} {xs : List D} {Q : VK} (s : Sim (kt X z) m S H) (r : Rp (kt X z) m H d v) (e : seqOf S d = some xs) (hi : xs.all isIntD = true) (hl : xs.length < 4000)
    (p : PostE X z W σ m H (.ok (.set (dedup [] xs)) S) Q) : semC X (.type "set") [v] H Q := by
  obtain ⟨q, vs, rfl, h1, h2⟩ := seqOf_at s r e
  have hk : ∀ x ∈ xs, x.keyable = true := fun x hx => by
    have := List.all_eq_true.mp hi x hx
    cases x <;> first | rfl | (simp [isIntD] at this; done)
  have hd2 : (dedup [] xs).all isIntD = true := by
    rw [List.all_eq_true]
    intro x hx
    have := (dedup_mem xs [] (fun x h => by cases h) hk x).mp hx
    exact List.all_eq_true.mp hi x (by simpa using this)
  obtain ⟨ms, em⟩ := ints_of_all hd2
  have mm : ∀ j : Int, j ∈ ms ↔ D.int j ∈ xs := fun j => by
    have h3 := dedup_mem xs [] (fun x h => by cases h) hk (.int j)
    rw [em] at h3
    simpa using h3
  have nd : ms.Nodup := by
    have h3 := dedup_nodup xs [] (fun x h => by cases h) hk List.nodup_nil
    rw [em] at h3
    exact _root_.L2.nodup_of_map h3
  obtain ⟨ns, rfl⟩ := ints_of_all hi
  obtain rfl := h2.ints
  rw [List.length_map] at hl
  intro pins s1 σ' us0 I rx
  obtain ⟨u, rfl, rv⟩ := vals1 rx
  cases rv
  have hd3 : X.A.in1.in1.in1.handled = none := I.ok.hd hc
  have fin : ∀ (h' : Heap) (tk c : Nat), SetR X.w h' s1.heap.objs.size (fun j => decide (j ∈ ns)) c → (∀ b o, s1.heap.get? b = some o → h'.get? b = some o) → EP X pins σ' Q (.ref s1.heap.objs.size) { s1 with heap := h', toks := tk } := fun h' tk c R k => by
    have hn : H s1.heap.objs.size = none := I.hok.fresh (Nat.le_refl _)
    refine ⟨.ref s1.heap.objs.size, _, I.laid (t' := tk) k (Nat.le_refl _) (setO_new R), rfl, p.aside s hn ?_⟩
    simp only [RE, Rp]
    refine ⟨_, rfl, ⟨s.notin hn, s.nohid hn⟩, .inr ⟨ms, _, c, em, nd, fun j => ?_, upd_same⟩⟩
    rw [decide_eq_true_eq, mm j]
    simp
  have val : ∀ {us : List Value}, IntsAre us ns → ∀ (i : Nat) (v : Value), us.toArray[i]? = some v → ∃ k t, ns[i]? = some k ∧ v = .int k t := fun {us} hia i v hv => ints_item hia i v (by simpa using hv)
  have hb : ns.length + 1 < scanBound := by
    have : scanBound = 4096 := rfl
    omega
  rcases h1 with h1 | h1
  · obtain ⟨us, rv, pl, hz⟩ := I.list h1
    have hia := ints_of_vals rv
    obtain ⟨ol, g1, g2, g3⟩ := id pl.isList
    have e2 : us.toArray.size = ns.length := by have := hia.length; simpa using this
    refine call_setI (St := fun I i h => h.IsListIter I q i ∧ h.IsList q us.toArray) g1 g2 F.sub_list_set F.sub_list_frozenset (by decide) (begins_list q us.toArray) pl.isList (fun I hne => ?_) (fun I h hI hH => ⟨⟨_, hI, rfl, rfl⟩, hH⟩) (val hia) hb fin
    rw [← e2]
    exact Walks.list hd3 I q hne _
  · obtain ⟨us, rv, pl, hz⟩ := I.tuple h1
    have hia := ints_of_vals rv
    have tup : s1.heap.IsTuple q us.toArray := pl
    obtain ⟨ol, g1, g2, g3⟩ := id tup
    have e2 : us.toArray.size = ns.length := by have := hia.length; simpa using this
    refine call_setI (St := fun I i h => h.IsTupleIter I q i ∧ h.IsTuple q us.toArray) g1 g2 F.sub_tuple_set F.sub_tuple_frozenset (by decide) (begins_tuple q us.toArray) tup (fun I hne => ?_) (fun I h hI hH => ⟨⟨_, hI, rfl, rfl⟩, hH⟩) (val hia) hb fin
    rw [← e2]
    exact Walks.tuple hd3 I q hne _
theorem sc_set (hc : X.calm = true) (hu : X.A.units + 100 < cLine) : SC1 X (.type "set") (p1 .set) := by
  intro z W m S σ H d v Q s r p
  simp only [DL.p1] at p
  split at p
  · rename_i xs e1
    split at p
    · rename_i hs
      simp only [setable, Bool.or_eq_true] at hs
      rcases hs with hs | hs
      rotate_left
      · simp only [Bool.and_eq_true, decide_eq_true_eq] at hs
        exact set_ints hc s r e1 hs.1 hs.2 p
      simp only [setableT, Bool.and_eq_true, decide_eq_true_eq] at hs
      obtain ⟨hall, hlen⟩ := hs
      have hall : xs.all tupKey = true := hall
      obtain ⟨q, vs, rfl, h1, h2⟩ := seqOf_at s r e1
      obtain ⟨as, rfl⟩ := refs_of hall h2
      have key : ∀ x ∈ xs, x.keyable = true ∧ x.toP.depth ≤ 8 := fun x hx => by
        have := List.all_eq_true.mp hall x hx
        simp only [tupKey, Bool.and_eq_true, decide_eq_true_eq] at this
        exact ⟨this.1.2, this.2⟩
      intro pins s1 σ' us0 I rx
      obtain ⟨u, rfl, rv⟩ := vals1 rx
      cases rv
      have hl : xs.length = as.length := by have := h2.length; rwa [List.length_map] at this
      have hks : (as.zip (xs.map D.toK)).length = as.length := by rw [List.length_zip, List.length_map]; omega
      have hd3 : X.A.in1.in1.in1.handled = none := I.ok.hd hc
      have isn : ∀ r ∈ as.zip (xs.map D.toK), IsN s1.heap r.2 r.1 := fun r hr => by
        obtain ⟨x, hx, ex, rx⟩ := h2.ix (a := r.1) (key := r.2) hr
        have h3 := key_is I x _ (.ref r.1) (key x hx).1 rx rfl
        have h4 := key_hard x (key x hx).1
        rw [ex] at h3 h4
        exact ⟨h3, by rw [h4.2]; exact (key x hx).2, h4.1⟩
      have val : ∀ (i : Nat) (v : Value), (as.map Value.ref).toArray[i]? = some v → ∃ r, (as.zip (xs.map D.toK))[i]? = some r ∧ v = .ref r.1 := fun i v hv => by
        have hv : (as.map Value.ref)[i]? = some v := by simpa using hv
        rw [List.getElem?_map] at hv
        cases ha : as[i]? with
        | none => rw [ha] at hv; cases hv
        | some b =>
          rw [ha] at hv
          cases hv
          have hi := (List.getElem?_eq_some_iff.mp ha).1
          have hix : i < xs.length := by omega
          refine ⟨(b, xs[i].toK), ?_, rfl⟩
          rw [List.getElem?_zip_eq_some]
          exact ⟨ha, by rw [List.getElem?_map, List.getElem?_eq_getElem hix]; rfl⟩
      have fin : ∀ (h' : Heap) (tk : Nat) L es ep t, SN X.w h' s1.heap.objs.size L es ep t → Had (as.zip (xs.map D.toK)) (as.zip (xs.map D.toK)).length L → (∀ b o, s1.heap.get? b = some o → h'.get? b = some o) → EP X pins σ' Q (.ref s1.heap.objs.size) { s1 with heap := h', toks := tk } := fun h' tk L es ep t R g k => by
        obtain ⟨la, r1, r2⟩ := set_rel (fun x hx => (key x hx).1) h2 R.one g
        have hn : H s1.heap.objs.size = none := I.hok.fresh (Nat.le_refl _)
        refine ⟨.ref s1.heap.objs.size, _, I.laid (t' := tk) k (Nat.le_refl _) (setHO_ok R.n0), rfl, p.aside s hn ?_⟩
        simp only [RE, Rp]
        refine ⟨_, rfl, ⟨s.notin hn, s.nohid hn⟩, .inl ⟨la, L, r1.step (.aside hn), ?_, r2, upd_same⟩⟩
        rw [List.all_eq_true]
        intro x hx
        have hx2 : x ∈ xs := by
          have := (dedup_mem xs [] (fun x h => by cases h) (fun x hx => (key x hx).1) x).mp hx
          simpa using this
        exact List.all_eq_true.mp hall x hx2
      rcases h1 with h1 | h1
      · obtain ⟨us, rv, pl, hz⟩ := I.list h1
        rw [vals_refs2 rv] at pl
        obtain ⟨ol, g1, g2, g3⟩ := id pl.isList
        have e2 : (as.map Value.ref).toArray.size = (as.zip (xs.map D.toK)).length := by rw [hks]; simp
        refine call_setN (St := fun I i h => h.IsListIter I q i ∧ h.IsList q (as.map Value.ref).toArray) g1 g2 F.sub_list_set F.sub_list_frozenset (by decide) (begins_list q (as.map Value.ref).toArray) pl.isList (fun I hne => ?_) (fun I h hI hH => ⟨⟨_, hI, rfl, rfl⟩, hH⟩) val isn (by rw [hks]; omega) (by omega) fin
        rw [← e2]
        exact Walks.list hd3 I q hne _
      · obtain ⟨us, rv, pl, hz⟩ := I.tuple h1
        rw [vals_refs2 rv] at pl
        have tup : s1.heap.IsTuple q (as.map Value.ref).toArray := pl
        obtain ⟨ol, g1, g2, g3⟩ := id tup
        have e2 : (as.map Value.ref).toArray.size = (as.zip (xs.map D.toK)).length := by rw [hks]; simp
        refine call_setN (St := fun I i h => h.IsTupleIter I q i ∧ h.IsTuple q (as.map Value.ref).toArray) g1 g2 F.sub_tuple_set F.sub_tuple_frozenset (by decide) (begins_tuple q (as.map Value.ref).toArray) tup (fun I hne => ?_) (fun I h hI hH => ⟨⟨_, hI, rfl, rfl⟩, hH⟩) val isn (by rw [hks]; omega) (by omega) fin
        rw [← e2]
        exact Walks.tuple hd3 I q hne _
    · exact p.elim
  · exact p.elim
end
end DL
set_option Elab.async false
set_option linter.all false
set_option maxRecDepth 100000
set_option maxHeartbeats 4000000
/-! DLs8: sorted(a list, a tuple, a set) -/
namespace DL
open PySem PySem.Spec PyProof.Rows L2
/-- the members, in the machine's order, as data -/
theorem pick_perm {k : Kt} {m : List Addr} {H : Hp} {la as : List Addr} (hp : la.Perm as) : ∀ {xs : List D}, RpL k m H xs (as.map V.ref) → ∃ ys : List D, ys.Perm xs ∧ RpL k m H ys (la.map V.ref) := by
  induction hp with
  | nil => intro xs h; exact ⟨xs, .refl _, h⟩
  | cons a _ ih =>
    intro xs h
    cases xs with
    | nil => simp [RpL] at h
    | cons x xs =>
      simp only [RpL, List.map_cons, List.cons.injEq] at h
      obtain ⟨v, r, ⟨rfl, rfl⟩, h1, h2⟩ := h
      obtain ⟨ys, p, q⟩ := ih h2
      exact ⟨x :: ys, p.cons x, RpL.cons h1 q⟩
  | swap a b l =>
    intro xs h
    cases xs with
    | nil => simp [RpL] at h
    | cons x xs =>
      simp only [RpL, List.map_cons, List.cons.injEq] at h
      obtain ⟨v, r, ⟨rfl, rfl⟩, h1, h2⟩ := h
      cases xs with
      | nil => simp [RpL] at h2
      | cons y xs =>
        simp only [RpL, List.cons.injEq] at h2
        obtain ⟨v, r, ⟨rfl, rfl⟩, h3, h4⟩ := h2
        exact ⟨y :: x :: xs, .swap x y xs, RpL.cons h3 (RpL.cons h1 h4)⟩
  | trans _ _ ih1 ih2 =>
    intro xs h
    obtain ⟨ys, p, q⟩ := ih2 h
    obtain ⟨zs, p2, q2⟩ := ih1 q
    exact ⟨zs, p2.trans p, q2⟩
theorem each_reads {X : Cx} {z m : List Addr} {pins : List (Addr × Obj)} {σ : L2.St} {H : Hp} {s1 : Shared} (I : Inv X pins σ H s1) : ∀ {us : List Value} {ds : List D}, (∀ d ∈ ds, d.pure = true) → PySem.W.EachIs (fun u d => ∃ v, RelV v u ∧ Rp (kt X z) m H d v) us ds → PySem.W.EachIs (fun u d => ∃ as, Reads s1.heap u (D.toP d) as) us ds
  | _, _, _, .nil => .nil
  | _, _, hp, .cons ⟨v, h3, h4⟩ t => .cons (Dp.reads I _ _ _ (dp_of (k := kt X z) (hp _ (List.mem_cons_self ..)) h4) h3) (each_reads I (fun d hd => hp d (List.mem_cons_of_mem _ hd)) t)
mutual
theorem pure_key : ∀ (x : D), x.keyable = true → x.pure = true
  | .int i, _ => rfl
  | .tup xs, h => by
    simp only [D.pure]
    exact pureL_key xs (by simpa only [D.keyable] using h)
theorem pureL_key : ∀ (xs : List D), keyableL xs = true → pureL xs = true
  | [], _ => rfl
  | x :: xs, h => by
    simp only [keyableL, Bool.and_eq_true] at h
    simp only [pureL, Bool.and_eq_true]
    exact ⟨pure_key x h.1, pureL_key xs h.2⟩
end
theorem reads_keep {h h' : Heap} {us : List Value} {ds : List D} {a : Addr} (k : ∀ b o, h.get? b = some o → h'.get? b = some o) (e : PySem.W.EachIs (fun u d => ∃ as, Reads h u (D.toP d) as) us ds) : PySem.W.EachIs (fun u d => ∃ as, Reads h' u (D.toP d) as) us ds :=
  e.mono fun _ _ ⟨as, r⟩ => ⟨as, PyProof.Rows.Reads.keeps k r⟩
section
variable {X : Cx} {W : WX}
/-- what is known of a set that is to be sorted -/
theorem set_facts {z m : List Addr} {H : Hp} {a : Addr} {xs : List D} {pins : List (Addr × Obj)} {σ' : L2.St} {s1 : Shared} (I : Inv X pins σ' H s1)
    (r : ((∃ (L : List Addr) (L2 : List (Addr × NestedKey)), RpL (kt X z) m H xs (L.map V.ref) ∧ xs.all (fun x => isTupD x && x.keyable && decide (x.toP.depth ≤ 8)) = true ∧ L2.Perm (L.zip (xs.map D.toK)) ∧ H a = some (setHO X.w a L2)) ∨ SetI (kt X z) H a xs)) :
    (∀ x ∈ xs, x.keyable = true) ∧ ∃ (o : Obj) (es : Array (Int × Value)) (ep : Nat) (t : SetTable), s1.heap.get? a = some o ∧ o.ExactSet ∧ o.data = .set es ep t ∧ t.fits es.size = true ∧ es.size < scanBound ∧ Ris t.place.toList ∧ (X.w.params.followText "set-order" = true ∨ t.led = true) ∧
      ∀ vs : List Value, vs.Perm (es.toList.map (·.2)) → ∃ (ys : List D) (ws : List V), ys.Perm xs ∧ RpL (kt X z) m H ys ws ∧ Vals ws vs := by
  rcases r with ⟨L, L2, hr, hall, hperm, ha⟩ | ⟨ns, f, c, rfl, nd, hf, ha⟩
  · have hkey : ∀ x ∈ xs, x.keyable = true := fun x hx => by
      have := List.all_eq_true.mp hall x hx
      simp only [Bool.and_eq_true] at this
      exact this.1.2
    refine ⟨hkey, ?_⟩
    have R0 : SetN0 X.w s1.heap a L2 := (I.hok a _ ha).1
    obtain ⟨es, ep, t, ⟨o, hob, hex, hd⟩, rows, tab, one, pln, led, big, few⟩ := R0.ex
    have hl : xs.length = L.length := by have := hr.length; rwa [List.length_map] at this
    have hes : es.toList.map (·.2) = L2.map fun q => Value.ref q.1 := by
      rw [rows, List.map_map]
      rfl
    have hsz : es.size = L2.length := by
      have := congrArg List.length rows
      simpa using this
    have key : ∀ x ∈ xs, x.keyable = true ∧ x.toP.depth ≤ 8 := fun x hx => by
      have := List.all_eq_true.mp hall x hx
      simp only [Bool.and_eq_true, decide_eq_true_eq] at this
      exact ⟨this.1.2, this.2⟩
    have R : SN X.w s1.heap a L2 es ep t := ⟨⟨o, hob, hex, hd⟩, rows, tab, one, fun q hq => by
      have hq2 : (q.1, q.2) ∈ L.zip (xs.map D.toK) := hperm.mem_iff.mp hq
      obtain ⟨x, hx, ex, rx⟩ := hr.ix hq2
      have h3 := key_is I x _ (.ref q.1) (key x hx).1 rx rfl
      have h4 := key_hard x (key x hx).1
      rw [ex] at h3 h4
      exact ⟨h3, by rw [h4.2]; exact (key x hx).2, h4.1⟩, pln, led, big, few⟩
    refine ⟨o, es, ep, t, hob, hex, hd, R.fits, by unfold scanBound; omega, tab.ris, led, fun vs pm => ?_⟩
    rw [hes] at pm
    -- the values are references, at addresses in some order
    obtain ⟨la, rfl, pla⟩ : ∃ la : List Addr, vs = la.map Value.ref ∧ la.Perm L := by
      have h1 : L2.map (fun q => Value.ref q.1) = (L2.map (·.1)).map Value.ref := by rw [List.map_map]; rfl
      have h2 : (L2.map (·.1)).Perm L := by
        have := hperm.map (·.1)
        rwa [List.map_fst_zip] at this
        rw [List.length_map]; omega
      rw [h1] at pm
      have h3 := pm.trans (h2.map Value.ref)
      obtain ⟨la, e1, e2⟩ : ∃ la : List Addr, vs = la.map Value.ref ∧ la.Perm L := by
        have hall2 : ∀ v ∈ vs, ∃ b, v = Value.ref b := fun v hv => by
          obtain ⟨b, _, e⟩ := List.mem_map.mp (h3.mem_iff.mp hv)
          exact ⟨b, e.symm⟩
        have : ∀ vs : List Value, (∀ v ∈ vs, ∃ b, v = Value.ref b) → ∃ la : List Addr, vs = la.map Value.ref := by
          intro vs
          induction vs with
          | nil => intro _; exact ⟨[], rfl⟩
          | cons v vs ih =>
            intro h
            obtain ⟨b, rfl⟩ := h v (List.mem_cons_self ..)
            obtain ⟨la, rfl⟩ := ih fun w hw => h w (List.mem_cons_of_mem _ hw)
            exact ⟨b :: la, rfl⟩
        obtain ⟨la, rfl⟩ := this vs hall2
        refine ⟨la, rfl, ?_⟩
        have h4 := h3.map (fun v : Value => match v with | .ref b => b | _ => 0)
        simpa [List.map_map, Function.comp_def] using h4
      exact ⟨la, e1, e2⟩
    obtain ⟨ys, hyx, hry⟩ := pick_perm pla hr
    refine ⟨ys, _, hyx, hry, ?_⟩
    clear pm hry pla
    induction la with
    | nil => exact .nil
    | cons b la ih => exact .cons rfl ih
  · refine ⟨fun x hx => ?_, ?_⟩
    · obtain ⟨i, _, rfl⟩ := List.mem_map.mp hx
      rfl
    · obtain ⟨o, es, ep, t, ho, hex, hdt, g, nd2, hm2, hb, hft, hn, hr, hl2⟩ := setO_get I ha
      refine ⟨o, es, ep, t, ho, hex, hdt, hft, hb, hr, hl2, fun vs pm => ?_⟩
      have hv : ∀ v ∈ vs, ∃ k t, v = Value.int k t := fun v hv => by
        obtain ⟨e, he, ev⟩ := List.mem_map.mp (pm.mem_iff.mp hv)
        obtain ⟨kk, tt, e2, _⟩ := g e he
        exact ⟨kk, tt, ev.symm.trans e2⟩
      have hpk : (vs.map _root_.L2.vInt).Perm (es.toList.map keyOf) := by
        have z := pm.map _root_.L2.vInt
        rw [List.map_map] at z
        have ee : es.toList.map (_root_.L2.vInt ∘ fun x => x.2) = es.toList.map keyOf := List.map_congr_left fun e _ => (key_vInt e).symm
        rw [ee] at z
        exact z
      have pn : (vs.map _root_.L2.vInt).Perm ns := hpk.trans ((List.perm_ext_iff_of_nodup nd2 nd).mpr fun k => by rw [← hm2 k, hf k])
      refine ⟨(vs.map _root_.L2.vInt).map D.int, (vs.map _root_.L2.vInt).map V.int, pn.map D.int, ?_, ?_⟩
      · generalize vs.map _root_.L2.vInt = l
        induction l with
        | nil => exact RpL.nil
        | cons i l ih => exact RpL.cons Rp.intI ih
      · clear pm hpk pn
        induction vs with
        | nil => exact .nil
        | cons v vs ih =>
          obtain ⟨k, t, rfl⟩ := hv v (List.mem_cons_self ..)
          exact .cons ⟨t, rfl⟩ (ih fun w hw => hv w (List.mem_cons_of_mem _ hw))
theorem sorted_set (hc : X.calm = true) (hu : X.A.units + 100 < cLine) {z m : List Addr} {S : Sto} {σ : L2.St} {H : Hp} {v : V} {xs : List D} {Q : VK} (s : Sim (kt X z) m S H) (r : Rp (kt X z) m H (.set xs) v) (hs : sortable xs = true) (ho : okP (.tup xs) = true)
    (p : PostE X z W σ m H (.ok (.lst (sortD xs)) S) Q) : semC X (.builtin "sorted") [v] H Q := by
  simp only [Rp] at r
  obtain ⟨a, rfl, hm, hset⟩ := r
  obtain ⟨hal, hso⟩ := sortable_ok hs
  have hdep := okP_depth ho
  have halike : ∀ x ∈ xs, ∀ y ∈ xs, alikeD x y = true := fun x hx y hy => by
    simp only [sortable, Bool.and_eq_true] at hs
    exact List.all_eq_true.mp (List.all_eq_true.mp hs.1 x hx) y hy
  intro pins s1 σ' us I rx
  obtain ⟨u, rfl, rv⟩ := vals1 rx
  cases rv
  obtain ⟨hkey, o, es, ep, t, hob, hex, hd, hfits, hbnd, hris, led, pick⟩ := set_facts (z := z) (m := m) I hset
  refine Calls.call_function_entry kind_sorted plain_sorted entry_sorted (args_sorted1 _) ?_
  unfold Builtin.«sorted»
  refine wpAny_bind (m := checkCount "sorted" 1 1 _) (wpAny_pure ?_)
  refine wpAny_bind (collect_set (A := X.A.in1) (I.ok.hd hc) ⟨o, hob, hex.1, hd⟩ hfits hbnd hris led fun s2 vs k1 hz g1 o1 pm => ?_)
  obtain ⟨ys, ws, hyx, hry, vr⟩ := pick vs pm
  have hvl : vs.length < 5000 := by
    have h1 := pm.length_eq
    rw [List.length_map] at h1
    have h2 : es.toList.length = es.size := Array.length_toList
    have : scanBound = 4096 := rfl
    omega
  have hyl : ys.length = vs.length := by rw [hry.length, vr.length]
  have ev := each_of hry vr
  have er := each_reads I (fun d hd => pure_key d (hkey d (hyx.mem_iff.mp hd))) ev
  refine wpAny_bind (wpAny_newList ?_ (by rw [sizeLine_eq]; omega))
  have hoL : (s2.heap.push (seqObj "list" vs.toArray 0)).get? s2.heap.objs.size = some (seqObj "list" vs.toArray 0) := Heap.get?_push_size _ rfl
  have kk : ∀ b o, s1.heap.get? b = some o → (s2.heap.push (seqObj "list" vs.toArray 0)).get? b = some o := fun b o e => Heap.get?_push_of_some _ (k1 b o e)
  have hds : ∀ d ∈ ys, d ∈ xs := fun d hd => hyx.mem_iff.mp hd
  refine wpAny_bind (wpAny_holding (PySem.W.list_sort_data (s := { s2 with heap := s2.heap.push (seqObj "list" vs.toArray 0) }) (enc := D.toP) hoL ev ?_ ?_ ?_ ?_ ?_ fun out hlo eo => ?_))
  · refine er.mono fun v b ⟨as, r⟩ => ⟨as, PyProof.Rows.Reads.keeps kk r, fun hm2 => ?_⟩
    obtain ⟨o2, h2⟩ := PyProof.On.reads_mem_get r _ hm2
    have := Heap.lt_size h2
    exact absurd this (Nat.not_lt.mpr hz)
  · intro d hd e he
    obtain ⟨x, hx, rfl⟩ := List.mem_map.mp hd
    obtain ⟨y, hy, rfl⟩ := List.mem_map.mp he
    exact halike x (hds x hx) y (hds y hy)
  · rcases hso with hso | hso
    · left
      intro d hd
      obtain ⟨x, hx, rfl⟩ := List.mem_map.mp hd
      exact hso _ (List.mem_map.mpr ⟨x, hds x hx, rfl⟩)
    · right
      intro d hd
      obtain ⟨x, hx, rfl⟩ := List.mem_map.mp hd
      exact hso _ (List.mem_map.mpr ⟨x, hds x hx, rfl⟩)
  · rw [hyl, sizeLine_eq]; omega
  · intro d hd
    have h3 := depth_in (hds d hd)
    have h4 : (D.tup xs).toP.depth = PyData.depthAll (toPL xs) + 1 := by simp only [D.toP, PyData.depth]
    have h5 : X.A.in1.units = X.A.units + 1 := rfl
    omega
  · obtain ⟨zs, hv, hrz⟩ := of_each eo
    have hsort : ys.mergeSort (PySem.W.dataLe false D.toP) = sortD xs := (sortD_ms ys).symm.trans (sortD_eq hyx (fun x hx => hkey x (hds x hx)) fun x hx y hy => halike x (hds x hx) y (hds y hy))
    rw [hsort] at hrz
    obtain ⟨c, hcc⟩ := sortedHeap_at (vs := vs) (out := out.toArray) hoL
    have hzl : zs.length ≤ sizeLine := by
      rw [hv.length, hlo, hyl, sizeLine_eq]; omega
    have hn : H s2.heap.objs.size = none := I.hok.fresh hz
    have kf : ∀ b u, s1.heap.get? b = some u → (sortedHeap (s2.heap.push (seqObj "list" vs.toArray 0)) s2.heap.objs.size vs out.toArray).get? b = some u := fun b u e => by
      have q := k1 b u e
      have hlt := Heap.lt_size q
      rw [sortedHeap_old (Nat.ne_of_lt hlt) (by rw [size_push']; exact Nat.lt_succ_of_lt hlt)]
      exact Heap.get?_push_of_some _ q
    have J : Inv X pins σ' (upd H s2.heap.objs.size (.lst zs)) { s1 with heap := sortedHeap (s2.heap.push (seqObj "list" vs.toArray 0)) s2.heap.objs.size vs out.toArray, gens := s2.gens, drawn := s2.drawn, toks := s2.toks } :=
      I.call (ch := []) (Un.laid kf hz hn) (I.hok.laid kf hz ⟨hzl, out, c, hv, hcc⟩) (by rw [g1]; exact I.bare) (fun _ z => nomatch z)
    refine wpAny_pure ⟨_, rfl, ?_⟩
    have e : ({ s2 with heap := sortedHeap (s2.heap.push (seqObj "list" vs.toArray 0)) s2.heap.objs.size vs out.toArray } : Shared) = { s1 with heap := sortedHeap (s2.heap.push (seqObj "list" vs.toArray 0)) s2.heap.objs.size vs out.toArray, gens := s2.gens, drawn := s2.drawn, toks := s2.toks } := by
      cases s2
      cases s1
      cases o1
      rfl
    rw [e]
    exact ⟨.ref s2.heap.objs.size, _, J, rfl, p.aside s hn (Rp.newLst s hn hrz)⟩
theorem sc_sorted (hc : X.calm = true) (hu : X.A.units + 100 < cLine) : SC1 X (.builtin "sorted") (p1 .sorted) := by
  intro z W m S σ H d v Q s r p
  simp only [DL.p1] at p
  split at p
  · rename_i xs
    split at p
    · rename_i h
      simp only [Bool.and_eq_true] at h
      exact sorted_set hc hu s r h.1 h.2 p
    · exact p.elim
  · split at p
    · rename_i a hn xs e1
      split at p
      · rename_i h
        simp only [Bool.and_eq_true] at h
        exact sorted_lst hu s r e1 h.1.1 h.1.2 h.2 p
      · exact p.elim
    · exact p.elim
end
end DL
set_option Elab.async false
set_option linter.all false
set_option maxRecDepth 100000
set_option maxHeartbeats 1000000
namespace DL
open PySem PySem.Spec PyProof.Rows L2
section
variable {X : Cx} {W : WX} {a : Expr} {c : Cfg} {x : E}
end
end DL
set_option Elab.async false
set_option linter.all false
set_option maxRecDepth 100000
set_option maxHeartbeats 4000000
/-! DLv: lambdas that are kept in a list, with a word and a value; each one heard -/
namespace DL
open PySem PySem.Spec PyProof.Rows L2 LamX
/-- this very object stands at f -/
def LamO (f : Addr) (o : Obj) : HO := .ext fun h => h.get? f = some o
theorem lamO_tbl {f : Addr} {o : Obj} {ps : Array Value} : LamO f o ≠ .tbl ps := fun z => by
  unfold LamO at z
  cases z
theorem lamO_lst {f : Addr} {o : Obj} {vs : List V} : LamO f o ≠ .lst vs := fun z => by
  unfold LamO at z
  cases z
theorem codeO_lst {f : Addr} {q : Str} {vs : List V} : CodeO f q ≠ .lst vs := fun z => by
  unfold CodeO at z
  cases z
/-- a lambda: its parameters, its body, its scope -/
abbrev Lam := Arguments × Expr × Scope
abbrev lamObj (X : Cx) (L : Lam) (pm : Value) (c' : Addr) (ctv : Value) : Obj := PySem.W.kla_obj "<lambda>" (X.env.qual ++ "<lambda>") L.1 L.2.1 L.2.2 (cloFrom X.env.cells L.2.2.names []) pm c' ctv
section
variable {X : Cx} {pins : List (Addr × Obj)} {σ : L2.St} {H : Hp} {s : Shared}
theorem inv_lam {o : Obj} {t' : Nat} (I : Inv X pins σ H s) (hz : o.isFreed = false) : Inv X pins σ (upd H s.heap.objs.size (LamO s.heap.objs.size o)) { s with heap := s.heap.push o, toks := t' } := by
  refine I.laid (a := s.heap.objs.size) (fun b u e => Heap.get?_push_of_some _ e) (Nat.le_refl _) ?_
  have e : (s.heap.push o).get? s.heap.objs.size = some o := Heap.get?_push_size _ hz
  exact ⟨e, ⟨_, e⟩, fun h1 h2 z st => st _ z⟩
/-- the lambda is made, and tracked -/
theorem lam_make3 {T : List (Addr × Str)} {c P : Addr} {params : Arguments} {body : Expr} {scope : Scope} {pos : Pos} {E : Value → Shared → Prop} {Q : Value → Shared → Prop} (I : Inv X pins σ H s) (TB : TabB X.base X.mg c P) (hcode : X.env.code = .ref c)
    (hm : (P, X.env.qual ++ "<lambda>") ∈ T) (hu : ∀ p ∈ T, p.1 = P → p.2 = X.env.qual ++ "<lambda>") (hT : Tabs T H) (hdef : defaultsOf params X.env = ([], [])) (hfree : ∀ y ∈ scope.names, y.2 = .free → ∃ c, X.env.cells.lookup y.1 = some c)
    (h : ∀ (f c' : Addr) (pm ctv : Value) (H1 : Hp) (s' : Shared), Inv X pins σ H1 s' → ExtN H H1 → Tabs T H1 → H f = none → H1 f = some (LamO f (lamObj X (params, body, scope) pm c' ctv)) → H1 c' = some (CodeO c' (X.env.qual ++ "<lambda>")) → Q (.ref f) s') :
    wpAny (model X.prog X.w) X.A (eval (.Lambda params body scope pos) X.env) Q E s := by
  obtain ⟨ps, hP, ht, ha⟩ := hT _ hm
  refine PySem.W.kla_eval hdef ?_
  have bP : s.heap.BuiltinsAt X.mg P := TB.bm.keeps I.bk
  have hP' : s.heap.get? P = some { cls := .none, data := .fields ps } := I.hok P _ hP
  cases hc : codeAmong pos ps.toList with
  | none =>
    refine PySem.W.kla_makeFunction (mg := X.mg) (c := c) (P := P) (ps := ps) (closure_ok hfree) I.ok.glob (I.mod.glob.keeps I.bk) hcode (TB.code.keeps I.bk) hP' ht hc TB.gP bP fun c' ctv h' tk hx hge hlt hrec htb => ?_
    obtain ⟨c2, oc, vs, t, e2, hoc, hd, hv⟩ := hrec
    cases e2
    have nC : H c' = none := I.hok.fresh hge
    have I1 := inv_table (t' := tk) (more := #[rawInt pos.line, rawInt pos.col, .ref c']) (h' := h') I hP (fun b o hb e => hx b o hb e) htb hge ⟨oc, vs, t, hoc, hd, hv⟩
    have hE : ExtN H (upd (upd H P (.tbl (ps ++ #[rawInt pos.line, rawInt pos.col, .ref c']))) c' (CodeO c' (X.env.qual ++ "<lambda>"))) := fun b o e n => by
      rw [upd_ne (ne_of_none e nC), upd_ne (fun z => n ps (Option.some.inj (e.symm.trans (by rw [z]; exact hP))))]
      exact e
    have eL : (ps ++ #[rawInt pos.line, rawInt pos.col, .ref c']).toList = ps.toList ++ [rawInt pos.line, rawInt pos.col, .ref c'] := by simp
    have T1 : Tabs T (upd (upd H P (.tbl (ps ++ #[rawInt pos.line, rawInt pos.col, .ref c']))) c' (CodeO c' (X.env.qual ++ "<lambda>"))) := fun p hp => by
      by_cases hb : p.1 = P
      · rw [hu p hp hb, hb]
        refine ⟨_, by rw [upd_ne (ne_of_none hP nC), upd_same], by rw [eL]; exact PySem.TriplesOk_snoc _ _ _ _ ht, fun p' cv hcv => ?_⟩
        rw [eL] at hcv
        rcases among_app _ ht hcv with z | z
        · obtain ⟨c0, e1, e2⟩ := ha p' cv z
          exact ⟨c0, e1, hE _ _ e2 codeO_ne⟩
        · exact ⟨c', z, upd_same⟩
      · obtain ⟨ps', a1, a2, a3⟩ := hT p hp
        refine ⟨ps', by rw [upd_ne (ne_of_none a1 nC), upd_ne hb]; exact a1, a2, fun p' cv hcv => ?_⟩
        obtain ⟨c0, e1, e2⟩ := a3 p' cv hcv
        exact ⟨c0, e1, hE _ _ e2 codeO_ne⟩
    have nF := I1.hok.fresh (Nat.le_refl _)
    have I2 := inv_lam (o := lamObj X (params, body, scope) ((X.mg "__name__").getD .none) c' ctv) (t' := tk) I1 rfl
    refine h h'.objs.size c' ((X.mg "__name__").getD .none) ctv _ _ I2 (fun b o e n => ?_) (T1.ext fun b o e => ?_) (I.hok.fresh (Nat.le_trans hge (Nat.le_of_lt hlt))) upd_same ?_
    · have e1 := hE b o e n
      exact (upd_ne (ne_of_none e1 nF)).trans e1
    · exact (upd_ne (ne_of_none e nF)).trans e
    · exact (upd_ne (Nat.ne_of_lt hlt)).trans upd_same
  | some cv =>
    obtain ⟨c', e, hco⟩ := ha pos cv hc
    subst e
    refine PySem.W.kla_makeFunctionHit (mg := X.mg) (c := c) (P := P) (ps := ps) (closure_ok hfree) I.ok.glob (I.mod.glob.keeps I.bk) hcode (TB.code.keeps I.bk) hP' ht hc bP fun ctv h' tk hx hsz => ?_
    have I1 : Inv X pins σ H { s with heap := h', toks := tk } := I.kept hx
    have nF : H h'.objs.size = none := I.hok.fresh hsz
    have I2 := inv_lam (o := lamObj X (params, body, scope) ((X.mg "__name__").getD .none) c' ctv) (t' := tk) I1 rfl
    have ex : ∀ b o, H b = some o → upd H h'.objs.size (LamO h'.objs.size (lamObj X (params, body, scope) ((X.mg "__name__").getD .none) c' ctv)) b = some o := fun b o e => (upd_ne (ne_of_none e nF)).trans e
    exact h h'.objs.size c' ((X.mg "__name__").getD .none) ctv _ _ I2 (.of ex) (hT.ext ex) nF upd_same (ex _ _ hco)
theorem pe_lam {T : List (Addr × Str)} {c P : Addr} {params : Arguments} {body : Expr} {scope : Scope} {pos : Pos} (TB : TabB X.base X.mg c P) (hcode : X.env.code = .ref c) (hm : (P, X.env.qual ++ "<lambda>") ∈ T) (hu : ∀ p ∈ T, p.1 = P → p.2 = X.env.qual ++ "<lambda>")
    (hdef : defaultsOf params X.env = ([], [])) (L : LamS X.env.scope scope) :
    PE X (.Lambda params body scope pos) (fun σ H Q => Tabs T H ∧ ∀ (f c' : Addr) (pm ctv : Value) (H1 : Hp), ExtN H H1 → Tabs T H1 → H f = none → H1 f = some (LamO f (lamObj X (params, body, scope) pm c' ctv)) → H1 c' = some (CodeO c' (X.env.qual ++ "<lambda>")) → Q (.ref f) H1) := by
  refine ⟨fun pins s σ H Q I ⟨hT, h⟩ => lam_make3 I TB hcode hm hu hT hdef (L.has I.ok) fun f c' pm ctv H1 s1 I1 e1 e2 e3 e4 e5 => ?_⟩
  exact ⟨.ref f, H1, I1, rfl, h f c' pm ctv H1 e1 e2 e3 e4 e5⟩
/-- a lambda that is tracked is called in the def that got it -/
theorem act_ok2 {Ng : List Str} {qg : Str} {sg : Scope} {g f c' : Addr} {cdg pm ctv : Value} {params : Arguments} {body : Expr} {scope : Scope} {k i : Nat} {a : Str} {pn : List (Addr × Obj)} {xe : Value → Shared → Prop} {W : WX} {tb : XK → TE} {p1 p2 : Pos}
    (I : Inv X pins σ H s) (L : LamS X.env.scope scope) (hbind : bindArgs (PySem.W.kla_fn "<lambda>" (X.env.qual ++ "<lambda>") params body scope (cloFrom X.env.cells scope.names []) pm (.ref c') ctv) ⟨[], []⟩ = pure [])
    (tk : Takes ((hCx X Ng qg sg g cdg s H).tr pn xe) W) (hr : Room (k + 1) (X.A.deeper (envOfC qg sg s.heap.objs.size g cdg)))
    (hbody : ∀ (A : Around) (outer : List PySem.Env) (s : Shared) (H : Hp) (E : XK), Room k (A.deeper (lamEnv X scope s.heap.objs.size f c')) → A.guards = X.A.guards → PE (lamCx X A outer s H E scope f c') body (tb E)) (hN : Ng[i]? = some a) (hv : Vis sg a)
    (hd : (a == ("__debug__" : Str)) = false) (hcd : (a == ("__classdict__" : Str)) = false) :
    PE ((hCx X Ng qg sg g cdg s H).tr pn xe) (.Call (.Name a p1) [] [] p2) (fun σZ HZ R => σZ[i]? = some (some (.ref f)) ∧ (HZ c' = some (CodeO c' (X.env.qual ++ "<lambda>")) ∧
      HZ f = some (LamO f (lamObj X (params, body, scope) pm c' ctv))) ∧ tb (WE W σZ) σ HZ R) := by
  constructor
  rintro pinsZ sZ σZ HZ R IZ ⟨hs, ⟨hc, hl⟩, ht⟩
  have rd := (pe_var (X := (hCx X Ng qg sg g cdg s H).tr pn xe) (pos := p1) hN hv hd hcd).run pinsZ sZ σZ HZ (fun v H1 => v = .ref f ∧ H1 = HZ) IZ ⟨.ref f, hs, rfl, rfl⟩
  refine wpAny_Call_Name_kw (thn rd fun u s1 hu => ?_)
  obtain ⟨v, H1, I1, r1, ev, eH⟩ := hu
  subst ev eH
  cases r1
  have of1 := (I1.hok f _ hl).1
  refine PySem.W.callWith_F0 ⟨_, _, _, _, of1⟩ (wpAny_call ?_)
  obtain ⟨⟨oc, vs, t, hoc, hdc, hvc⟩, _, _⟩ := I1.hok c' _ hc
  have key : codeAny (model X.prog X.w) (X.A.deeper (envOfC qg sg s.heap.objs.size g cdg)) (.call (.ref f) ⟨[], []⟩)
      (CR (L2.CX X.prog X.w) (envOfC qg sg s.heap.objs.size g cdg :: X.stack) X.prog X.w H1 s1 R (WE W σZ)) s1 := by
    refine PySem.W.kla_callFunE hr.depth of1 rfl L.co L.gen rfl ⟨c', oc, vs, t, rfl, hoc, hdc, hvc⟩ ?_
    rw [hbind]
    refine wpAny_pure (wpAny_newFunctionEnv (fun y hy => (L.own y hy).2) (fun y hy => by cases hy) (fun h1 hns hsb => ⟨I1.nolimit.fresh _ hsb, ?_⟩) L.kind)
    have kp : ∀ b o, s1.heap.get? b = some o → h1.get? b = some o := fun b o e => hsb.extBut b o (Nat.ne_of_lt (Heap.lt_size e)) (Heap.get?_push_of_some _ e)
    have J : Inv (lamCx X (X.A.deeper (envOfC qg sg s.heap.objs.size g cdg)) (envOfC qg sg s.heap.objs.size g cdg :: X.stack) s1 H1 (WE W σZ) scope f c') [] σ H1 { s1 with heap := h1, toks := s1.toks + ([] : List (Str × Value)).length } := lam_start2 I L I1.env0 hr.hd I1.base hns kp
    refine PySem.W.kla_codeExpr (wpAny_mono ((hbody _ _ s1 H1 (WE W σZ) (hr.deeper _) rfl).run [] _ _ H1 _ J ht) (fun v s2 hq => ?_) fun _ _ hq => hq)
    obtain ⟨w2, H2, J2, rv, q⟩ := hq
    exact ⟨w2, H2, J2.os, J2.bare, J2.base, J2.hok, rv, q⟩
  refine codeAny_mono key fun r s2 hq => ?_
  match r, hq with
  | .error e, hq => exact passAt tk σZ pinsZ H1 s1 e s2 I1 hq
  | .ok (.ret u), hq => exact I1.after hq
  | .ok .next, hq => exact hq.elim
  | .ok .brk, hq => exact hq.elim
  | .ok .cont, hq => exact hq.elim
/-- f(x), where x names a lambda that is tracked -/
theorem sem_hearV {TT : (XK → Hp → VK → Prop) → Hp → VK → Prop} {x a y : Str} {g f c' : Addr} {k i : Nat} {pg : Arguments} {bg : List Stmt} {sg : Scope} {dV kV doc pm0 cdv ct oc : Value} {an od : Option Addr} {osl : Array (Option Value)} {Ng : List Str}
    {params : Arguments} {body : Expr} {scope : Scope} {pm ctv : Value} {t : XK → TE} {p pn pos : Pos} {Q : VK} (hg : Gl X x) (hm : X.mg x = some (.ref g)) (hk : PySem.W.keepIn X.K (.ref g) = true) (lk : X.K.lookup g = some ⟨oc, od, .func (PySem.W.fnOf x x pg bg sg dV kV doc pm0 an cdv ct), osl⟩)
    (hcg : PySem.W.codeIn X.K cdv x = true) (hb : ∀ u : Value, bindArgs (PySem.W.fnOf x x pg bg sg dV kV doc pm0 an cdv ct) ⟨[u], []⟩ = pure [(a, u)]) (Sg : FnScope Ng [a] sg) (hNg : Ng[0]? = some a) (hva : Vis sg a)
    (hG : HearsTo X Ng x sg g cdv bg a TT) (hr : Room (k + 2) X.A)
    (L : LamS X.env.scope scope) (hbind : ∀ (q : Str) (cl : List (Str × Addr)) (pm cv ctv : Value), bindArgs (PySem.W.kla_fn "<lambda>" q params body scope cl pm cv ctv) ⟨[], []⟩ = pure [])
    (hbody : ∀ (A : Around) (outer : List PySem.Env) (s : Shared) (H : Hp) (E : XK) (f c' : Addr), Room k (A.deeper (lamEnv X scope s.heap.objs.size f c')) → A.guards = X.A.guards → PE (lamCx X A outer s H E scope f c') body (t E))
    (hdb : (x == ("__debug__" : Str)) = false) (hd : (a == ("__debug__" : Str)) = false) (hcd : (a == ("__classdict__" : Str)) = false)
    (hN : X.N[i]? = some y) (hv : Vis X.env.scope y) (hyd : (y == ("__debug__" : Str)) = false) (hyc : (y == ("__classdict__" : Str)) = false)
    (hσ : σ[i]? = some (some (.ref f))) (hl : H f = some (LamO f (lamObj X (params, body, scope) pm c' ctv))) (hc : H c' = some (CodeO c' (X.env.qual ++ "<lambda>")))
    (h : ∀ q, H q = none → TT (fun E H' R => t E σ H' R) (upd H q (.tup [.non, .non])) Q) : semE X (.Call (.Name x p) [.Name y pn] [] pos) σ H Q := by
  intro pins s I
  refine wpAny_Call_Name_kw (ld_glob I hg hm (PySem.W.callWith_K (h₀ := X.base) I.ok.mod.kin hk (thn ((pa_cons (pe_var (pos := pn) hN hv hyd hyc) pa_nil).run pos pins s σ H (fun vs H1 => vs = [.ref f] ∧ H1 = H) I ⟨.ref f, hσ, rfl, rfl⟩) fun us s1 hu => ?_) (by rfl) (by rfl)) hdb)
  obtain ⟨vs, H1, I1, rv, ev, eH⟩ := hu
  subst ev eH
  cases rv with
  | cons r1 r2 =>
  cases r1
  cases r2
  refine ⟨I1.kIn, wpAny_call ?_⟩
  have rc : codeAny (model X.prog X.w) X.A (.call (.ref g) ⟨[.ref f], []⟩) (CR C8.CX0 X.stack X.prog X.w H1 s1 Q C8.E0) s1 := by
    refine run_ofS (N := Ng) (ps := [a]) (us := [.ref f]) (vs := [.ref f]) lk hcg Sg hr I1.env0 (.of_eq (hb _)) (.cons rfl .nil) rfl fun hr2 => ⟨_, PSs.nox pss_sem, ?_⟩
    exact hG f (fun H => H c' = some (CodeO c' (X.env.qual ++ "<lambda>")) ∧ H f = some (LamO f (lamObj X (params, body, scope) pm c' ctv))) s1 H1 Q (fun E H' R => t E σ H' R) (fun H p o e n => ⟨by rw [upd_ne (ne_of_none e.1 n)]; exact e.1, by rw [upd_ne (ne_of_none e.2 n)]; exact e.2⟩)
      (fun W pn xe p1 p2 tk => act_ok2 (tb := t) I1 L (hbind _ _ _ _ _) tk hr2 (fun A outer s H E hr3 hgd => hbody A outer s H E f c' hr3 hgd) hNg hva hd hcd) ⟨hc, hl⟩ h
  refine codeAny_mono rc fun r s2 hq => ?_
  match r, hq with
  | .error e, hq => exact (show False from hq).elim
  | .ok (.ret u), hq => exact I1.after hq
  | .ok .next, hq => exact hq.elim
  | .ok .brk, hq => exact hq.elim
  | .ok .cont, hq => exact hq.elim
end
end DL
set_option Elab.async false
set_option linter.all false
set_option maxRecDepth 100000
set_option maxHeartbeats 4000000
/-! DLw: a block that keeps lambdas in a list and hears each one -/
namespace DL
open PySem PySem.Spec PyProof.Rows L2 LamX
/-- the table of the def that one stands in -/
def LamOk (X : Cx) : Prop := ∃ c P, LamX.TabB X.base X.mg c P ∧ X.env.code = .ref c ∧ (P, X.env.qual ++ "<lambda>") ∈ tabsOf X.prog X.K ∧ ∀ p ∈ tabsOf X.prog X.K, p.1 = P → p.2 = X.env.qual ++ "<lambda>"
/-- a kept lambda -/
def CalIt (X : Cx) (m : List Addr) (H : Hp) (L : Lam) (f : Addr) : Prop := ∃ (c' : Addr) (pm ctv : Value), f ∉ m ∧ c' ∉ m ∧ H f = some (LamO f (lamObj X L pm c' ctv)) ∧ H c' = some (CodeO c' (X.env.qual ++ "<lambda>"))
theorem CalIt.step {X : Cx} {m m' : List Addr} {H H' : Hp} {L : Lam} {f : Addr} (s : Step m H m' H') (h : CalIt X m H L f) : CalIt X m' H' L f := by
  obtain ⟨c', pm, ctv, h1, h2, h3, h4⟩ := h
  exact ⟨c', pm, ctv, s.notin h3 h1 (fun _ => lamO_tbl), s.notin h4 h2 (fun _ => codeO_ne _), s.keep _ _ h3 h1 (fun _ => lamO_tbl), s.keep _ _ h4 h2 (fun _ => codeO_ne _)⟩
theorem CalIt.hwrite {X : Cx} {m : List Addr} {H : Hp} {L : Lam} {f q : Addr} {us vs : List V} (h0 : H q = some (.lst us)) (h : CalIt X m H L f) : CalIt X m (upd H q (.lst vs)) L f := by
  obtain ⟨c', pm, ctv, h1, h2, h3, h4⟩ := h
  exact ⟨c', pm, ctv, h1, h2, by rw [upd_ne (ne_of h3 h0 lamO_lst)]; exact h3, by rw [upd_ne (ne_of h4 h0 codeO_lst)]; exact h4⟩
/-- (lambda, word, value) -/
def ItR (X : Cx) (z m : List Addr) (H : Hp) (L : Lam) (w : Str) (d : D) (v : V) : Prop := ∃ (t f : Addr) (u : V), v = .ref t ∧ SqT X.K H t [.ref f, .str w, u] ∧ CalIt X m H L f ∧ Rp (kt X z) m H d u
theorem ItR.step {X : Cx} {z m m' : List Addr} {H H' : Hp} {L : Lam} {w : Str} {d : D} {v : V} (s : Step m H m' H') (h : ItR X z m H L w d v) : ItR X z m' H' L w d v := by
  obtain ⟨t, f, u, h1, h2, h3, h4⟩ := h
  exact ⟨t, f, u, h1, s.sqT h2, h3.step s, h4.step s⟩
theorem ItR.hwrite {X : Cx} {z m : List Addr} {H : Hp} {L : Lam} {w : Str} {d : D} {v : V} {q : Addr} {us vs : List V} (hq : q ∈ z) (h0 : H q = some (.lst us)) (h : ItR X z m H L w d v) : ItR X z m (upd H q (.lst vs)) L w d v := by
  obtain ⟨t, f, u, h1, h2, h3, h4⟩ := h
  exact ⟨t, f, u, h1, SqT.hwrite h2 h0, h3.hwrite h0, h4.hwrite (k := kt X z) hq h0⟩
theorem ItR.hide {X : Cx} {z m : List Addr} {H : Hp} {L : Lam} {w : Str} {d : D} {v : V} {q : Addr} (hq : H q = none) (h : ItR X z m H L w d v) : ItR X (q :: z) m H L w d v := by
  obtain ⟨t, f, u, h1, h2, h3, h4⟩ := h
  exact ⟨t, f, u, h1, h2, h3, Rp.hide (k := kt X z) hq h4⟩
def ItL (X : Cx) (z m : List Addr) (H : Hp) : List Lam → List Str → List D → List V → Prop
  | [], [], [], [] => True
  | L :: Ls, w :: ws, d :: ds, v :: vs => ItR X z m H L w d v ∧ ItL X z m H Ls ws ds vs
  | _, _, _, _ => False
theorem ItL.map {X : Cx} {z z' m m' : List Addr} {H H' : Hp} (f : ∀ L w d v, ItR X z m H L w d v → ItR X z' m' H' L w d v) : ∀ {Ls : List Lam} {ws : List Str} {ds : List D} {vs : List V}, ItL X z m H Ls ws ds vs → ItL X z' m' H' Ls ws ds vs
  | [], [], [], [], _ => trivial
  | _ :: _, _ :: _, _ :: _, _ :: _, h => ⟨f _ _ _ _ h.1, ItL.map f h.2⟩
theorem ItL.snoc {X : Cx} {z m : List Addr} {H : Hp} {L : Lam} {w : Str} {d : D} {v : V} (h1 : ItR X z m H L w d v) : ∀ {Ls : List Lam} {ws : List Str} {ds : List D} {vs : List V}, ItL X z m H Ls ws ds vs → ItL X z m H (Ls ++ [L]) (ws ++ [w]) (ds ++ [d]) (vs ++ [v])
  | [], [], [], [], _ => ⟨h1, trivial⟩
  | _ :: _, _ :: _, _ :: _, _ :: _, h => ⟨h.1, ItL.snoc h1 h.2⟩
theorem ItL.at {X : Cx} {z m : List Addr} {H : Hp} : ∀ {Ls : List Lam} {ws : List Str} {ds : List D} {vs : List V} {i : Nat} {v : V}, ItL X z m H Ls ws ds vs → vs[i]? = some v → ∃ L w d, Ls[i]? = some L ∧ ws[i]? = some w ∧ ds[i]? = some d ∧ ItR X z m H L w d v
  | [], [], [], [], _, _, _, e => by simp at e
  | L :: Ls, w :: ws, d :: ds, v :: vs, i, u, h, e => by
    cases i with
    | zero => simp at e; subst e; exact ⟨L, w, d, rfl, rfl, rfl, h.1⟩
    | succ i => simpa using ItL.at h.2 (by simpa using e)
theorem ItL.len {X : Cx} {z m : List Addr} {H : Hp} : ∀ {Ls : List Lam} {ws : List Str} {ds : List D} {vs : List V}, ItL X z m H Ls ws ds vs → ws.length = Ls.length ∧ ds.length = Ls.length ∧ vs.length = Ls.length
  | [], [], [], [], _ => ⟨rfl, rfl, rfl⟩
  | _ :: _, _ :: _, _ :: _, _ :: _, h => by
    obtain ⟨h1, h2, h3⟩ := ItL.len h.2
    simp [h1, h2, h3]
section
variable {X : Cx} {W : WX} {c : Cfg}
/-- what is known where a lambda is made -/
structure LamAt (X : Cx) (L : Lam) : Prop where
  ok : LamOk X
  sc : LamS X.env.scope L.2.2
  df : defaultsOf L.1 X.env = ([], [])
theorem s_item {L : Lam} {w : Str} {a : Expr} {y : E} {x1 j : Nat} {lpos pc pos : Pos} (hL : LamAt X L) (ha : SE X W a (evE c y)) (hs : starEach [a] X.env = [(false, eval a X.env)]) {z m : List Addr} {ρ : Env} {S S1 : Sto} {σ : L2.St} {H : Hp} {Q : VK} {d : D}
    (s : Sim (kt X z) m S H) (en : EnvR (kt X z) m H ρ σ) (e : evE c y ρ S = .ok d S1) (h : ∀ m' H' v, Step m H m' H' → Sim (kt X z) m' S1 H' → ItR X z m' H' L w d v → Q v H') : semE X (.Tuple [.Lambda L.1 L.2.1 L.2.2 lpos, .Constant (.str w) j pc, a] x1 pos) σ H Q := by
  obtain ⟨cc, P, TB, hcode, hm, hu⟩ := hL.ok
  refine semE_of (pe_tup (pa_cons (pe_lam TB hcode hm hu hL.df hL.sc) (pa_cons pe_str (pa_cons pe_sem pa_nil hs)))) ⟨s.tabs, fun f c' pm ctv H1 eN T1 hf hl hc => ?_⟩
  have st1 : Step m H m H1 := ⟨⟨[], by simp⟩, fun _ h h' => absurd h h', fun b o h _ hn => eN b o h hn, fun b _ h => eN b _ h (fun _ z => by cases z), fun b _ _ h => eN b _ h (fun _ z => by cases z)⟩
  have s1 : Sim (kt X z) m S H1 := s.same st1 (fun q _ u h l => eN q u h l.tbl) T1
  have cal : CalIt X m H1 L f := ⟨c', pm, ctv, s.notin hf, fun hm => by
    obtain ⟨u, e, l⟩ := s1.tracked hm
    rw [hc] at e
    exact l.code _ _ (Option.some.inj e).symm, hl, hc⟩
  refine ha z m ρ S σ H1 _ s1 (en.step st1) ?_
  rw [e]
  intro m2 H2 u st2 s2 r2
  refine ⟨by show (3 : Nat) ≤ sizeLine; decide, fun q hq => h m2 _ _ ((st1.trans st2).trans (.aside hq)) (s2.aside hq) ?_⟩
  exact ⟨q, f, u, rfl, SqT.of upd_same, (cal.step st2).step (.aside hq), Rp.step (.aside hq) r2⟩

/-- where the list of lambdas stands: at p, since (m0, H0) -/
structure CallsAt (X : Cx) (z : List Addr) (li : Nat) (p : Addr) (m0 : List Addr) (H0 : Hp) (ρ : Env) (σ : L2.St) (m : List Addr) (S : Sto) (H : Hp) (Ls : List Lam) (ws : List Str) (ds : List D) : Prop where
  st : Step m0 H0 m H
  sim : Sim (kt X (p :: z)) m S H
  env : EnvR (kt X (p :: z)) m H ρ σ
  var : σ[li]? = some (some (.ref p))
  its : ∃ vs, H p = some (.lst vs) ∧ ItL X (p :: z) m H Ls ws ds vs
/-- a statement that appends -/
structure AppOk (X : Cx) (W : WX) (c : Cfg) (li : Nat) (st : Stmt) (L : Lam) (w : Str) (y : E) : Prop where
  ex : ∃ (x : Str) (a : Expr) (px apos pn pos lpos pc tp : Pos) (j k : Nat), st = .Expr (.Call (.Attribute (.Name x px) "append" apos) [.Tuple [.Lambda L.1 L.2.1 L.2.2 lpos, .Constant (.str w) j pc, a] k tp] [] pn) pos ∧ X.N[li]? = some x ∧ Vis X.env.scope x ∧
    (x == ("__debug__" : Str)) = false ∧ (x == ("__classdict__" : Str)) = false ∧ (apos.endLine == pn.line) = true ∧ SE X W a (evE c y) ∧ starEach [a] X.env = [(false, eval a X.env)]
  lam : LamAt X L
  star : ∀ e, y ≠ .star e
theorem sem_app1 {li : Nat} {st : Stmt} {L : Lam} {w : Str} {y : E} (A : AppOk X W c li st L w y) {z m0 m : List Addr} {H0 H : Hp} {p : Addr} {ρ : Env} {σ : L2.St} {S S1 : Sto} {Ls : List Lam} {ws : List Str} {ds : List D} {d : D} {N : Ends} (h0 : H0 p = none)
    (C : CallsAt X z li p m0 H0 ρ σ m S H Ls ws ds) (hn : Ls.length < 100) (e : evE c y ρ S = .ok d S1) (h : ∀ m' H', CallsAt X z li p m0 H0 ρ σ m' S1 H' (Ls ++ [L]) (ws ++ [w]) (ds ++ [d]) → N.nx σ H') : semS X st N σ H := by
  obtain ⟨x, a, px, apos, pn, pos, lpos, pc, tp, j, k, rfl, e1, e2, e3, e4, e5, e6, e7⟩ := A.ex
  obtain ⟨vs, v1, v2⟩ := C.its
  refine semS_of (ps_expr (pe_bm PySem.F.plainAttrs_list PySem.F.slot_list_append PySem.F.type_list_append mt_append (pe_var e1 e2 e3 e4) (pa_cons pe_sem pa_nil (by rfl)) (by rfl) (by rfl) e5 (by rfl) (by rfl)) (by rfl)) ⟨.ref p, C.var, .inl ⟨rfl, vs, SqL.of v1⟩, ?_⟩
  refine s_item A.lam e6 e7 C.sim C.env e fun m' H' v st sm it => ?_
  have hp : p ∈ (kt X (p :: z)).hid := List.mem_cons_self ..
  have v3 : H' p = some (.lst vs) := st.keep _ _ v1 (C.sim.hid p hp).1 live_lst.tbl
  have hl := v2.len.2.2
  refine ⟨p, vs, v, rfl, rfl, v3, Nat.lt_of_lt_of_le (by rw [hl]; exact hn) (by decide), ?_⟩
  refine h m' _ ⟨(C.st.trans st).over h0, sm.hwrite hp v3, (C.env.step st).hwrite hp v3, C.var, _, upd_same, ?_⟩
  exact ItL.snoc (it.hwrite (List.mem_cons_self ..) v3) (v2.map fun L w d v h => (h.step st).hwrite (List.mem_cons_self ..) v3)
/-- all that append -/
def AppsOk (X : Cx) (W : WX) (c : Cfg) (li : Nat) : List Stmt → List Lam → List Str → List E → Prop
  | [], [], [], [] => True
  | st :: sts, L :: Ls, w :: ws, y :: ys => AppOk X W c li st L w y ∧ AppsOk X W c li sts Ls ws ys
  | _, _, _, _ => False
theorem evL_cons {y : E} {ys : List E} (hy : ∀ e, y ≠ .star e) {ρ : Env} {S S' : Sto} {ds : List D} (e : evL c (y :: ys) ρ S = .ok ds S') : ∃ d S1 ds', evE c y ρ S = .ok d S1 ∧ evL c ys ρ S1 = .ok ds' S' ∧ ds = d :: ds' := by
  have e1 : evL c (y :: ys) ρ S = (evE c y ρ S).bind fun d S1 => (evL c ys ρ S1).bind fun ys S2 => .ok (d :: ys) S2 := by
    cases y <;> first | rfl | exact absurd rfl (hy _)
  rw [e1] at e
  cases h : evE c y ρ S with
  | ok d S1 =>
    rw [h] at e
    simp only [Res.bind_ok] at e
    cases h2 : evL c ys ρ S1 with
    | ok ds' S2 =>
      rw [h2] at e
      simp only [Res.bind_ok, Res.ok.injEq] at e
      obtain ⟨rfl, rfl⟩ := e
      exact ⟨d, S1, ds', rfl, h2, rfl⟩
    | exc _ _ _ => rw [h2] at e; cases e
    | bad => rw [h2] at e; cases e
  | exc _ _ _ => rw [h] at e; cases e
  | bad => rw [h] at e; cases e
theorem sem_apps {li : Nat} {rest : List Stmt} : ∀ {sts : List Stmt} {Ls : List Lam} {ws : List Str} {ys : List E}, AppsOk X W c li sts Ls ws ys → ∀ {z m0 m : List Addr} {H0 H : Hp} {p : Addr} {ρ : Env} {σ : L2.St} {S S1 : Sto} {Ls0 : List Lam} {ws0 : List Str} {ds0 ds : List D} {N : Ends}, H0 p = none →
    CallsAt X z li p m0 H0 ρ σ m S H Ls0 ws0 ds0 → Ls0.length + Ls.length < 101 → evL c ys ρ S = .ok ds S1 → (∀ m' H', CallsAt X z li p m0 H0 ρ σ m' S1 H' (Ls0 ++ Ls) (ws0 ++ ws) (ds0 ++ ds) → semSs X rest N σ H') → semSs X (sts ++ rest) N σ H
  | [], [], [], [], _, z, m0, m, H0, H, p, ρ, σ, S, S1, Ls0, ws0, ds0, ds, N, h0, C, hn, e, h => by
    simp only [evL, Res.ok.injEq] at e
    obtain ⟨rfl, rfl⟩ := e
    have := h m H
    simp only [List.append_nil] at this
    exact this C
  | st :: sts, L :: Ls, w :: ws, y :: ys, A, z, m0, m, H0, H, p, ρ, σ, S, S1, Ls0, ws0, ds0, ds, N, h0, C, hn, e, h => by
    obtain ⟨d, S2, ds', e1, e2, rfl⟩ := evL_cons A.1.star e
    simp only [List.length_cons] at hn
    refine semSs_of (pss_cons ps_sem pss_sem) (sem_app1 A.1 h0 C (by omega) e1 fun m' H' C' => ?_)
    refine sem_apps A.2 h0 C' (by simp only [List.length_append, List.length_singleton]; omega) e2 fun m2 H2 C2 => h m2 H2 ?_
    simpa only [List.append_assoc, List.singleton_append] using C2

theorem PostS.unhide {z m : List Addr} {H : Hp} {o : Out} {N : Ends} {p : Addr} (h : PostS X z W m H o N) : PostS X (p :: z) W m H o N := by
  have env : ∀ {m H ρ σ}, EnvR (kt X (p :: z)) m H ρ σ → EnvR (kt X z) m H ρ σ := fun {m H ρ σ} en => ⟨en.len, fun i d e => by
    obtain ⟨v, h1, h2⟩ := en.at_ i d e
    have h6 := Rp.unhide (k := kt X z) (q := p) (e := []) (by simp) h2
    rw [List.append_nil] at h6
    exact ⟨v, h1, h6⟩⟩
  have ex : ∀ {m H x d cls dx}, ExR X (p :: z) m H x d cls dx → ExR X z m H x d cls dx := fun {m H x d cls dx} ⟨C, a, v, fs, g1, g2, g3, g4, g5, g6⟩ => by
    have h6 := Rp.unhide (k := kt X z) (q := p) (e := []) (by simp) g6
    rw [List.append_nil] at h6
    exact ⟨C, a, v, fs, g1, g2, g3, g4, g5, h6⟩
  cases o with
  | next ρ S => exact fun m' H' σ' s1 s2 s3 => h m' H' σ' s1 (Sim.unhide (k := kt X z) s2) (env s3)
  | brk ρ S => exact fun m' H' σ' s1 s2 s3 => h m' H' σ' s1 (Sim.unhide (k := kt X z) s2) (env s3)
  | cont ρ S => exact fun m' H' σ' s1 s2 s3 => h m' H' σ' s1 (Sim.unhide (k := kt X z) s2) (env s3)
  | ret d S => exact fun m' H' v s1 s2 s3 => h m' H' v s1 (Sim.unhide (k := kt X z) s2) (by
      have h6 := Rp.unhide (k := kt X z) (q := p) (e := []) (by simp) s3
      rwa [List.append_nil] at h6)
  | exc x d ρ S => exact fun m' H' σ' cls dx s1 s2 s3 s4 => h m' H' σ' cls dx s1 (Sim.unhide (k := kt X z) s2) (env s3) (ex s4)
  | bad => exact h
theorem EnvR.unset' {k : Kt} {m : List Addr} {H : Hp} {ρ : Env} {σ : L2.St} (h : EnvR k m H ρ σ) (i : Nat) (v : V) : EnvR k m H (ρ.set i none) (σ.set i (some v)) :=
  ⟨by simp [h.len], fun j d e => by
    rw [List.getElem?_set] at e
    by_cases hi : i = j
    · subst hi
      rw [if_pos rfl] at e
      split at e <;> cases e
    · rw [if_neg hi] at e
      obtain ⟨v', h1, h2⟩ := h.at_ j d e
      exact ⟨v', by rw [List.getElem?_set_ne hi]; exact h1, h2⟩⟩
/-- li = [(lambda: .., w, v)] -/
theorem sem_first {li : Nat} {L : Lam} {w : Str} {y : E} {x : Str} {a : Expr} {px lpos pc tp lp pos : Pos} {j k : Nat} (hN : X.N.Nodup) (e1 : X.N[li]? = some x) (hx : X.env.scope.names.lookup x = some .local) (ha : SE X W a (evE c y)) (hs : starEach [a] X.env = [(false, eval a X.env)]) (hL : LamAt X L)
    {z m : List Addr} {H : Hp} {ρ : Env} {σ : L2.St} {S S1 : Sto} {d : D} {N : Ends} (hlen : li < σ.length) (s : Sim (kt X z) m S H) (en : EnvR (kt X z) m H (ρ.set li none) σ) (e : evE c y (ρ.set li none) S = .ok d S1)
    (h : ∀ m0 H0 p H', Step m H m0 H0 → H0 p = none → CallsAt X z li p m0 H0 (ρ.set li none) (σ.set li (some (.ref p))) m0 S1 H' [L] [w] [d] → N.nx (σ.set li (some (.ref p))) H') :
    semS X (.Assign [.Name x px] (.List [.Tuple [.Lambda L.1 L.2.1 L.2.2 lpos, .Constant (.str w) j pc, a] k tp] lp) pos) N σ H := by
  refine semS_of (ps_set hN e1 (.inl hx) (pe_lst (pa_cons pe_sem pa_nil (by rfl))) (by rfl) (.inr hx)) ?_
  refine s_item hL ha hs s en e fun m' H' v st sm it => ⟨by show (1 : Nat) ≤ sizeLine; decide, fun q hq => ?_⟩
  refine h m' H' q _ st hq ⟨.aside hq, sm.hide hq live_lst, ?_, by rw [List.getElem?_set_self hlen], [v], upd_same, (it.hide hq).step (.aside hq), trivial⟩
  have e2 : ((ρ.set li none).set li none) = ρ.set li none := by rw [List.set_set]
  have := (((en.step st).hide hq).step (Step.aside (o := .lst [v]) hq)).unset' li (.ref q)
  rwa [e2] at this

/-- what is known of a lambda's body -/
structure LamBody (X : Cx) (c2 : Cfg) (k : Nat) (L : Lam) (b : E) : Prop where
  sc : LamS X.env.scope L.2.2
  bind : ∀ (q : Str) (cl : List (Str × Addr)) (pm cv ctv : Value), bindArgs (PySem.W.kla_fn "<lambda>" q L.1 L.2.1 L.2.2 cl pm cv ctv) ⟨[], []⟩ = pure []
  run : ∀ (A : Around) (outer : List PySem.Env) (s : Shared) (H : Hp) (E : XK) (f c' : Addr), Room k (A.deeper (lamEnv X L.2.2 s.heap.objs.size f c')) → A.guards = X.A.guards → SE (lamCx X A outer s H E L.2.2 f c') (fun cls d _ H => E cls d H) L.2.1 (evE c2 b)
theorem drop_at {α : Type} {xs : List α} {i : Nat} {x : α} (h : xs[i]? = some x) : xs.drop i = x :: xs.drop (i + 1) := by
  obtain ⟨hi, e⟩ := List.getElem?_eq_some_iff.mp h
  rw [List.drop_eq_getElem_cons hi, e]
/-- for c, w, v in li: h = _law_heard(c)[0]; .. -/
theorem sem_for {li ci wi vi hi k0 : Nat} {x cn wn vn hn : Str} {px pc pw pv pt ph pf pq pcall p0 psub pa pos : Pos} {j kk : Nat} {body : List Stmt} {ss : List Stm} {CS : Addr} {c2 : Cfg} {bs : List E} {Ls : List Lam} {ws : List Str} {ds : List D}
    (hp : PassesOwn (model X.prog X.w) X.A X.env X.xe) (hcalm : X.calm = true) (hN : X.N.Nodup) (e0 : X.N[li]? = some x) (v0 : Vis X.env.scope x) (d0 : (x == ("__debug__" : Str)) = false) (d0' : (x == ("__classdict__" : Str)) = false)
    (e1 : X.N[ci]? = some cn) (l1 : L2.Loc X.env.scope cn) (f1 : X.fn cn = true ∨ X.env.scope.names.lookup cn = some .local) (v1 : Vis X.env.scope cn) (d1 : (cn == ("__debug__" : Str)) = false) (d1' : (cn == ("__classdict__" : Str)) = false)
    (e2 : X.N[wi]? = some wn) (l2 : L2.Loc X.env.scope wn) (f2 : X.fn wn = true ∨ X.env.scope.names.lookup wn = some .local)
    (e3 : X.N[vi]? = some vn) (l3 : L2.Loc X.env.scope vn) (f3 : X.fn vn = true ∨ X.env.scope.names.lookup vn = some .local)
    (e4 : X.N[hi]? = some hn) (l4 : L2.Loc X.env.scope hn) (f4 : X.fn hn = true ∨ X.env.scope.names.lookup hn = some .local)
    (n1 : wi ≠ ci) (n2 : vi ≠ ci) (hg : Gl X ("_law_heard" : Str)) (ho : HeardOk X X.prog CS) (hc : CatchOk X.mg X.K CS c.excs) (hd : c.down2 = some c2) (hr : Room (k0 + 2) X.A)
    (hbl : bs.length = Ls.length) (hB : ∀ (i : Nat) L b, Ls[i]? = some L → bs[i]? = some b → LamBody X c2 k0 L b) (hb : SSs X W body (evSs c ss))
    {z m0 m : List Addr} {H0 H : Hp} {p : Addr} {ρ : Env} {σ : L2.St} {S : Sto} {N : Ends} (C : CallsAt X z li p m0 H0 ρ σ m S H Ls ws ds) (pp : PostS X z W m H (loopC c ci wi vi hi (evSs c ss) bs ws ds ρ S) N) :
    semS X (.For (.Tuple [.Name cn pc, .Name wn pw, .Name vn pv] kk pt) (.Name x px) (.Assign [.Name hn ph] (.Subscript (.Call (.Name ("_law_heard" : Str) pf) [.Name cn pq] [] pcall) (.Constant (.int 0) j p0) psub) pa :: body) [] pos) N σ H := by
  obtain ⟨vs, q1, q2⟩ := C.its
  obtain ⟨len1, len2, len3⟩ := q2.len
  obtain ⟨g, pg, bg, sg, dV, kV, doc, pm0, cdv, ct, oc, an, od, osl, o1, o2, o3, o4, o5, o6, o7, o8⟩ := ho.ex
  have hz : p ∈ (kt X (p :: z)).hid := List.mem_cons_self ..
  refine semS_of (ps_for hp hcalm (pi_seq (pe_var e0 v0 d0 d0')) (pg_tup (n := 3) hcalm (pgs_cons (pg_name hN e1 l1 f1) (pgs_cons (pg_name hN e2 l2 f2) (pgs_cons (pg_name hN e3 l3 f3) pgs_nil)))) pss_sem (by intro _; rfl)) ⟨.ref p, C.var, p, rfl, .inl ⟨⟨vs, SqL.of q1⟩, ?_⟩⟩
  refine for_list (xs := vs) (fun i σ' H' => ∃ m' S' ρ', Step m H m' H' ∧ Sim (kt X (p :: z)) m' S' H' ∧ EnvR (kt X (p :: z)) m' H' ρ' σ' ∧ H' p = some (.lst vs) ∧ ItL X (p :: z) m' H' Ls ws ds vs ∧
    PostS X (p :: z) W m' H' (loopC c ci wi vi hi (evSs c ss) (bs.drop i) (ws.drop i) (ds.drop i) ρ' S') N) ?_ ?_ ?_ ?_
  · exact ⟨m, S, ρ, .refl, C.sim, C.env, q1, q2, by simpa only [List.drop_zero] using pp.unhide⟩
  · rintro i σ' H' _ ⟨_, _, _, _, _, _, h, _⟩
    exact SqL.of h
  · rintro i v σ1 H1 hv ⟨m1, S1, ρ1, st1, sm1, en1, r1, r2, pp1⟩
    obtain ⟨L, w, d, a1, a2, a3, t, f, u, rfl, hT, cal, rd⟩ := r2.at hv
    have hib : i < bs.length := by
      rw [hbl]
      exact (List.getElem?_eq_some_iff.mp a1).1
    have a4 : bs[i]? = some bs[i] := List.getElem?_eq_getElem hib
    generalize bs[i] = b at a4
    have B := hB i L b a1 a4
    rw [drop_at a2, drop_at a3, drop_at a4] at pp1
    simp only [loopC] at pp1
    split at pp1
    case isFalse => exact pp1.elim
    rename_i hci
    rw [en1.len] at hci
    refine ⟨t, _, rfl, hT, rfl, .ref f, _, rfl, .str w, _, rfl, u, _, rfl, rfl, ?_⟩
    have en2 : EnvR (kt X (p :: z)) m1 H1 (((ρ1.set ci none).set wi (some (.str w))).set vi (some d)) (((σ1.set ci (some (.ref f))).set wi (some (.str w))).set vi (some u)) := ((en1.unset' ci (.ref f)).set Rp.strI wi).set rd vi
    refine semSs_of (pss_cons (ps_set hN e4 l4 (pe_ix ix_seq pe_sem pe_int (by intro _ _; rfl)) (by rfl) f4) pss_sem) ?_
    have hs : (((σ1.set ci (some (.ref f))).set wi (some (.str w))).set vi (some u))[ci]? = some (some (.ref f)) := by
      rw [List.getElem?_set_ne n2, List.getElem?_set_ne n1, List.getElem?_set_self hci]
    obtain ⟨c', pm, ctv, b1, b2, b3, b4⟩ := cal
    refine sem_hearV (k := k0) (t := lamR X k0 L.2.2 L.2.1) (scope := L.2.2) (body := L.2.1) (params := L.1) (pm := pm) (ctv := ctv) (c' := c') hg o1 o2 o3 o4 o5 o6 rfl o7 o8 hr B.sc B.bind (fun A outer s H E f c' h1 h2 => ⟨fun pins s2 σ2 H2 Q2 I2 h3 => h3 A outer s H f c' h1 h2 pins s2 I2⟩) (by decide) (by decide) (by decide) e1 v1 d1 d1' hs b3 b4 fun q hq => ?_
    refine heard_tail (W := W) hc B.run .refl sm1 en2 ?_ hq
    have e : hearB c b (((ρ1.set ci none).set wi (some (.str w))).set vi (some d)) S1 = heardR c.excs (evE c2 b (((ρ1.set ci none).set wi (some (.str w))).set vi (some d)) S1) := by
      unfold hearB
      rw [hd]
    rw [e] at pp1
    refine pp1.ofRes en2 fun d2 S2 m2 H2 v2 st2 sm2 rr p3 => ?_
    split at p3
    · exact p3.elim
    · rename_i e he
      unfold fstT at he
      split at he
      · rename_i e' r'
        cases he
        obtain ⟨q', us, rfl, hT2, rl⟩ := Rp.tupAt rr
        simp only [RpL] at rl
        obtain ⟨u0, us', rfl, re, _⟩ := rl
        refine .inr (.inl ⟨q', _, 0, u0, rfl, rfl, hT2, by simp [L2.atI, L2.ixN], ?_⟩)
        have st12 := st1.trans st2
        refine hb (p :: z) m2 _ S2 _ H2 _ sm2 ((en2.step st2).set re hi) ?_
        have key : ∀ ρ3 S3, PostS X (p :: z) W m2 H2 (loopC c ci wi vi hi (evSs c ss) (bs.drop (i + 1)) (ws.drop (i + 1)) (ds.drop (i + 1)) ρ3 S3) N → ∀ m' H' σ', Step m2 H2 m' H' → Sim (kt X (p :: z)) m' S3 H' → EnvR (kt X (p :: z)) m' H' ρ3 σ' →
            ∃ m'' S' ρ', Step m H m'' H' ∧ Sim (kt X (p :: z)) m'' S' H' ∧ EnvR (kt X (p :: z)) m'' H' ρ' σ' ∧ H' p = some (.lst vs) ∧ ItL X (p :: z) m'' H' Ls ws ds vs ∧ PostS X (p :: z) W m'' H' (loopC c ci wi vi hi (evSs c ss) (bs.drop (i + 1)) (ws.drop (i + 1)) (ds.drop (i + 1)) ρ' S') N := by
          intro ρ3 S3 pp3 m' H' σ' t1 t2 t3
          have t5 := st2.trans t1
          exact ⟨m', S3, ρ3, st1.trans t5, t2, t3, t5.keep _ _ r1 (sm1.hid p hz).1 live_lst.tbl, r2.map fun L w d v h => h.step t5, pp3.later t1⟩
        cases eb : evSs c ss ((((ρ1.set ci none).set wi (some (.str w))).set vi (some d)).set hi (some e)) S2 with
        | next ρ3 S3 =>
          rw [eb] at p3
          exact key ρ3 S3 p3
        | cont ρ3 S3 =>
          rw [eb] at p3
          exact key ρ3 S3 p3
        | brk ρ3 S3 => rw [eb] at p3; exact p3
        | ret _ _ => rw [eb] at p3; exact p3
        | exc _ _ _ _ => rw [eb] at p3; exact p3
        | bad => rw [eb] at p3; exact p3
      · cases he
  · rintro σ' H' ⟨m', S', ρ', t1, t2, t3, t4, t5, pp'⟩
    rw [len3, ← hbl, List.drop_length] at pp'
    rw [hbl, ← len1, List.drop_length, len1, ← len2, List.drop_length] at pp'
    simp only [loopC] at pp'
    exact pp' m' H' σ' .refl t2 t3
end
end DL
set_option Elab.async false
set_option linter.all false
set_option maxRecDepth 100000
set_option maxHeartbeats 4000000
/-! DL14: what has been looked at is sound -/
namespace DL
open PySem PySem.Spec PyProof.Rows L2
theorem s_call00 {k : Nat} {X : Cx} {W : WX} {pos pn : Pos} {Pg : Prg} {n : Nat} {x : Str} {f : Addr} {ps : List Str} (F : FnG X.prog X.w X.K X.mg X.base k f ps (spF X.prog X.w X.K X.mg Pg n x)) (hr : Room k X.A) (hgd : X.A.guards = some []) (hg : Gl X x) (hm : X.mg x = some (.ref f)) (hk : PySem.W.keepIn X.K (.ref f) = true) (tk : Takes X W)
    (hdb : (x == ("__debug__" : Str)) = false) (g : Res D → Res D) {z m : List Addr} {S : Sto} {σ : L2.St} {H : Hp} {Q : VK} (s : Sim (kt X z) m S H) (hl : ∀ r, PostE X z W σ m H (g r) Q → PostE X z W σ m H r Q) (p : PostE X z W σ m H (g (callF Pg n x [] S)) Q) : semE X (.Call (.Name x pn) [] [] pos) σ H Q := by
  intro pins s0 I
  refine wpAny_Call_Name_kw (ld_glob I hg hm ?_ hdb)
  exact PySem.W.callWith_K0 I.kIn hk (runG (us := []) F hr hgd tk I .nil (spF_of s RpL.nil (hl _ p)))
/-- what `__init__` of an own error does -/
def spI (K : PySem.W.Frag) : Sp := fun vs H Q _ => ∃ (a C : Addr) (v : V), vs = [.ref a, v] ∧ OexC K C ∧ PySem.W.findIn K (.ref C) "value" = some none ∧ H a = some (exo a C none) ∧ ∀ dx, H dx = none → dx ≠ a → Q .non (upd (upd H dx (exd dx [("value", v)])) a (exo a C (some dx)))
structure ExcOk (P : Program) (w : World) (K : PySem.W.Frag) (mg : Str → Option Value) (base : Heap) (C : Addr) : Prop where
  cls : OexC K C
  val : PySem.W.findIn K (.ref C) "value" = some none
  ini : ∃ fI fd ps, PySem.W.findIn K (.ref C) "__init__" = some (some (.ref fI)) ∧ PySem.W.typeIn K (.ref fI) = some (.type "function") ∧ FnOk P w K mg base (L2.CX P w) 1 fI fd ps (spI K) ∧ Binds K fd ps []
/-- a lambda without parameters binds nothing -/
theorem lam_bind0 {body : Expr} {scope : Scope} (q : Str) (cl : List (Str × Addr)) (pm cv ctv : Value) : bindArgs (PySem.W.kla_fn "<lambda>" q ⟨[], [], none, [], [], none, []⟩ body scope cl pm cv ctv) ⟨[], []⟩ = pure [] := by
  rfl
/-- the def in a name is called -/
theorem s_callV {X : Cx} {W : WX} {a : Expr} {es : List Expr} {xs : List E} {pos pn : Pos} {Pg : Prg} {n i : Nat} {fs : List Str} {y : Str} (hN : X.N[i]? = some y) (hv : Vis X.env.scope y) (hdb : (y == ("__debug__" : Str)) = false) (hcd : (y == ("__classdict__" : Str)) = false)
    (hr : Room (n + 2) X.A) (hgd : X.A.guards = some []) (tk : Takes X W) (F : ∀ x ∈ fs, PySem.W.keepIn X.K (.ref (He.ga X.K x)) = true ∧ ∃ ps, FnG X.prog X.w X.K X.mg X.base (n + 2) (He.ga X.K x) ps (spF X.prog X.w X.K X.mg Pg n x)) (ha : SA X W (a :: es) (evL (cfgAt Pg n) xs))
    (he : starEach (a :: es) X.env = (false, eval a X.env) :: starEach es X.env) (hpl : (backTo pos (starEach es X.env)).any (·.1) = false) : SE X W (.Call (.Name y pn) (a :: es) [] pos) (evE (cfgAt Pg n) (.callV i fs xs)) := by
  intro z m ρ S σ H Q s en p pins s0 I
  simp only [evE] at p
  split at p
  · rename_i x hx
    split at p
    · rename_i hf
      have hρ : ρ[i]? = some (some (.fn x [])) := by
        unfold fnOfD at hx
        split at hx
        · rename_i u e; cases hx; exact e
        · cases hx
      obtain ⟨v, e1, r1⟩ := en.at_ i _ hρ
      simp only [Rp] at r1
      obtain ⟨_, rfl⟩ := r1
      obtain ⟨hk, ps, G⟩ := F x (by simpa using hf)
      have hA : semA X (a :: es) σ H (fun vs H1 => spF X.prog X.w X.K X.mg Pg n x vs H1 Q (WE W σ)) := ha z m ρ S σ H _ s en (p.bind fun ds S1 m1 H1 vs st1 s1 r1 p1 => spF_of s1 r1 (post_leave s1 (by simpa only [cfg_call] using p1)))
      refine wpAny_Call_Name_kw (thn ((pe_var (pos := pn) hN hv hdb hcd).run pins s0 σ H (fun v H1 => v = .ref (He.ga X.K x) ∧ H1 = H) I ⟨_, e1, rfl, rfl⟩) fun u s1 hu => ?_)
      obtain ⟨v, H1, I1, ru, rfl, rfl⟩ := hu
      cases ru
      exact PySem.W.callWith_K (h₀ := X.base) I1.ok.mod.kin hk (thn (hA pos pins s1 I1) fun us s2 ⟨vs, H2, I2, r, q⟩ => ⟨I2.kIn, runG G hr hgd tk I2 r q⟩) he hpl
    · exact p.elim
  · exact p.elim
/-- what is known of the defs' tables and of `_law_heard`, wherever one stands -/
structure HrdF (K : PySem.W.Frag) (mg : Str → Option Value) (CS : Addr) : Prop where
  err : mg ("ErrandError" : Str) = some (.ref CS)
  ex : ∃ (g : Addr) (pg : Arguments) (sg : Scope) (dV kV doc pm cdv ct oc : Value) (an od : Option Addr) (osl : Array (Option Value)) (k1 k2 k3 j1 j2 : Nat) (p1 p2 p3 p4 p5 p6 p7 p8 p9 p10 p11 p12 p13 p14 p15 p16 p17 p18 p19 p20 p21 : Pos),
    mg ("_law_heard" : Str) = some (.ref g) ∧ PySem.W.keepIn K (.ref g) = true ∧ K.lookup g = some ⟨oc, od, .func (PySem.W.fnOf "_law_heard" "_law_heard" pg (heardBody k1 k2 k3 j1 j2 p1 p2 p3 p4 p5 p6 p7 p8 p9 p10 p11 p12 p13 p14 p15 p16 p17 p18 p19 p20 p21) sg dV kV doc pm an cdv ct), osl⟩ ∧
    PySem.W.codeIn K cdv "_law_heard" = true ∧ (∀ u : Value, bindArgs (PySem.W.fnOf "_law_heard" "_law_heard" pg (heardBody k1 k2 k3 j1 j2 p1 p2 p3 p4 p5 p6 p7 p8 p9 p10 p11 p12 p13 p14 p15 p16 p17 p18 p19 p20 p21) sg dV kV doc pm an cdv ct) ⟨[u], []⟩ = pure [(("call" : Str), u)]) ∧
    FnScope ["call", "caught", "back", "error"] ["call"] sg ∧ sg.names.lookup ("call" : Str) = some NameKind.local ∧ sg.names.lookup ("caught" : Str) = some NameKind.local ∧ sg.names.lookup ("back" : Str) = some NameKind.local ∧ sg.names.lookup ("error" : Str) = some NameKind.local ∧
    sg.names.lookup ("ErrandError" : Str) = some NameKind.globalImplicit
theorem HrdF.ok {X : Cx} {CS : Addr} (h : HrdF X.K X.mg CS) : HeardOk X X.prog CS := by
  obtain ⟨g, pg, sg, dV, kV, doc, pm, cdv, ct, oc, an, od, osl, k1, k2, k3, j1, j2, p1, p2, p3, p4, p5, p6, p7, p8, p9, p10, p11, p12, p13, p14, p15, p16, p17, p18, p19, p20, p21, h1, h2, h3, h4, h5, h6, l1, l2, l3, l4, hge⟩ := h.ex
  exact ⟨g, pg, _, sg, dV, kV, doc, pm, cdv, ct, oc, an, od, osl, h1, h2, h3, h4, h5, h6, .inl l1, hears l1 l2 l3 l4 hge h.err⟩
/-- what is known where errors are told apart -/
structure ErrOk (Pg : Prg) (K : PySem.W.Frag) (mg : Str → Option Value) : Prop where
  hrd : ∃ CS, HrdF K mg CS ∧ CatchOk mg K CS Pg.excs
  knd : KindsOk mg K Pg.excs
/-- what is known where a piece of code stands -/
structure Cok (Pg : Prg) (n : Nat) (X : Cx) (W : WX) (B : Bx) : Prop where
  nN : X.N = B.N
  nd : B.N.Nodup
  sc : X.env.scope = B.sc
  loc : ∀ x, locB B x = true → L2.Loc X.env.scope x ∧ (X.fn x = true ∨ X.env.scope.names.lookup x = some .local)
  calm : X.calm = true
  hr : Room (n + 2) X.A
  gd : X.A.guards = some []
  tk : Takes X W
  blt : ∀ x ∈ blts, X.mg x = none
  fns : ∀ l, l ≤ n → ∀ x f, (Pg.fns.find? fun f => f.name == x) = some f → ∃ ps, X.mg x = some (.ref (He.ga X.K x)) ∧ PySem.W.keepIn X.K (.ref (He.ga X.K x)) = true ∧ FnG X.prog X.w X.K X.mg X.base (l + 2) (He.ga X.K x) ps (spF X.prog X.w X.K X.mg Pg l x)
  err : Pg.heard = true → ErrOk Pg X.K X.mg
  lam : B.lam = true → Pg.heard = true → LamOk X
  exs : ∀ x ∈ Pg.excs, ∃ C, X.mg x = some (.ref C) ∧ ExcOk X.prog X.w X.K X.mg X.base C
  glb : ∀ x d, Pg.glb x = some d → ∃ u v, X.mg x = some u ∧ RelV v u ∧ ∀ z m H, Rp (kt X z) m H d v
section
variable {Pg : Prg} {n : Nat} {X : Cx} {W : WX} {B : Bx}
theorem Cok.hu (C : Cok Pg n X W B) : X.A.units + 100 < cLine := by have := C.hr.un; omega
theorem takesF {X : Cx} : Takes X WF := fun u s' ⟨_, _, _, _, _, _, _, _, _, _, _, _, _, _, _, _, h⟩ => h.elim
theorem Cok.blk (C : Cok Pg n X W B) (scope : Scope) (s : Shared) (H : Hp) (Cc : Addr) (cl : List (Str × Addr)) (fp : List Addr) : Cok Pg n (X.blk s H scope (compEnvC scope cl Cc X.env) fp) WF (blkOf B scope) where
  nN := C.nN
  nd := C.nd
  sc := by
    show relabel scope X.env = relS scope B.sc
    rw [← C.sc]
    rfl
  loc := fun x h => by
    have e : (compEnvC scope cl Cc X.env).scope = relS scope B.sc := by
      show relabel scope X.env = relS scope B.sc
      rw [← C.sc]
      rfl
    have keep : ∀ k, k ≠ .free → scope.names.lookup x = some k → (compEnvC scope cl Cc X.env).scope.names.lookup x = some k := fun k hk h => by
      rw [e]
      exact lookup_relS_keep hk h
    unfold locB at h
    split at h
    · rename_i e1
      exact ⟨.inl (keep _ (by intro z; cases z) e1), .inr (keep _ (by intro z; cases z) e1)⟩
    · rename_i e1
      refine ⟨.inr (keep _ (by intro z; cases z) e1), .inl ?_⟩
      show (scope.names.lookup x == some .cell) = true
      have e2 : scope.names.lookup x = some .cell := e1
      rw [e2]
      rfl
    · cases h
  calm := C.calm
  hr := C.hr
  gd := C.gd
  tk := takesF
  blt := C.blt
  fns := C.fns
  err := C.err
  lam := fun h => by cases h
  exs := C.exs
  glb := C.glb
theorem Cok.inLam {m : Nat} (C : Cok Pg n X W B) (hm : m ≤ n) {scope : Scope} (L : LamX.LamS X.env.scope scope) (A : Around) (outer : List PySem.Env) (s : Shared) (H : Hp) (E : XK) (f c' : Addr) (hr : Room (m + 2) (A.deeper (LamX.lamEnv X scope s.heap.objs.size f c'))) (hg : A.guards = X.A.guards) :
    Cok Pg m (LamX.lamCx X A outer s H E scope f c') (fun cls d _ H => E cls d H) (lamOf B scope) where
  nN := C.nN
  nd := C.nd
  sc := rfl
  loc := fun x h => by
    unfold locB at h
    split at h
    · rename_i e1
      exact absurd rfl (L.own _ (PySem.mem_of_lookup e1)).1
    · rename_i e1
      exact absurd rfl (L.own _ (PySem.mem_of_lookup e1)).2
    · cases h
  calm := rfl
  hr := hr
  gd := hg.trans C.gd
  tk := takes_of rfl rfl rfl rfl
  blt := C.blt
  fns := fun l hl => C.fns l (Nat.le_trans hl hm)
  err := C.err
  lam := fun h => by cases h
  exs := C.exs
  glb := C.glb
theorem Cok.vis (C : Cok Pg n X W B) {x : Str} (h : visB B x = true) : Vis X.env.scope x := by
  rw [C.sc]
  unfold visB at h
  unfold Vis
  split at h
  · rename_i e; exact .inl e
  · rename_i e; exact .inr (.inl e)
  · rename_i e; exact .inr (.inr e)
  · cases h
theorem Cok.gl (C : Cok Pg n X W B) {x : Str} (h : gloB B x = true) : Gl X x := by
  unfold Gl
  show X.env.scope.names.lookup x = some .globalImplicit
  rw [C.sc]
  unfold gloB at h
  split at h
  · rename_i e; exact e
  · cases h
theorem plain_of {x : Str} (h : plainName x = true) : (x == ("__debug__" : Str)) = false ∧ (x == ("__classdict__" : Str)) = false ∧ x ≠ "__name__" := by
  simp only [plainName, Bool.and_eq_true, Bool.not_eq_true', decide_eq_false_iff_not] at h
  exact ⟨h.1.1, h.1.2, h.2⟩
def isBool : Expr → Bool
  | .BoolOp _ _ _ => true
  | _ => false
/-- what is told of an expression that has been looked at -/
structure EOk (Pg : Prg) (n : Nat) (X : Cx) (W : WX) (x : E) (e : Expr) : Prop where
  se : SE X W e (evE (cfgAt Pg n) x)
  st : notIf e = true → STe X W e (evT (cfgAt Pg n) x)
  sf : freshE x = true → SF X W e (evE (cfgAt Pg n) x)
  sw : isBool e = true → SWe X W e (evT (cfgAt Pg n) x)
  pt : freshE x = true → plainTest e = true
theorem noBool {e : Expr} (h : plainTest e = true) : isBool e = false := by
  cases e with
  | BoolOp _ _ _ => cases h
  | _ => rfl
theorem EOk.of {x : E} {e : Expr} (h : SE X W e (evE (cfgAt Pg n) x)) (hp : plainTest e = true) (hf : freshE x = false) : EOk Pg n X W x e :=
  ⟨h, fun _ => t_of h (test_of hp _), fun e => (by rw [hf] at e; cases e), fun e => (by rw [noBool hp] at e; cases e), fun e => (by rw [hf] at e; cases e)⟩
theorem EOk.fresh {x : E} {e : Expr} (h : SF X W e (evE (cfgAt Pg n) x)) (hp : plainTest e = true) : EOk Pg n X W x e := ⟨h.se, fun _ => t_of h.se (test_of hp _), fun _ => h, fun e => (by rw [noBool hp] at e; cases e), fun _ => hp⟩
theorem so_of {o : BOp} {op : Operator} (h : opB o op = true) : SO X (binaryOp op) (bop o) := by
  cases o <;> cases op <;> try (cases h; done)
  · exact so_add
  · exact so_sub
  · exact so_mul
  · exact so_fdiv
  · exact so_mod
  · exact so_pow
theorem co_of {o : COp} {op : CmpOp} (hu : X.A.units + 100 < cLine) (h : copB o op = true) : SO X (compareOp op) (copD o) := by
  have h64 : X.A.units + 64 < cLine := by omega
  cases o <;> cases op <;> try (cases h; done)
  · exact so_eq h64
  · exact so_ne h64
  · exact so_lt h64
  · exact so_le
  · exact so_gt
  · exact so_ge
  · exact so_is
  · exact so_isNot
  · exact so_inn hu
  · exact so_notIn hu
theorem blt_of (C : Cok Pg n X W B) {x : Str} (h : blts.contains x = true) : X.mg x = none := C.blt x (by simpa using h)
theorem nm_blt : ∀ p : P1, blts.contains p.nm = true := by intro p; cases p <;> decide +kernel
theorem nm_plain : ∀ p : P1, plainName p.nm = true := by intro p; cases p <;> decide +kernel
theorem kit_all : ∀ ty ∈ tyNames, ∀ t, t ∈ (["NoneType", "bool", "int", "str", "tuple", "list"] : List String) → kitB t ty = some (isiB t ty) := by decide +kernel
theorem ty_blt : ∀ ty ∈ tyNames, blts.contains (Str.ofString ty) = true ∧ plainName (Str.ofString ty) = true ∧ bootBuiltins (Str.ofString ty) = some (.type ty) := by decide +kernel
/-- a call of a built-in of one value -/
theorem boot_b : ∀ p ∈ ([.len, .abs, .sum, .sorted, .repr, .all, .any] : List P1), bootBuiltins p.nm = some (.builtin (match p with | .len => "len" | .abs => "abs" | .sum => "sum" | .sorted => "sorted" | .repr => "repr" | .all => "all" | _ => "any")) := by decide +kernel
theorem boot_t : ∀ p ∈ ([.int, .str, .tuple, .list, .set] : List P1), bootBuiltins p.nm = some (.type (match p with | .int => "int" | .str => "str" | .tuple => "tuple" | .list => "list" | _ => "set")) := by decide +kernel
end
end DL
set_option Elab.async false
set_option linter.all false
set_option maxRecDepth 100000
set_option maxHeartbeats 4000000
/-! DL15: every expression that has been looked at -/
namespace DL
open PySem PySem.Spec PyProof.Rows L2
section
variable {Pg : Prg} {n : Nat} {X : Cx} {W : WX} {B : Bx}
mutual
theorem okG (C : Cok Pg n X W B) : ∀ (t : Tg) (e : Expr), chkG B t e = true → SG X e t
  | .name i, e, h => by
    unfold chkG at h
    split at h
    · simp only [Bool.and_eq_true, decide_eq_true_eq] at h
      obtain ⟨h1, h2⟩ := C.loc _ h.2
      exact sg_name (by rw [C.nN]; exact C.nd) (by rw [C.nN]; exact h.1) h1 h2
    · cases h
  | .tup ts, e, h => by
    unfold chkG at h
    split at h
    · rename_i es k p
      simp only [Bool.and_eq_true] at h
      have hs : ∀ (es : List Expr), es.all notStar = true → (assignEach es X.env).length = es.length ∧ (assignEach es X.env).findIdx? (·.1) = none := by
        intro es
        induction es with
        | nil => intro _; exact ⟨rfl, rfl⟩
        | cons e es ih =>
          intro h
          simp only [List.all_cons, Bool.and_eq_true] at h
          obtain ⟨i1, i2⟩ := ih h.2
          have e1 : assignEach (e :: es) X.env = (false, assign e X.env) :: assignEach es X.env := by
            cases e <;> first | rfl | cases h.1
          rw [e1]
          refine ⟨by simp [i1], ?_⟩
          rw [List.findIdx?_cons, i2]
          rfl
      obtain ⟨l1, l2⟩ := okGs C ts es h.1 h.2
      exact sg_tup C.calm l1 l2 (hs es h.2).1 (hs es h.2).2
    · cases h
theorem okGs (C : Cok Pg n X W B) : ∀ (ts : List Tg) (es : List Expr), chkGs B ts es = true → es.all notStar = true → SGs X es ts ∧ es.length = ts.length
  | [], es, h, _ => by
    unfold chkGs at h
    split at h
    · exact ⟨sgs_nil, rfl⟩
    · cases h
  | t :: ts, es, h, hs => by
    unfold chkGs at h
    split at h
    · rename_i e es
      simp only [Bool.and_eq_true] at h
      simp only [List.all_cons, Bool.and_eq_true] at hs
      obtain ⟨l1, l2⟩ := okGs C ts es h.2 hs.2
      refine ⟨sgs_cons (okG C t e h.1) l1 ?_, by simp [l2]⟩
      have e1 : assignEach (e :: es) X.env = (false, assign e X.env) :: assignEach es X.env := by
        cases e <;> first | rfl | cases hs.1
      rw [e1]
      rfl
    · cases h
end
end
theorem boot_mm : bootBuiltins "max" = some (.builtin "max") ∧ bootBuiltins "min" = some (.builtin "min") := by decide +kernel
theorem okO {Pg : Prg} {n : Nat} {X : Cx} {W : WX} {B : Bx} {x : E} {o : Option Expr} (h : chkO Pg B x o = true) (k : ∀ e, chkE Pg B x e = true → SE X W e (evE (cfgAt Pg n) x)) : SPt X W (cfgAt Pg n) o x := by
  cases o with
  | none =>
    have h' : isNil x = true := by simpa only [chkO] using h
    cases x <;> first | exact spt_none | cases h'
  | some e =>
    have h' : chkE Pg B x e = true := by simpa only [chkO] using h
    refine spt_some (fun e0 => ?_) (k e h')
    subst e0
    simp [chkE] at h'
theorem starEach1 {a : Expr} (h : notStar a = true) (env : PySem.Env) : starEach [a] env = [(false, eval a env)] := by rw [star_of h]; rfl
mutual
theorem okE (Pg : Prg) (n : Nat) : ∀ (x : E) (X : Cx) (W : WX) (B : Bx) (e : Expr), Cok Pg n X W B → chkE Pg B x e = true → EOk Pg n X W x e
  | .var i, X, W, B, e, C, h => by
    unfold chkE at h
    split at h
    · simp only [Bool.and_eq_true, decide_eq_true_eq] at h
      obtain ⟨p1, p2, p3⟩ := plain_of h.2
      exact .of (s_var (by rw [C.nN]; exact h.1.1) (C.vis h.1.2) p1 p2 _) rfl rfl
    · cases h
  | .cst d, X, W, B, e, C, h => by
    unfold chkE at h
    split at h
    · rw [of_decide_eq_true h]; exact .of (s_int _) rfl rfl
    · rw [of_decide_eq_true h]; exact .of (s_bl _) rfl rfl
    · rw [of_decide_eq_true h]; exact .of (s_str _) rfl rfl
    · exact .of (s_non _) rfl rfl
    · cases h
  | .glb x, X, W, B, e, C, h => by
    unfold chkE at h
    split at h
    · simp only [Bool.and_eq_true, decide_eq_true_eq, Option.isSome_iff_exists] at h
      obtain ⟨⟨⟨rfl, h1⟩, h2⟩, d, h3⟩ := h
      obtain ⟨u, v, g1, g2, g3⟩ := C.glb _ d h3
      exact .of (s_glb (C.gl h1) g1 g2 g3 (plain_of h2).1 _ ((congrFun (cfg_glb Pg n) _).trans h3)) rfl rfl
    · cases h
  | .tup xs, X, W, B, e, C, h => by
    unfold chkE at h
    split at h
    · exact .of (s_tup _ (okL Pg n xs X W B _ C h)) rfl rfl
    · cases h
  | .lst xs, X, W, B, e, C, h => by
    unfold chkE at h
    split at h
    · exact .fresh (sf_lst _ (okL Pg n xs X W B _ C h)) rfl
    · cases h
  | .thaw x, X, W, B, e, C, h => by
    unfold chkE at h
    simp only [Bool.and_eq_true] at h
    have k := okE Pg n x X W B e C h.2
    exact .of (s_thaw _ (k.sf h.1)) (k.pt h.1) rfl
  | .bin o x y, X, W, B, e, C, h => by
    unfold chkE at h
    split at h
    · simp only [Bool.and_eq_true] at h
      exact .of (s_bin _ (so_of h.1.1) (okE Pg n x X W B _ C h.1.2).se (okE Pg n y X W B _ C h.2).se) rfl rfl
    · cases h
  | .addL x y, X, W, B, e, C, h => by
    unfold chkE at h
    split at h
    · simp only [Bool.and_eq_true] at h
      exact .fresh (sf_addL _ (okE Pg n x X W B _ C h.1).se (okE Pg n y X W B _ C h.2).se) rfl
    · cases h
  | .repL x y, X, W, B, e, C, h => by
    unfold chkE at h
    split at h
    · simp only [Bool.and_eq_true] at h
      exact .fresh (sf_repL _ (okE Pg n x X W B _ C h.1).se (okE Pg n y X W B _ C h.2).se) rfl
    · cases h
  | .neg x, X, W, B, e, C, h => by
    unfold chkE at h
    split at h
    · exact .of (s_neg (okE Pg n x X W B _ C h).se) rfl rfl
    · cases h
  | .not x, X, W, B, e, C, h => by
    unfold chkE at h
    split at h
    · simp only [Bool.and_eq_true] at h
      have k := okE Pg n x X W B _ C h.2
      exact ⟨s_not k.se, fun _ => t_not (k.st h.1), fun e => (by cases e), fun e => (by cases e), fun e => (by cases e)⟩
    · cases h
  | .cmp o x y, X, W, B, e, C, h => by
    unfold chkE at h
    split at h
    · simp only [Bool.and_eq_true] at h
      have k1 := (okE Pg n x X W B _ C h.1.2).se
      have k2 := (okE Pg n y X W B _ C h.2).se
      have ho := co_of (X := X) C.hu h.1.1.1
      exact ⟨s_cmp ho k1 k2 (behind_of h.1.1.2 _), fun _ => t_cmp ho k1 k2 (behind_of h.1.1.2 _), fun e => (by cases e), fun e => (by cases e), fun e => (by cases e)⟩
    · cases h
  | .chain o1 o2 x y w, X, W, B, e, C, h => by
    unfold chkE at h
    split at h
    · simp only [Bool.and_eq_true] at h
      have k1 := (okE Pg n x X W B _ C h.1.1.2).se
      have k2 := (okE Pg n y X W B _ C h.1.2).se
      have k3 := (okE Pg n w X W B _ C h.2).se
      have h1 := co_of (X := X) C.hu h.1.1.1.1.1
      have h2 := co_of (X := X) C.hu h.1.1.1.1.2
      have hm : ∀ o1 o2 b d, notSet d = true → lastMarks [o1, o2] [b, d] = false := fun o1 o2 b d hd => behind_of hd o2
      exact ⟨s_chain h1 h2 k1 k2 k3 (hm _ _ _ _ h.1.1.1.2), fun _ => t_chain h1 h2 k1 k2 k3 (hm _ _ _ _ h.1.1.1.2), fun e => (by cases e), fun e => (by cases e), fun e => (by cases e)⟩
    · cases h
  | .and x y, X, W, B, e, C, h => by
    unfold chkE at h
    split at h
    · rename_i a b p
      simp only [Bool.and_eq_true] at h
      have k1 := okE Pg n x X W B _ C h.1.2
      have k2 := okE Pg n y X W B _ C h.2
      have kw := w_and (pos := p) (k1.st h.1.1.1) (w_and1 (k2.st h.1.1.2))
      exact ⟨s_and k1.se (s_one k2.se), fun _ => t_of_w kw, fun e => (by cases e), fun _ => kw, fun e => (by cases e)⟩
    · simp only [Bool.and_eq_true] at h
      have k1 := okE Pg n x X W B _ C h.1.2
      have k2 := okE Pg n y X W B _ C h.2
      have kw := w_and (k1.st h.1.1) (k2.sw rfl)
      exact ⟨s_and k1.se k2.se, fun _ => t_of_w kw, fun e => (by cases e), fun _ => kw, fun e => (by cases e)⟩
    · cases h
  | .or x y, X, W, B, e, C, h => by
    unfold chkE at h
    split at h
    · rename_i a b p
      simp only [Bool.and_eq_true] at h
      have k1 := okE Pg n x X W B _ C h.1.2
      have k2 := okE Pg n y X W B _ C h.2
      have kw := w_or (pos := p) (k1.st h.1.1.1) (w_or1 (k2.st h.1.1.2))
      exact ⟨s_or k1.se (s_one k2.se), fun _ => t_of_w kw, fun e => (by cases e), fun _ => kw, fun e => (by cases e)⟩
    · simp only [Bool.and_eq_true] at h
      have k1 := okE Pg n x X W B _ C h.1.2
      have k2 := okE Pg n y X W B _ C h.2
      have kw := w_or (k1.st h.1.1) (k2.sw rfl)
      exact ⟨s_or k1.se k2.se, fun _ => t_of_w kw, fun e => (by cases e), fun _ => kw, fun e => (by cases e)⟩
    · cases h
  | .ite q x y, X, W, B, e, C, h => by
    unfold chkE at h
    split at h
    · simp only [Bool.and_eq_true] at h
      exact ⟨s_ite ((okE Pg n q X W B _ C h.1.1.2).st h.1.1.1) (okE Pg n x X W B _ C h.1.2).se (okE Pg n y X W B _ C h.2).se, fun e => (by cases e), fun e => (by cases e), fun e => (by cases e), fun e => (by cases e)⟩
    · cases h
  | .call x xs, X, W, B, e, C, h => by
    unfold chkE at h
    split at h
    · rename_i y p1 es p2
      simp only [Bool.and_eq_true, decide_eq_true_eq, Option.isSome_iff_exists] at h
      obtain ⟨⟨⟨⟨⟨rfl, h1⟩, h2⟩, f, h3⟩, h4⟩, h5⟩ := h
      obtain ⟨ps, g1, g2, g4⟩ := C.fns n (Nat.le_refl n) x f h3
      have k := okL Pg n xs X W B es C h5
      cases es with
      | nil =>
        have e0 : xs = [] := by
          cases xs with
          | nil => rfl
          | cons _ _ => simp [chkL] at h5
        subst e0
        refine .of (fun z m ρ S σ H Q s en p => ?_) rfl rfl
        simp only [evE, evL, Res.bind_ok, cfg_call] at p
        exact s_call00 g4 C.hr C.gd (C.gl h1) g1 g2 C.tk (plain_of h2).1 (leave S.length) s (fun r p => post_leave s p) p
      | cons e es =>
        simp only [List.all_cons, Bool.and_eq_true] at h4
        exact .of (s_call g4 C.hr C.gd (C.gl h1) g1 g2 C.tk k (plain_of h2).1 (star_of h4.1 _ _) (stars_of h4.2)) rfl rfl
    · cases h
  | .callM x xs, X, W, B, e, C, h => by
    unfold chkE at h
    split at h
    · rename_i y p1 es p2
      simp only [Bool.and_eq_true, decide_eq_true_eq, Option.isSome_iff_exists] at h
      obtain ⟨⟨⟨⟨⟨rfl, h1⟩, h2⟩, f, h3⟩, h4⟩, h5⟩ := h
      obtain ⟨ps, g1, g2, g4⟩ := C.fns n (Nat.le_refl n) x f h3
      have k := okL Pg n xs X W B es C h5
      cases es with
      | nil =>
        have e0 : xs = [] := by
          cases xs with
          | nil => rfl
          | cons _ _ => simp [chkL] at h5
        subst e0
        refine .of (fun z m ρ S σ H Q s en p => ?_) rfl rfl
        simp only [evE, evL, Res.bind_ok, cfg_callM] at p
        exact s_call00 g4 C.hr C.gd (C.gl h1) g1 g2 C.tk (plain_of h2).1 (leaveM S.length) s (fun r p => post_leaveM s p) p
      | cons e es =>
        simp only [List.all_cons, Bool.and_eq_true] at h4
        exact .of (s_callM g4 C.hr C.gd (C.gl h1) g1 g2 C.tk k (plain_of h2).1 (star_of h4.1 _ _) (stars_of h4.2)) rfl rfl
    · cases h
  | .prim p x, X, W, B, e, C, h => by
    unfold chkE at h
    split at h
    · rename_i y p1 a p2
      simp only [Bool.and_eq_true, decide_eq_true_eq] at h
      obtain ⟨⟨⟨rfl, h1⟩, h2⟩, h3⟩ := h
      have k := (okE Pg n x X W B a C h3).se
      have hm := blt_of C (nm_blt p)
      obtain ⟨q1, q2, q3⟩ := plain_of (nm_plain p)
      have hs := star_of h2 [] X.env
      cases p with
      | list => exact .fresh (sf_list (C.gl h1) hm (boot_t .list (by decide)) q3 q1 k hs) rfl
      | len => exact .of (s_b1 sc_len (C.gl h1) hm (boot_b .len (by decide)) q3 q1 k hs fun _ _ => rfl) rfl rfl
      | abs => exact .of (s_b1 sc_abs (C.gl h1) hm (boot_b .abs (by decide)) q3 q1 k hs fun _ _ => rfl) rfl rfl
      | sum => exact .of (s_b1 (sc_sum C.calm) (C.gl h1) hm (boot_b .sum (by decide)) q3 q1 k hs fun _ _ => rfl) rfl rfl
      | sorted => exact .of (s_b1 (sc_sorted C.calm C.hu) (C.gl h1) hm (boot_b .sorted (by decide)) q3 q1 k hs fun _ _ => rfl) rfl rfl
      | repr => exact .of (s_b1 (sc_repr C.hu C.gd) (C.gl h1) hm (boot_b .repr (by decide)) q3 q1 k hs fun _ _ => rfl) rfl rfl
      | all => exact .of (s_b1 (sc_all C.calm) (C.gl h1) hm (boot_b .all (by decide)) q3 q1 k hs fun _ _ => rfl) rfl rfl
      | any => exact .of (s_b1 (sc_any C.calm) (C.gl h1) hm (boot_b .any (by decide)) q3 q1 k hs fun _ _ => rfl) rfl rfl
      | int => exact .of (s_ty1 sc_int (C.gl h1) hm (boot_t .int (by decide)) q3 q1 k hs fun _ _ => rfl) rfl rfl
      | str => exact .of (s_ty1 sc_str (C.gl h1) hm (boot_t .str (by decide)) q3 q1 k hs fun _ _ => rfl) rfl rfl
      | tuple => exact .of (s_ty1 sc_tuple (C.gl h1) hm (boot_t .tuple (by decide)) q3 q1 k hs fun _ _ => rfl) rfl rfl
      | set => exact .of (s_ty1 (sc_set C.calm C.hu) (C.gl h1) hm (boot_t .set (by decide)) q3 q1 k hs fun _ _ => rfl) rfl rfl
    · cases h
  | .isi x ty, X, W, B, e, C, h => by
    unfold chkE at h
    split at h
    · rename_i y p1 a t p2 p3
      simp only [Bool.and_eq_true, decide_eq_true_eq] at h
      obtain ⟨⟨⟨⟨⟨⟨rfl, rfl⟩, h0⟩, h1⟩, h2⟩, h3⟩, h4⟩ := h
      have k := (okE Pg n x X W B a C h4).se
      obtain ⟨t1, t2, t3⟩ := ty_blt ty h0
      obtain ⟨q1, q2, q3⟩ := plain_of t2
      exact .of (s_isi (kit_all ty h0) (C.gl h1) (blt_of C (by decide +kernel)) boot_isinstance (by decide +kernel) (by decide +kernel) (C.gl h2) (blt_of C t1) t3 q3 q1 k (star_of h3 _ _)) rfl rfl
    · cases h
  | .max2 x y, X, W, B, e, C, h => by
    unfold chkE at h
    split at h
    · rename_i f p1 a b p2
      simp only [Bool.and_eq_true, decide_eq_true_eq] at h
      obtain ⟨⟨⟨⟨⟨rfl, h1⟩, h2⟩, h3⟩, h4⟩, h5⟩ := h
      exact .of (s_b2 (sc_max2 C.calm) (C.gl h1) (blt_of C (by decide +kernel)) boot_mm.1 (by decide +kernel) (by decide +kernel) (okE Pg n x X W B a C h4).se (okE Pg n y X W B b C h5).se (star_of h2 _ _) (star_of h3 _ _) (stars_of (by simp [h3])) fun _ _ => rfl) rfl rfl
    · cases h
  | .min2 x y, X, W, B, e, C, h => by
    unfold chkE at h
    split at h
    · rename_i f p1 a b p2
      simp only [Bool.and_eq_true, decide_eq_true_eq] at h
      obtain ⟨⟨⟨⟨⟨rfl, h1⟩, h2⟩, h3⟩, h4⟩, h5⟩ := h
      exact .of (s_b2 (sc_min2 C.calm) (C.gl h1) (blt_of C (by decide +kernel)) boot_mm.2 (by decide +kernel) (by decide +kernel) (okE Pg n x X W B a C h4).se (okE Pg n y X W B b C h5).se (star_of h2 _ _) (star_of h3 _ _) (stars_of (by simp [h3])) fun _ _ => rfl) rfl rfl
    · cases h
  | .idx x y, X, W, B, e, C, h => by
    unfold chkE at h
    split at h
    · simp only [Bool.and_eq_true] at h
      exact .of (s_idx (okE Pg n x X W B _ C h.1.2).se (okE Pg n y X W B _ C h.2).se (plainIx_of h.1.1)) rfl rfl
    · cases h
  | .sl x y w, X, W, B, e, C, h => by
    unfold chkE at h
    split at h
    · simp only [Bool.and_eq_true] at h
      exact .of (s_sl (okE Pg n x X W B _ C h.1.1).se (okO (by unfold chkO; exact h.1.2) fun e h => (okE Pg n y X W B e C h).se) (okO (by unfold chkO; exact h.2) fun e h => (okE Pg n w X W B e C h).se)) rfl rfl
    · cases h
  | .rev x, X, W, B, e, C, h => by
    unfold chkE at h
    split at h
    · exact .of (s_rev (okE Pg n x X W B _ C h).se) rfl rfl
    · cases h
  | .rgs t it, X, W, B, e, C, h => by
    unfold chkE at h
    split at h
    · rename_i f p1 g p2 a p3 p4
      simp only [Bool.and_eq_true, decide_eq_true_eq] at h
      obtain ⟨⟨⟨⟨⟨rfl, rfl⟩, h1⟩, h2⟩, h3⟩, h4⟩ := h
      split at h4
      · rename_i x
        have k := (okE Pg n x X W B a C h4).se
        cases t with
        | true => exact .of (s_tupRg1 C.calm (C.gl h2) (blt_of C (by decide +kernel)) (C.gl h1) (blt_of C (by decide +kernel)) k (starEach1 h3 _)) rfl rfl
        | false => exact .fresh (sf_rgs1 C.calm (C.gl h2) (blt_of C (by decide +kernel)) (C.gl h1) (blt_of C (by decide +kernel)) k (starEach1 h3 _)) rfl
      · cases h4
    · rename_i f p1 g p2 a b p3 p4
      simp only [Bool.and_eq_true, decide_eq_true_eq] at h
      obtain ⟨⟨⟨⟨⟨⟨rfl, rfl⟩, h1⟩, h2⟩, h3⟩, h5⟩, h4⟩ := h
      split at h4
      · rename_i x y
        simp only [Bool.and_eq_true] at h4
        have k := (okE Pg n x X W B a C h4.1).se
        have k2 := (okE Pg n y X W B b C h4.2).se
        cases t with
        | true => exact .of (s_tupRg2 C.calm (C.gl h2) (blt_of C (by decide +kernel)) (C.gl h1) (blt_of C (by decide +kernel)) k k2 (star_of h3 _ _) (starEach1 h5 _) (stars_of (by simp [h5]))) rfl rfl
        | false => exact .fresh (sf_rgs2 C.calm (C.gl h2) (blt_of C (by decide +kernel)) (C.gl h1) (blt_of C (by decide +kernel)) k k2 (star_of h3 _ _) (starEach1 h5 _) (stars_of (by simp [h5]))) rfl
      · cases h4
    · cases h
  | .upper x, X, W, B, e, C, h => by
    unfold chkE at h
    split at h
    · simp only [Bool.and_eq_true, decide_eq_true_eq] at h
      obtain ⟨⟨⟨rfl, h1⟩, h2⟩, h3⟩ := h
      exact .of (s_upper (okE Pg n x X W B _ C h3).se (super_of h1 _ _) h2) rfl rfl
    · cases h
  | .lc x t own it ifs, X, W, B, e, C, h => by
    unfold chkE at h
    split at h
    · rename_i elt tg iter fs scope p
      simp only [Bool.and_eq_true] at h
      obtain ⟨⟨⟨⟨⟨⟨h1, h2⟩, h3⟩, h4⟩, h5⟩, h6⟩, h7⟩ := h
      have ho : (ownOf B own).map (·.2) = own := by
        unfold ownOf
        rw [List.map_map]
        exact List.map_id _
      have ok : BlkOk X.N X.env.scope scope (ownOf B own) := by
        rw [C.nN, C.sc]
        exact blkOk_by h1
      have hown : ∀ i ∈ t.names, i ∈ (ownOf B own).map (·.2) := fun i hi => by
        rw [ho]
        simpa using List.all_eq_true.mp h3 i hi
      have hi := okI Pg n it X W B tg iter C h4
      have hg : InBlk X scope fun Y => SG Y tg t := fun s H Cc cl fp => okG (C.blk scope s H Cc cl fp) t tg h5
      have he : InBlk X scope fun Y => SE Y WF elt (evE (cfgAt Pg n) x) := fun s H Cc cl fp => (okE Pg n x _ _ _ elt (C.blk scope s H Cc cl fp) h6).se
      have fin : ∀ tt, STs X scope fs tt (evC (cfgAt Pg n) ifs) → EOk Pg n X W (.lc x t own it ifs) (.ListComp elt [⟨tg, iter, fs, 0⟩] scope p) := fun tt ht => by
        have k := sfe_lc (W := W) (pos := p) (x := x) (y := it) C.calm (by rw [C.nN]; exact C.nd) ok hi hg hown ht he (folded_of h2 _)
        rw [ho] at k
        exact .fresh k rfl
      cases ifs with
      | nil =>
        cases fs with
        | nil => exact fin _ sts_nil
        | cons _ _ => simp [chkC] at h7
      | cons u us =>
        have ku : ∀ s H Cc cl fp, _ := fun s H Cc cl fp => okC Pg n (u :: us) _ _ _ fs (C.blk scope s H Cc cl fp) h7
        cases us with
        | cons _ _ => simp [chkC] at h7
        | nil =>
          cases fs with
          | nil => simp [chkC] at h7
          | cons q qs =>
            cases qs with
            | cons _ _ => simp [chkC] at h7
            | nil => exact fin _ (sts_one fun s H Cc cl fp => ku s H Cc cl fp u q rfl rfl)
    · cases h
  | .star x, X, W, B, e, C, h => by simp [chkE] at h
  | .nil, X, W, B, e, C, h => by simp [chkE] at h
  | .iseq x, X, W, B, e, C, h => by simp [chkE] at h
  | .irange1 x, X, W, B, e, C, h => by simp [chkE] at h
  | .irange2 x y, X, W, B, e, C, h => by simp [chkE] at h
  | .ienum x, X, W, B, e, C, h => by simp [chkE] at h
  | .izip x y, X, W, B, e, C, h => by simp [chkE] at h
  | .fnv x, X, W, B, e, C, h => by
    unfold chkE at h
    split at h
    · simp only [Bool.and_eq_true, decide_eq_true_eq, Option.isSome_iff_exists] at h
      obtain ⟨⟨⟨rfl, h1⟩, h2⟩, f, h3⟩ := h
      obtain ⟨ps, g1, g2, g4⟩ := C.fns n (Nat.le_refl n) _ f h3
      refine .of (fun z m ρ S σ H Q s en p => ?_) rfl rfl
      simp only [evE] at p
      exact semE_of (pe_glob (v := .ref _) (C.gl h1) g1 rfl (plain_of h2).1) (p.ok s (by simp [RE, Rp]))
    · cases h
  | .callV i fs xs, X, W, B, e, C, h => by
    unfold chkE at h
    split at h
    · simp only [Bool.and_eq_true, decide_eq_true_eq] at h
      obtain ⟨⟨⟨⟨⟨⟨h1, h2⟩, h3⟩, h4⟩, h5⟩, h6⟩, h7⟩ := h
      obtain ⟨p1, p2, p3⟩ := plain_of h3
      exact .of (s_callV (by rw [C.nN]; exact h1) (C.vis h2) p1 p2 C.hr C.gd C.tk (fun x hx => by
        obtain ⟨f, hf⟩ := Option.isSome_iff_exists.mp (List.all_eq_true.mp h4 x hx)
        obtain ⟨ps, g1, g2, g4⟩ := C.fns n (Nat.le_refl n) x f hf
        exact ⟨g2, ps, g4⟩) (okL Pg n xs X W B _ C h7) (star_of h5 _ _) (stars_of h6)) rfl rfl
    · cases h
  | .heard x, X, W, B, e, C, h => by
    unfold chkE at h
    split at h
    · rename_i y p1 params body scope p2 p3
      simp only [Bool.and_eq_true, decide_eq_true_eq] at h
      obtain ⟨⟨⟨⟨⟨⟨rfl, h1⟩, h2⟩, h3⟩, h4⟩, h5⟩, h6⟩ := h
      by_cases hn : n < 2
      · refine .of (fun z m ρ S σ H Q s en p => ?_) rfl rfl
        simp only [evE, down2_none Pg hn] at p
        exact p.elim
      · obtain ⟨k, rfl⟩ : ∃ k, n = k + 2 := ⟨n - 2, by omega⟩
        obtain ⟨CS, t1, t2⟩ := (C.err h3).hrd
        obtain ⟨c, P, c1, c2, c3, c4⟩ := C.lam h2 h3
        have L : LamX.LamS X.env.scope scope := by
          rw [C.sc]
          exact LamX.lamS_by h5
        have hp : params = ⟨[], [], none, [], [], none, []⟩ := by
          unfold noArgs at h4
          split at h4
          · rfl
          · cases h4
        subst hp
        have k := s_heard (W := W) (p := p1) (lpos := p2) (pos := p3) (C.gl h1) t1.ok t2 c1 c2 c3 c4 C.hr L rfl lam_bind0
          fun A outer s H E f c' hr hg => (okE Pg k x _ _ _ body (C.inLam (Nat.le_add_right k 2) L A outer s H E f c' hr hg) h6).se
        refine .of (fun z m ρ S σ H Q s en p => k z m ρ S σ H Q s en ?_) rfl rfl
        simpa only [evE, cfg_down2, cfg_excs] using p
    · cases h
  | .isx x y, X, W, B, e, C, h => by
    unfold chkE at h
    split at h
    · rename_i f p1 a t p2 p3
      simp only [Bool.and_eq_true, decide_eq_true_eq] at h
      obtain ⟨⟨⟨⟨⟨⟨⟨⟨rfl, rfl⟩, h0⟩, h1⟩, h2⟩, h3⟩, h4⟩, h5⟩, h6⟩ := h
      have T := (C.err h1).knd
      rw [← cfg_excs Pg n] at T
      exact .of (s_isx T (by rw [cfg_excs]; simpa using h0) (C.gl h2) (blt_of C (by decide +kernel)) boot_isinstance (by decide +kernel) (by decide +kernel) (C.gl h3) (plain_of h4).1 (okE Pg n x X W B a C h6).se (star_of h5 _ _)) rfl rfl
    · cases h
  | .val x, X, W, B, e, C, h => by
    unfold chkE at h
    split at h
    · simp only [Bool.and_eq_true, decide_eq_true_eq] at h
      obtain ⟨⟨⟨rfl, h1⟩, h2⟩, h3⟩ := h
      have T := (C.err h1).knd
      rw [← cfg_excs Pg n] at T
      exact .of (s_val T (okE Pg n x X W B _ C h3).se (super_of h2 _ _)) rfl rfl
    · cases h
termination_by x => sizeOf x
theorem okL (Pg : Prg) (n : Nat) : ∀ (xs : List E) (X : Cx) (W : WX) (B : Bx) (es : List Expr), Cok Pg n X W B → chkL Pg B xs es = true → SA X W es (evL (cfgAt Pg n) xs)
  | [], X, W, B, es, C, h => by
    unfold chkL at h
    split at h
    · exact sa_nil _
    · cases h
  | x :: xs, X, W, B, es, C, h => by
    cases es with
    | nil => simp [chkL] at h
    | cons e es =>
      cases x with
      | star y =>
        cases e with
        | Starred a p =>
          simp only [chkL, Bool.and_eq_true] at h
          exact sa_star _ (okE Pg n y X W B a C h.1).se (okL Pg n xs X W B es C h.2) rfl
        | _ => simp [chkL, chkE] at h
      | _ =>
        simp only [chkL, Bool.and_eq_true] at h
        exact sa_cons _ (by intro y e; cases e) (okE Pg n _ X W B e C h.1.2).se (okL Pg n xs X W B es C h.2) (star_of h.1.1 _ _)
termination_by x => sizeOf x
theorem okC (Pg : Prg) (n : Nat) : ∀ (xs : List E) (X : Cx) (W : WX) (B : Bx) (es : List Expr), Cok Pg n X W B → chkC Pg B xs es = true → ∀ x e, xs = [x] → es = [e] → STe X W e (evT (cfgAt Pg n) x)
  | [], X, W, B, es, C, h, x, e, h1, h2 => by cases h1
  | u :: us, X, W, B, es, C, h, x, e, h1, h2 => by
    cases h1
    subst h2
    have h' : (notIf e && chkE Pg B u e) = true := by simpa only [chkC] using h
    simp only [Bool.and_eq_true] at h'
    exact (okE Pg n u X W B e C h'.2).st h'.1
termination_by x => sizeOf x
theorem okI (Pg : Prg) (n : Nat) : ∀ (x : E) (X : Cx) (W : WX) (B : Bx) (tg e : Expr), Cok Pg n X W B → chkI Pg B x tg e = true → SI X W tg e (evI (cfgAt Pg n) x)
  | .iseq x, X, W, B, tg, e, C, h => by
    have h' : chkE Pg B x e = true := by simpa only [chkI] using h
    exact si_seq (okE Pg n x X W B e C h').se
  | .irange1 x, X, W, B, tg, e, C, h => by
    unfold chkI at h
    split at h
    · simp only [Bool.and_eq_true, decide_eq_true_eq] at h
      obtain ⟨⟨⟨rfl, h1⟩, h2⟩, h3⟩ := h
      exact si_range1 (C.gl h1) (blt_of C (by decide +kernel)) (okE Pg n x X W B _ C h3).se (starEach1 h2 _)
    · cases h
  | .irange2 x y, X, W, B, tg, e, C, h => by
    unfold chkI at h
    split at h
    · simp only [Bool.and_eq_true, decide_eq_true_eq] at h
      obtain ⟨⟨⟨⟨⟨rfl, h1⟩, h2⟩, h3⟩, h4⟩, h5⟩ := h
      exact si_range2 (C.gl h1) (blt_of C (by decide +kernel)) (okE Pg n x X W B _ C h4).se (okE Pg n y X W B _ C h5).se (by rw [star_of h2, starEach1 h3]) (starEach1 h3 _)
    · cases h
  | .ienum x, X, W, B, tg, e, C, h => by
    unfold chkI at h
    split at h
    · simp only [Bool.and_eq_true, decide_eq_true_eq] at h
      obtain ⟨⟨⟨rfl, h1⟩, h2⟩, h3⟩ := h
      exact si_enumL (C.gl h1) (blt_of C (by decide +kernel)) (fun he => pi_enumA (C.gl h1) (blt_of C (by decide +kernel)) (starEach1 h2 _) he) (okE Pg n x X W B _ C h3).se
    · cases h
  | .izip x y, X, W, B, tg, e, C, h => by
    unfold chkI at h
    split at h
    · simp only [Bool.and_eq_true, decide_eq_true_eq] at h
      obtain ⟨⟨⟨⟨⟨rfl, h1⟩, h2⟩, h3⟩, h4⟩, h5⟩ := h
      exact si_zip (C.gl h1) (blt_of C (by decide +kernel)) (okE Pg n x X W B _ C h4).se (okE Pg n y X W B _ C h5).se (star_of h2 _ _) (star_of h3 _ _) (stars_of (by simp [h3]))
    · cases h
  | .var _, X, W, B, tg, e, C, h => by simp [chkI] at h
  | .cst _, X, W, B, tg, e, C, h => by simp [chkI] at h
  | .glb _, X, W, B, tg, e, C, h => by simp [chkI] at h
  | .fnv _, X, W, B, tg, e, C, h => by simp [chkI] at h
  | .callV _ _ _, X, W, B, tg, e, C, h => by simp [chkI] at h
  | .heard _, X, W, B, tg, e, C, h => by simp [chkI] at h
  | .isx _ _, X, W, B, tg, e, C, h => by simp [chkI] at h
  | .val _, X, W, B, tg, e, C, h => by simp [chkI] at h
  | .star _, X, W, B, tg, e, C, h => by simp [chkI] at h
  | .tup _, X, W, B, tg, e, C, h => by simp [chkI] at h
  | .lst _, X, W, B, tg, e, C, h => by simp [chkI] at h
  | .thaw _, X, W, B, tg, e, C, h => by simp [chkI] at h
  | .bin _ _ _, X, W, B, tg, e, C, h => by simp [chkI] at h
  | .addL _ _, X, W, B, tg, e, C, h => by simp [chkI] at h
  | .repL _ _, X, W, B, tg, e, C, h => by simp [chkI] at h
  | .neg _, X, W, B, tg, e, C, h => by simp [chkI] at h
  | .not _, X, W, B, tg, e, C, h => by simp [chkI] at h
  | .cmp _ _ _, X, W, B, tg, e, C, h => by simp [chkI] at h
  | .chain _ _ _ _ _, X, W, B, tg, e, C, h => by simp [chkI] at h
  | .and _ _, X, W, B, tg, e, C, h => by simp [chkI] at h
  | .or _ _, X, W, B, tg, e, C, h => by simp [chkI] at h
  | .ite _ _ _, X, W, B, tg, e, C, h => by simp [chkI] at h
  | .call _ _, X, W, B, tg, e, C, h => by simp [chkI] at h
  | .callM _ _, X, W, B, tg, e, C, h => by simp [chkI] at h
  | .prim _ _, X, W, B, tg, e, C, h => by simp [chkI] at h
  | .isi _ _, X, W, B, tg, e, C, h => by simp [chkI] at h
  | .max2 _ _, X, W, B, tg, e, C, h => by simp [chkI] at h
  | .min2 _ _, X, W, B, tg, e, C, h => by simp [chkI] at h
  | .idx _ _, X, W, B, tg, e, C, h => by simp [chkI] at h
  | .sl _ _ _, X, W, B, tg, e, C, h => by simp [chkI] at h
  | .nil, X, W, B, tg, e, C, h => by simp [chkI] at h
  | .rev _, X, W, B, tg, e, C, h => by simp [chkI] at h
  | .upper _, X, W, B, tg, e, C, h => by simp [chkI] at h
  | .rgs _ _, X, W, B, tg, e, C, h => by simp [chkI] at h
  | .lc _ _ _ _ _, X, W, B, tg, e, C, h => by simp [chkI] at h
termination_by x => sizeOf x
end
end DL
set_option Elab.async false
set_option linter.all false
set_option maxRecDepth 100000
set_option maxHeartbeats 4000000
/-! DL16: every statement that has been looked at -/
namespace DL
open PySem PySem.Spec PyProof.Rows L2
def funB (B : Bx) : Bool := match B.sc.kind with
  | .function => true
  | _ => false
def aTup : Expr → Bool
  | .Tuple _ _ _ => true
  | _ => false
/-- a, b = x, y is stored from the left -/
def noSwapB (B : Bx) (tg a : Expr) : Bool := match tg with
  | .Tuple ts _ _ => match a with
    | .Tuple vs _ _ => (ts.any fun t => match t with | .Name x _ => !decide (B.sc.names.lookup x = some .local) | _ => true) || vs.all (foldedForSure 8) || (vs.length != ts.length) || !(ts.length == 2 || ts.length == 3)
    | _ => true
  | .List _ _ => false
  | _ => true
/-- a comprehension that is stored as it is made -/
def lcSwB (B : Bx) (tg a : Expr) : Bool := match tg, a with
  | .Name y py, .ListComp _ _ scope pos => funB B && isLocB B y && (py.line == pos.line) && !(scope.names.any fun (n, k) => n == y && (k == .local || k == .cell))
  | _, _ => false
def lcNoSwB (B : Bx) (tg a : Expr) : Bool := match a with
  | .ListComp _ _ scope pos => match tg with
    | .Name y py => !(decide (B.sc.names.lookup y = some .local) && (py.line == pos.line) && !(scope.names.any fun (n, k) => n == y && (k == .local || k == .cell)))
    | _ => true
  | .SetComp _ _ _ _ => false
  | .DictComp _ _ _ _ _ => false
  | _ => true
/-- (lambda: .., word, value) -/
def itemOf : Expr → Option (Lam × Str × Expr)
  | .Tuple [.Lambda params body scope _, .Constant (.str w) _ _, a] _ _ => some ((params, body, scope), w, a)
  | _ => none
def chkItem (Pg : Prg) (B : Bx) (b : E) (w : Str) (y : E) (e : Expr) : Bool := match itemOf e with
  | some (L, w', a) => decide (w = w') && notStar a && (B.lam && Pg.heard && noArgs L.1 && LamX.lamSB B.sc L.2.2 && chkE Pg (lamOf B L.2.2) b L.2.1) && chkE Pg B y a
  | none => false
def chkFirst (Pg : Prg) (B : Bx) (li : Nat) (b : E) (w : Str) (y : E) (st : Stmt) : Bool := match st with
  | .Assign [.Name x _] (.List [t] _) _ => decide (B.N[li]? = some x) && isLocB B x && chkItem Pg B b w y t
  | _ => false
def chkApp1 (Pg : Prg) (B : Bx) (li : Nat) (b : E) (w : Str) (y : E) (st : Stmt) : Bool := match st with
  | .Expr (.Call (.Attribute (.Name x _) nm p1) [t] [] p2) _ => decide (nm = ("append" : Str)) && decide (B.N[li]? = some x) && visB B x && plainName x && (p1.endLine == p2.line) && chkItem Pg B b w y t
  | _ => false
def chkApps (Pg : Prg) (B : Bx) (li : Nat) : List E → List Str → List E → List Stmt → Bool
  | [], [], [], [] => true
  | b :: bs, w :: ws, y :: ys, st :: sts => chkApp1 Pg B li b w y st && chkApps Pg B li bs ws ys sts
  | _, _, _, _ => false
def chkForH (B : Bx) (li ci wi vi hi : Nat) (cn wn vn x hn f cn' : Str) : Bool := decide (B.N[li]? = some x) && visB B x && plainName x && decide (B.N[ci]? = some cn) && locB B cn && visB B cn && plainName cn && decide (cn' = cn) && decide (B.N[wi]? = some wn) && locB B wn && decide (B.N[vi]? = some vn) && locB B vn &&
  decide (B.N[hi]? = some hn) && locB B hn && decide (f = ("_law_heard" : Str)) && gloB B f && decide (wi ≠ ci) && decide (vi ≠ ci)
mutual
def chkS (Pg : Prg) (B : Bx) : Stm → Stmt → Bool
  | .asg t x, st => match st with
    | .Assign [tg] a _ => notStar tg && chkG B t tg && chkE Pg B x a && noSwapB B tg a && (lcSwB B tg a || lcNoSwB B tg a)
    | _ => false
  | .par is xs, st => match st with
    | .Assign [.Tuple [.Name x px, .Name y py] _ _] (.Tuple [a, b] _ _) _ => match is with
      | [i, j] => decide (B.N[i]? = some x) && decide (B.N[j]? = some y) && decide (i ≠ j) && decide (x ≠ y) && isLocB B x && isLocB B y && (px.line == py.line) && funB B && notStar a && notStar b && !([a, b].all (foldedForSure 8)) && !([a, b].all (constantsAlone 8)) && chkL Pg B xs [a, b]
      | _ => false
    | .Assign [.Tuple [.Name x px, .Name y py, .Name z pz] _ _] (.Tuple [a, b, d] _ _) _ => match is with
      | [i, j, l] => decide (B.N[i]? = some x) && decide (B.N[j]? = some y) && decide (B.N[l]? = some z) && decide (i ≠ j) && decide (i ≠ l) && decide (j ≠ l) && decide (x ≠ y) && decide (x ≠ z) && decide (y ≠ z) && isLocB B x && isLocB B y && isLocB B z && (px.line == py.line) && (px.line == pz.line) && funB B && notStar a && notStar b && notStar d
        && !([a, b, d].all (foldedForSure 8)) && !([a, b, d].all (constantsAlone 8)) && chkL Pg B xs [a, b, d]
      | _ => false
    | _ => false
  | .seti x y w, st => match st with
    | .Assign [.Subscript a b _] d _ => notSlice b && notComp d && chkE Pg B x a && chkE Pg B y b && chkE Pg B w d
    | _ => false
  | .expr x, st => match st with
    | .Expr a _ => notComp a && chkE Pg B x a
    | _ => false
  | .app x y, st => match st with
    | .Expr (.Call (.Attribute a nm p1) [b] [] p2) _ => decide (nm = ("append" : Str)) && notSuper a && (p1.endLine == p2.line) && notStar b && chkE Pg B x a && chkE Pg B y b
    | _ => false
  | .ext x y, st => match st with
    | .Expr (.Call (.Attribute a nm p1) [b] [] p2) _ => decide (nm = ("extend" : Str)) && notSuper a && (p1.endLine == p2.line) && notStar b && chkE Pg B x a && chkE Pg B y b
    | _ => false
  | .ifs x ss ss', st => match st with
    | .If q as bs _ => notIf q && chkE Pg B x q && chkSs Pg B ss as && chkSs Pg B ss' bs
    | _ => false
  | .for t y ss, st => match st with
    | .For tg iter body [] _ => notSet iter && chkI Pg B y tg iter && chkG B t tg && chkSs Pg B ss body
    | _ => false
  | .whil x ss, st => match st with
    | .While q body [] _ => notIf q && chkE Pg B x q && chkSs Pg B ss body
    | _ => false
  | .ret x, st => match st with
    | .Return (some a) _ => chkE Pg B x a
    | _ => false
  | .retN, st => match st with
    | .Return none _ => true
    | _ => false
  | .raise c x, st => match st with
    | .Raise (some (.Call (.Name y _) [a] [] _)) none _ => decide (c = y) && gloB B c && plainName c && decide (c ∈ Pg.excs) && notStar a && chkE Pg B x a
    | _ => false
  | .pass, st => match st with
    | .Pass _ => true
    | _ => false
  | .brk, st => match st with
    | .Break _ => true
    | _ => false
  | .cont, st => match st with
    | .Continue _ => true
    | _ => false
  | .any, _ => true
  | .calls .., _ => false
def chkSs (Pg : Prg) (B : Bx) : List Stm → List Stmt → Bool
  | [], sts => match sts with
    | [] => true
    | _ => false
  | .calls li ci wi vi hi (b :: bs) (w :: ws) (y :: ys) ss' :: ss, sts => match sts with
    | st :: rest => chkFirst Pg B li b w y st && chkApps Pg B li bs ws ys (rest.take bs.length) && decide (bs.length < 90) && (match rest.drop bs.length with
      | .For (.Tuple [.Name cn _, .Name wn _, .Name vn _] _ _) (.Name x _) (.Assign [.Name hn _] (.Subscript (.Call (.Name f _) [.Name cn' _] [] _) (.Constant (.int 0) _ _) _) _ :: body) [] _ :: rest' => chkForH B li ci wi vi hi cn wn vn x hn f cn' && chkSs Pg B ss' body && chkSs Pg B ss rest'
      | _ => false)
    | _ => false
  | s :: ss, sts => match sts with
    | st :: sts => chkS Pg B s st && chkSs Pg B ss sts
    | [] => false
end
section
variable {Pg : Prg} {n : Nat} {X : Cx} {W : WX} {B : Bx}
/-- where statements stand -/
structure SCok (Pg : Prg) (n : Nat) (X : Cx) (W : WX) (B : Bx) : Prop extends Cok Pg n X W B where
  own : PassesOwn (model X.prog X.w) X.A X.env X.xe
theorem isLoc_of (C : Cok Pg n X W B) {x : Str} (h : isLocB B x = true) : X.env.scope.names.lookup x = some .local := by
  rw [C.sc]
  unfold isLocB at h
  split at h
  · rename_i e; exact e
  · cases h
theorem fun_of (C : Cok Pg n X W B) (h : funB B = true) : X.env.scope.kind = .function := by
  rw [C.sc]
  unfold funB at h
  split at h
  · rename_i e; exact e
  · cases h
theorem fm_short {B : Bx} {env : PySem.Env} (he : env.scope = B.sc) (l : Nat) : ∀ {ts : List Expr}, (ts.any fun t => match t with | .Name x _ => !decide (B.sc.names.lookup x = some .local) | _ => true) = true →
    (ts.filterMap fun | .Name id pos => if env.kindOf id == some .local && pos.line == l then some id else none | _ => none).length < ts.length
  | [], h => by simp at h
  | t :: ts, h => by
    have hle : ∀ us : List Expr, (us.filterMap fun | .Name id pos => if env.kindOf id == some .local && pos.line == l then some id else none | _ => none).length ≤ us.length := fun us => List.length_filterMap_le _ _
    rw [List.any_cons, Bool.or_eq_true] at h
    rcases h with h | h
    · rw [List.filterMap_cons_none]
      · exact Nat.lt_succ_of_le (hle ts)
      · cases t with
        | Name x p =>
          have e1 : env.kindOf x = B.sc.names.lookup x := by rw [← he]; rfl
          simp only [Bool.not_eq_true', decide_eq_false_iff_not] at h
          simp only [e1]
          rw [if_neg]
          simp [h]
        | _ => rfl
    · have ih := fm_short he l h
      rw [List.filterMap_cons]
      split
      · exact Nat.lt_succ_of_lt ih
      · rw [List.length_cons, List.length_cons]; omega
theorem noswap_of (C : Cok Pg n X W B) {tg a : Expr} (h : noSwapB B tg a = true) : swappedStores [tg] a X.env = pure none := by
  unfold noSwapB at h
  split at h
  · split at h
    · rename_i ts k p vs k2 p2
      simp only [Bool.or_eq_true, Bool.not_eq_true', bne_iff_ne, ne_eq] at h
      unfold swappedStores
      dsimp only
      split
      · rfl
      · rename_i h1
        simp only [Bool.or_eq_true, Bool.not_eq_true', bne_iff_ne, ne_eq, not_or, Bool.not_eq_false, Decidable.not_not] at h1
        split
        · rfl
        · split
          · rfl
          · rename_i h3
            rcases h with ((h | h) | h) | h
            · exfalso
              simp only [Bool.or_eq_true, bne_iff_ne, ne_eq, not_or, Decidable.not_not] at h3
              exact absurd h3.1 (Nat.ne_of_lt (fm_short (env := X.env) C.sc _ h))
            · exact if_pos h
            · exact absurd h1.1.2 h
            · rcases h1.1.1 with e | e <;> simp [e] at h
    · rename_i hn
      cases a <;> first | rfl | exact absurd rfl (hn _ _ _)
  · cases h
  · rename_i h1 h2
    cases tg <;> first | rfl | exact absurd rfl (h1 _ _ _) | exact absurd rfl (h2 _ _)

/-- what a comprehension's parts are -/
theorem lc_parts (C : Cok Pg n X W B) {x y : E} {t : Tg} {own : List Nat} {ifs : List E} {e : Expr} (h : chkE Pg B (.lc x t own y ifs) e = true) :
    ∃ elt tg iter fs scope p tt, e = .ListComp elt [⟨tg, iter, fs, 0⟩] scope p ∧ (ownOf B own).map (·.2) = own ∧ BlkOk X.N X.env.scope scope (ownOf B own) ∧ SI X W tg iter (evI (cfgAt Pg n) y) ∧ (InBlk X scope fun Y => SG Y tg t) ∧ (∀ i ∈ t.names, i ∈ (ownOf B own).map (·.2)) ∧
      STs X scope fs tt (evC (cfgAt Pg n) ifs) ∧ (InBlk X scope fun Y => SE Y WF elt (evE (cfgAt Pg n) x)) ∧ ∀ v, foldedSetIterable iter X.env v = pure v := by
  unfold chkE at h
  split at h
  · rename_i elt tg iter fs scope p
    simp only [Bool.and_eq_true] at h
    obtain ⟨⟨⟨⟨⟨⟨h1, h2⟩, h3⟩, h4⟩, h5⟩, h6⟩, h7⟩ := h
    have ho : (ownOf B own).map (·.2) = own := by
      unfold ownOf
      rw [List.map_map]
      exact List.map_id _
    have ok : BlkOk X.N X.env.scope scope (ownOf B own) := by
      rw [C.nN, C.sc]
      exact blkOk_by h1
    have hown : ∀ i ∈ t.names, i ∈ (ownOf B own).map (·.2) := fun i hi => by
      rw [ho]
      simpa using List.all_eq_true.mp h3 i hi
    have hi := okI Pg n y X W B tg iter C h4
    have hg : InBlk X scope fun Y => SG Y tg t := fun s H Cc cl fp => okG (C.blk scope s H Cc cl fp) t tg h5
    have he : InBlk X scope fun Y => SE Y WF elt (evE (cfgAt Pg n) x) := fun s H Cc cl fp => (okE Pg n x _ _ _ elt (C.blk scope s H Cc cl fp) h6).se
    have hts : ∃ tt, STs X scope fs tt (evC (cfgAt Pg n) ifs) := by
      cases ifs with
      | nil =>
        cases fs with
        | nil => exact ⟨_, sts_nil⟩
        | cons _ _ => simp [chkC] at h7
      | cons u us =>
        have ku : ∀ s H Cc cl fp, _ := fun s H Cc cl fp => okC Pg n (u :: us) _ _ _ fs (C.blk scope s H Cc cl fp) h7
        cases us with
        | cons _ _ => simp [chkC] at h7
        | nil =>
          cases fs with
          | nil => simp [chkC] at h7
          | cons q qs =>
            cases qs with
            | cons _ _ => simp [chkC] at h7
            | nil => exact ⟨_, sts_one fun s H Cc cl fp => ku s H Cc cl fp u q rfl rfl⟩
    obtain ⟨tt, ht⟩ := hts
    exact ⟨elt, tg, iter, fs, scope, p, tt, rfl, ho, ok, hi, hg, hown, ht, he, folded_of h2 _⟩
  · cases h
theorem lcNoSw_of (C : Cok Pg n X W B) {tg a : Expr} {l : Nat} (h : lcNoSwB B tg a = true) : swapsWithSole [tg] a l X.env = pure false := by
  show swapsWith a (some tg) l X.env = pure false
  cases a with
  | ListComp elt gs scope pos =>
    cases tg with
    | Name y py =>
      simp only [lcNoSwB, Bool.not_eq_true'] at h
      unfold swapsWith
      have e1 : X.env.kindOf y = B.sc.names.lookup y := by rw [← C.sc]; rfl
      simp only [e1, Expr.pos]
      show (pure _ : Sem Bool) = pure false
      congr 1
      rw [Bool.and_eq_false_iff] at h ⊢
      rcases h with h | h
      · left
        rw [Bool.and_eq_false_iff] at h ⊢
        rcases h with h | h
        · left
          rw [Bool.and_eq_false_iff]
          right
          simpa using h
        · exact .inr h
      · exact .inr h
    | _ => rfl
  | SetComp _ _ _ _ => cases h
  | DictComp _ _ _ _ _ => cases h
  | _ => rfl
theorem assign1 {tg : Expr} (h : notStar tg = true) (env : PySem.Env) : (assignEach [tg] env).map (·.2) = [assign tg env] := by
  cases tg <;> first | rfl | cases h
theorem sub_of {a b : Expr} {kp : Pos} (h : notSlice b = true) (env : PySem.Env) (v : Value) : assign (.Subscript a b kp) env v = (do
      let ov ← holding [v] (eval a env)
      let iv ← holding [v, ov] (eval b env)
      standAt kp
      holding [v, ov, iv] (setItem ov iv v)
      release [v, ov, iv] []) := by
  cases b <;> first | rfl | cases h
theorem few_of {b : Expr} (h : notStar b = true) (pn : Pos) (env : PySem.Env) : ((backTo pn (starEach [b] env)).all (fun x => !x.1) && (backToKw pn (keywordEach [] env)).all (fun x => x.1.isSome) && decide (([b] : List Expr).length + ([] : List Keyword).length + (if ([] : List Keyword).isEmpty then 0 else 1) < 30)) = true := by
  rw [starEach1 h]
  rfl
theorem anyStar_of : ∀ {es : List Expr}, es.all notStar = true → (es.any fun | .Starred .. => true | _ => false) = false
  | [], _ => rfl
  | e :: es, h => by
    simp only [List.all_cons, Bool.and_eq_true] at h
    rw [List.any_cons, anyStar_of h.2]
    cases e <;> first | rfl | (cases h.1; done)
theorem swapped_of {ts vs : List Expr} {names : List Str} {k k2 : Nat} {pt p2 : Pos} {env : PySem.Env} {l : Nat} (h1 : (!(ts.length == 2 || ts.length == 3) || vs.length != ts.length || env.blockKind != .function) = false) (h2 : vs.all notStar = true) (hl : (ts.head?.map (·.pos.line)).getD 0 = l)
    (h3 : (ts.filterMap fun | .Name id pos => if env.kindOf id == some .local && pos.line == l then some id else none | _ => none) = names) (h4 : (names.length != ts.length || names.eraseDups.length != names.length) = false) (h5 : vs.all (foldedForSure 8) = false) (h6 : vs.all (constantsAlone 8) = false) :
    swappedStores [.Tuple ts k pt] (.Tuple vs k2 p2) env = pure (some names) := by
  subst h3
  subst hl
  unfold swappedStores
  dsimp only
  refine (if_neg (fun h => Bool.false_ne_true (h1.symm.trans h))).trans ?_
  refine (if_neg (fun h => Bool.false_ne_true ((anyStar_of h2).symm.trans h))).trans ?_
  refine (if_neg (fun h => Bool.false_ne_true (h4.symm.trans h))).trans ?_
  refine (if_neg (fun h => Bool.false_ne_true (h5.symm.trans h))).trans ?_
  refine (if_neg (fun h => Bool.false_ne_true (h6.symm.trans h))).trans ?_
  rfl
theorem par2_of (C : Cok Pg n X W B) {x y : Str} {px py pt p2 : Pos} {a b : Expr} {k k2 : Nat} (hf : funB B = true) (hx : isLocB B x = true) (hy : isLocB B y = true) (hxy : x ≠ y) (hl : (px.line == py.line) = true) (ha : notStar a = true) (hb : notStar b = true)
    (h1 : ([a, b].all (foldedForSure 8)) = false) (h2 : ([a, b].all (constantsAlone 8)) = false) : swappedStores [.Tuple [.Name x px, .Name y py] k pt] (.Tuple [a, b] k2 p2) X.env = pure (some [x, y]) := by
  have e1 : X.env.kindOf x = some .local := isLoc_of C hx
  have e2 : X.env.kindOf y = some .local := isLoc_of C hy
  have e3 : X.env.blockKind = .function := by unfold Env.blockKind; rw [fun_of C hf]; rfl
  have e4 : px.line = py.line := by simpa using hl
  refine swapped_of (by simp [e3]) (by simp [ha, hb]) rfl ?_ ?_ h1 h2
  · simp [e1, e2, Expr.pos, e4]
  · have : y ≠ x := fun e => hxy e.symm
    simp [List.eraseDups_cons, List.filter_cons, this]
theorem par3_of (C : Cok Pg n X W B) {x y z : Str} {px py pz pt p2 : Pos} {a b d : Expr} {k k2 : Nat} (hf : funB B = true) (hx : isLocB B x = true) (hy : isLocB B y = true) (hz : isLocB B z = true) (hxy : x ≠ y) (hxz : x ≠ z) (hyz : y ≠ z) (hl : (px.line == py.line) = true) (hl2 : (px.line == pz.line) = true) (ha : notStar a = true) (hb : notStar b = true) (hd : notStar d = true)
    (h1 : ([a, b, d].all (foldedForSure 8)) = false) (h2 : ([a, b, d].all (constantsAlone 8)) = false) : swappedStores [.Tuple [.Name x px, .Name y py, .Name z pz] k pt] (.Tuple [a, b, d] k2 p2) X.env = pure (some [x, y, z]) := by
  have e1 : X.env.kindOf x = some .local := isLoc_of C hx
  have e2 : X.env.kindOf y = some .local := isLoc_of C hy
  have e5 : X.env.kindOf z = some .local := isLoc_of C hz
  have e3 : X.env.blockKind = .function := by unfold Env.blockKind; rw [fun_of C hf]; rfl
  have e4 : px.line = py.line := by simpa using hl
  have e6 : px.line = pz.line := by simpa using hl2
  refine swapped_of (by simp [e3]) (by simp [ha, hb, hd]) rfl ?_ ?_ h1 h2
  · simp [e1, e2, e5, Expr.pos, ← e4, ← e6]
  · have t1 : y ≠ x := fun e => hxy e.symm
    have t2 : z ≠ x := fun e => hxz e.symm
    have t3 : z ≠ y := fun e => hyz e.symm
    simp [List.eraseDups_cons, List.filter_cons, t1, t2, t3]
/-- raise C(v) -/
theorem st_raise (C : SCok Pg n X W B) {c : Str} {x : E} {a : Expr} {pn pos pos' : Pos} (hg : Gl X c) (hp : plainName c = true) (hm : c ∈ Pg.excs) (ha : SE X W a (evE (cfgAt Pg n) x)) (hs : notStar a = true) :
    SSt X W (.Raise (some (.Call (.Name c pn) [a] [] pos)) none pos') (evS (cfgAt Pg n) (.raise c x)) := by
  intro z m ρ S σ H N s en p
  simp only [evS] at p
  obtain ⟨Cl, e1, ⟨T, hv, fI, fd, ps, i1, i2, i3, i4⟩⟩ := C.exs c hm
  refine semS_of (ps_raise C.calm C.tk (pmk_oex (ds := []) (dvs := []) T i1 i2 i3 (C.hr.mono (by omega)) i4 .nil (fun pins σ H s e s' I h => passAt takesF σ pins H s e s' I h) hg e1 (pa_cons pe_sem pa_nil (starEach1 hs _)) (plain_of hp).1 (starEach1 hs _) rfl)) ?_
  refine ha z m ρ S σ H _ s en (p.ofRes en fun d S1 m1 H1 v st1 s1 r1 p1 => ?_)
  refine ⟨by simp, fun q hq => ?_⟩
  refine ⟨q, Cl, v, rfl, T, hv, upd_same, fun dx hdx hne => ⟨rfl, dx, [("value", v)], ?_, ?_, ?_, ?_⟩⟩
  · exact upd_same
  · show (if dx = q then _ else if dx = dx then _ else _) = _
    rw [if_neg hne, if_pos rfl]
  · have := hdx
    unfold upd at this
    rwa [if_neg hne] at this
  · have hd1 : H1 dx = none := by
      have := hdx
      unfold upd at this
      rwa [if_neg hne] at this
    have eH : upd (del (upd (upd (upd H1 q (exo q Cl none)) dx (exd dx [("value", v)])) q (exo q Cl (some dx))) q) dx (.xd [("value", v)]) = upd H1 dx (.xd [("value", v)]) := by
      funext b
      unfold upd del
      by_cases h1 : b = dx
      · simp [h1]
      · by_cases h2 : b = q
        · subst h2; simp [h1, hq]
        · simp [h1, h2]
    rw [eH]
    refine p1 m1 _ σ _ _ (.aside hd1) (s1.aside hd1) ((en.step st1).step (.aside hd1)) ⟨Cl, dx, v, _, e1, rfl, rfl, upd_same, rfl, r1.step (.aside hd1)⟩
end
end DL
set_option Elab.async false
set_option linter.all false
set_option maxRecDepth 100000
set_option maxHeartbeats 4000000
/-! DL17: every statement that has been looked at is sound -/
namespace DL
open PySem PySem.Spec PyProof.Rows L2
section
variable {Pg : Prg} {n : Nat} {X : Cx} {W : WX} {B : Bx}
theorem sole_of {tg a : Expr} {l : Nat} {env : PySem.Env} (h : notComp a = true) : swapsWithSole [tg] a l env = pure false := by
  show swapsWith a (some tg) l env = pure false
  exact swaps_of h _ _ _
theorem ok_asg (C : SCok Pg n X W B) {t : Tg} {x : E} {tg a : Expr} {pos : Pos} (h1 : notStar tg = true) (h2 : chkG B t tg = true) (h3 : chkE Pg B x a = true) (h4 : noSwapB B tg a = true) (h5 : lcSwB B tg a = true ∨ lcNoSwB B tg a = true) : SSt X W (.Assign [tg] a pos) (evS (cfgAt Pg n) (.asg t x)) := by
  rcases h5 with h5 | h5
  · unfold lcSwB at h5
    split at h5
    · rename_i y py elt0 gs0 scope0 pos0
      simp only [Bool.and_eq_true, Bool.not_eq_true'] at h5
      obtain ⟨⟨⟨f1, f2⟩, f3⟩, f4⟩ := h5
      have hsw : ∀ elt gs, swapsWith (.ListComp elt gs scope0 pos0) (some (.Name y py)) pos.line X.env = pure true := fun elt gs => sw_true (fun_of C.toCok f1) (isLoc_of C.toCok f2) f3 f4
      cases t with
      | tup _ => simp [chkG] at h2
      | name i =>
        simp only [chkG, Bool.and_eq_true, decide_eq_true_eq] at h2
        have key : ∀ xx t own it ifs, (x = .lc xx t own it ifs ∨ x = .thaw (.lc xx t own it ifs)) → chkE Pg B (.lc xx t own it ifs) (.ListComp elt0 gs0 scope0 pos0) = true → SSt X W (.Assign [.Name y py] (.ListComp elt0 gs0 scope0 pos0) pos) (evS (cfgAt Pg n) (.asg (.name i) x)) := by
          intro xx t own it ifs hx hc
          obtain ⟨elt, tg, iter, fs, scope, p, tt, e0, ho, ok, hi, hg, hown, ht, he, hs⟩ := lc_parts C.toCok hc
          cases e0
          refine st_asgLc (own := ownOf B own) (by rw [ho]; exact hx) C.calm (by rw [C.nN]; exact C.nd) (by rw [C.nN]; exact h2.1) (isLoc_of C.toCok f2) (hsw _ _) ok hi hg hown ht he hs
        cases x with
        | lc xx t own it ifs => exact key xx t own it ifs (.inl rfl) h3
        | thaw y =>
          cases y with
          | lc xx t own it ifs =>
            unfold chkE at h3
            simp only [Bool.and_eq_true] at h3
            exact key xx t own it ifs (.inr rfl) h3.2
          | lst _ => simp [chkE] at h3
          | prim p _ => cases p <;> simp [chkE, freshE] at h3
          | _ => simp [chkE, freshE] at h3
        | _ => simp [chkE] at h3
    · cases h5
  · exact st_asg (okE Pg n x X W B a C.toCok h3).se (okG C.toCok t tg h2) (lcNoSw_of C.toCok h5) (noswap_of C.toCok h4) (assign1 h1 _)
theorem noArgs_of {L : Arguments} (h : noArgs L = true) : L = ⟨[], [], none, [], [], none, []⟩ := by
  unfold noArgs at h
  split at h
  · rfl
  · cases h
theorem not_star {Pg : Prg} {B : Bx} {y : E} {a : Expr} (h : chkE Pg B y a = true) : ∀ e, y ≠ .star e := by
  rintro e rfl
  simp [chkE] at h
theorem item_of (C : SCok Pg (n + 2) X W B) {b : E} {w : Str} {y : E} {e : Expr} (h : chkItem Pg B b w y e = true) :
    ∃ (L : Lam) (a : Expr) (lpos pc tp : Pos) (j k : Nat), e = .Tuple [.Lambda L.1 L.2.1 L.2.2 lpos, .Constant (.str w) j pc, a] k tp ∧ LamAt X L ∧ LamBody X (cfgAt Pg n) (n + 2) L b ∧ SE X W a (evE (cfgAt Pg (n + 2)) y) ∧ (∀ e, y ≠ .star e) ∧ starEach [a] X.env = [(false, eval a X.env)] := by
  unfold chkItem itemOf at h
  split at h
  · rename_i L w' a h1
    split at h1
    · rename_i params body scope lpos w2 j pc a2 k tp
      simp only [Option.some.injEq, Prod.mk.injEq] at h1
      obtain ⟨rfl, rfl, rfl⟩ := h1
      simp only [Bool.and_eq_true, decide_eq_true_eq] at h
      obtain ⟨⟨⟨rfl, h2⟩, ⟨⟨⟨h3, h4⟩, h5⟩, h6⟩, h7⟩, h8⟩ := h
      have Ls : LamX.LamS X.env.scope scope := by
        rw [C.sc]
        exact LamX.lamS_by h6
      have ep := noArgs_of h5
      subst ep
      refine ⟨(_, body, scope), a2, lpos, pc, tp, j, k, rfl, ⟨C.lam h3 h4, Ls, rfl⟩, ⟨Ls, lam_bind0, fun A outer s H E f c' hr hg => (okE Pg n b _ _ _ body (C.toCok.inLam (Nat.le_add_right n 2) Ls A outer s H E f c' hr hg) h7).se⟩, (okE Pg (n + 2) y X W B _ C.toCok h8).se, not_star h8, star_of h2 _ _⟩
    · cases h1
  · cases h
theorem apps_of (C : SCok Pg (n + 2) X W B) {li : Nat} : ∀ {bs : List E} {ws : List Str} {ys : List E} {sts : List Stmt}, chkApps Pg B li bs ws ys sts = true → ∃ Ls : List Lam, AppsOk X W (cfgAt Pg (n + 2)) li sts Ls ws ys ∧ bs.length = Ls.length ∧ ∀ (i : Nat) L b, Ls[i]? = some L → bs[i]? = some b → LamBody X (cfgAt Pg n) (n + 2) L b
  | [], [], [], [], _ => ⟨[], trivial, rfl, fun i L b h => by simp at h⟩
  | b :: bs, w :: ws, y :: ys, st :: sts, h => by
    simp only [chkApps, Bool.and_eq_true] at h
    obtain ⟨Ls, h1, h2, h3⟩ := apps_of C h.2
    have h := h.1
    unfold chkApp1 at h
    split at h
    · rename_i x px nm p1 t p2 p3 _
      simp only [Bool.and_eq_true, decide_eq_true_eq] at h
      obtain ⟨⟨⟨⟨⟨rfl, g1⟩, g2⟩, g3⟩, g4⟩, g5⟩ := h
      obtain ⟨L, a, lpos, pc, tp, j, k, rfl, i1, i2, i3, i4, i5⟩ := item_of C g5
      refine ⟨L :: Ls, ⟨⟨⟨x, a, px, p1, p2, p3, lpos, pc, tp, j, k, rfl, by rw [C.nN]; exact g1, C.vis g2, (plain_of g3).1, (plain_of g3).2.1, g4, i3, i5⟩, i1, i4⟩, h1⟩, by simp [h2], fun i L' b' e1 e2 => ?_⟩
      cases i with
      | zero => simp at e1 e2; subst e1 e2; exact i2
      | succ i => exact h3 i L' b' (by simpa using e1) (by simpa using e2)
    · cases h
  | [], [], [], _ :: _, h => by simp [chkApps] at h
  | [], [], _ :: _, _, h => by simp [chkApps] at h
  | [], _ :: _, _, _, h => by simp [chkApps] at h
  | _ :: _, [], _, _, h => by simp [chkApps] at h
  | _ :: _, _ :: _, [], _, h => by simp [chkApps] at h
  | _ :: _, _ :: _, _ :: _, [], h => by simp [chkApps] at h
theorem ok_calls (C : SCok Pg n X W B) {li ci wi vi hi : Nat} {b : E} {w : Str} {y : E} {bs : List E} {ws : List Str} {ys : List E} {ss' ss : List Stm} {st : Stmt} {apps rest' body : List Stmt} {cn wn vn x hn f cn' : Str} {pc pw pv pt px ph pf pq pcall p0 psub pa pos : Pos} {kk j : Nat}
    (h1 : chkFirst Pg B li b w y st = true) (h2 : chkApps Pg B li bs ws ys apps = true) (h3 : bs.length < 90) (h4 : chkForH B li ci wi vi hi cn wn vn x hn f cn' = true) (hb : SSs X W body (evSs (cfgAt Pg n) ss')) (hs : SSs X W rest' (evSs (cfgAt Pg n) ss)) :
    SSs X W (st :: (apps ++ .For (.Tuple [.Name cn pc, .Name wn pw, .Name vn pv] kk pt) (.Name x px) (.Assign [.Name hn ph] (.Subscript (.Call (.Name f pf) [.Name cn' pq] [] pcall) (.Constant (.int 0) j p0) psub) pa :: body) [] pos :: rest'))
      (evSs (cfgAt Pg n) (.calls li ci wi vi hi (b :: bs) (w :: ws) (y :: ys) ss' :: ss)) := by
  intro z m ρ S σ H N s en p
  simp only [evSs, evS] at p
  split at p
  case isFalse => exact p.elim
  rename_i hli
  by_cases hn2 : n < 2
  · exfalso
    split at p
    · rename_i ds S1 _
      cases ds with
      | nil => simp only [loopC, Out.seq_bad] at p; exact p
      | cons d ds =>
        simp only [loopC, hearB, down2_none Pg hn2, ofRes_bad] at p
        split at p <;> exact p
    · exact p
  obtain ⟨n, rfl⟩ : ∃ k, n = k + 2 := ⟨n - 2, by omega⟩
  split at p
  case h_2 => exact p.elim
  rename_i ds S1 ev
  unfold chkFirst at h1
  split at h1
  case h_2 => cases h1
  rename_i fx fpx ft flp fpos
  simp only [Bool.and_eq_true, decide_eq_true_eq] at h1
  obtain ⟨⟨g1, g2⟩, g3⟩ := h1
  obtain ⟨L, a, lpos, pcc, tp, jj, k, rfl, i1, i2, i3, i4, i5⟩ := item_of C g3
  obtain ⟨Ls, a1, a2, a3⟩ := apps_of C h2
  simp only [chkForH, Bool.and_eq_true, decide_eq_true_eq] at h4
  obtain ⟨⟨⟨⟨⟨⟨⟨⟨⟨⟨⟨⟨⟨⟨⟨⟨⟨k1, k2⟩, k3⟩, k4⟩, k5⟩, k6⟩, k7⟩, rfl⟩, k8⟩, k9⟩, k10⟩, k11⟩, k12⟩, k13⟩, rfl⟩, k14⟩, k15⟩, k16⟩ := h4
  obtain ⟨d, S2, ds', e1, e2, rfl⟩ := evL_cons i4 ev
  have hnl : li < σ.length := by rw [← en.len]; exact hli
  have en0 : EnvR (kt X z) m H (ρ.set li none) σ := ⟨by simp [en.len], fun i d e => by
    rw [List.getElem?_set] at e
    by_cases hi : li = i
    · subst hi
      rw [if_pos rfl] at e
      split at e <;> cases e
    · rw [if_neg hi] at e
      exact en.at_ i d e⟩
  refine semSs_of (pss_cons ps_sem pss_sem) (sem_first (by rw [C.nN]; exact C.nd) (by rw [C.nN]; exact g1) (isLoc_of C.toCok g2) i3 i5 i1 hnl s en0 e1 fun m0 H0 q H1 st0 hq CA => ?_)
  refine sem_apps a1 hq CA (by rw [← a2, List.length_singleton]; omega) e2 fun m2 H2 CB => ?_
  refine semSs_of (pss_cons ps_sem pss_sem) ?_
  have hh : Pg.heard = true := by
    unfold chkItem itemOf at g3
    simp only [Bool.and_eq_true] at g3
    exact g3.1.2.1.1.1.2
  obtain ⟨CS, t1, t2⟩ := (C.err hh).hrd
  have l1 := C.loc cn' k5
  have l2 := C.loc wn k9
  have l3 := C.loc vn k11
  have l4 := C.loc hn k13
  refine sem_for (c := cfgAt Pg (n + 2)) (c2 := cfgAt Pg n) (k0 := n + 2) (bs := b :: bs) (ss := ss') C.own C.calm (by rw [C.nN]; exact C.nd) (by rw [C.nN]; exact k1) (C.vis k2) (plain_of k3).1 (plain_of k3).2.1 (by rw [C.nN]; exact k4) l1.1 l1.2 (C.vis k6) (plain_of k7).1 (plain_of k7).2.1 (by rw [C.nN]; exact k8) l2.1 l2.2 (by rw [C.nN]; exact k10) l3.1 l3.2 (by rw [C.nN]; exact k12) l4.1 l4.2 k15 k16 (C.gl k14) t1.ok (by rw [cfg_excs]; exact t2) (cfg_down2 Pg n) C.hr (by simp [a2]) (fun i L' b' e1 e2 => ?_) hb (m := m2) (H := H2) (m0 := m0) (H0 := H0) CB ?_
  · cases i with
    | zero => simp at e1 e2; subst e1 e2; exact i2
    | succ i => exact a3 i L' b' (by simpa using e1) (by simpa using e2)
  · have st2 : Step m H m2 H2 := st0.trans CB.st
    simp only [List.singleton_append]
    generalize loopC (cfgAt Pg (n + 2)) ci wi vi hi (evSs (cfgAt Pg (n + 2)) ss') (b :: bs) (w :: ws) (d :: ds') (ρ.set li none) S1 = o at p
    have p2 := p.later st2
    cases o with
    | next ρ1 S3 => exact fun m3 H3 σ3 s1 s2 s3 => hs z m3 ρ1 S3 σ3 H3 N s2 s3 (p2.later s1)
    | _ => exact p2
mutual
theorem okS (C : SCok Pg n X W B) : ∀ (s : Stm) (st : Stmt), chkS Pg B s st = true → SSt X W st (evS (cfgAt Pg n) s)
  | .asg t x, st, h => by
    unfold chkS at h
    split at h
    · simp only [Bool.and_eq_true, Bool.or_eq_true] at h
      obtain ⟨⟨⟨⟨h1, h2⟩, h3⟩, h4⟩, h5⟩ := h
      exact ok_asg C h1 h2 h3 h4 h5
    · cases h
  | .par is xs, st, h => by
    unfold chkS at h
    split at h
    · split at h
      · simp only [Bool.and_eq_true, decide_eq_true_eq, Bool.not_eq_true'] at h
        obtain ⟨⟨⟨⟨⟨⟨⟨⟨⟨⟨⟨⟨h1, h2⟩, h3⟩, h4⟩, h5⟩, h6⟩, h7⟩, h8⟩, h9⟩, h10⟩, h11⟩, h12⟩, h13⟩ := h
        exact st_par2 C.calm (by rw [C.nN]; exact C.nd) (by rw [C.nN]; exact h1) (by rw [C.nN]; exact h2) h3 (isLoc_of C.toCok h5) (isLoc_of C.toCok h6) (okL Pg n xs X W B _ C.toCok h13) (par2_of C.toCok h8 h5 h6 h4 h7 h9 h10 h11 h12)
      · cases h
    · split at h
      · simp only [Bool.and_eq_true, decide_eq_true_eq, Bool.not_eq_true'] at h
        obtain ⟨⟨⟨⟨⟨⟨⟨⟨⟨⟨⟨⟨⟨⟨⟨⟨⟨⟨⟨⟨h1, h2⟩, h3⟩, h4⟩, h5⟩, h6⟩, h7⟩, h8⟩, h9⟩, h10⟩, h11⟩, h12⟩, h13⟩, h14⟩, h15⟩, h16⟩, h17⟩, h18⟩, h19⟩, h20⟩, h21⟩ := h
        exact st_par3 C.calm (by rw [C.nN]; exact C.nd) (by rw [C.nN]; exact h1) (by rw [C.nN]; exact h2) (by rw [C.nN]; exact h3) h4 h5 h6 (isLoc_of C.toCok h10) (isLoc_of C.toCok h11) (isLoc_of C.toCok h12) (okL Pg n xs X W B _ C.toCok h21) (par3_of C.toCok h15 h10 h11 h12 h7 h8 h9 h13 h14 h16 h17 h18 h19 h20)
      · cases h
    · cases h
  | .seti x y w, st, h => by
    unfold chkS at h
    split at h
    · simp only [Bool.and_eq_true] at h
      obtain ⟨⟨⟨⟨h1, h2⟩, h3⟩, h4⟩, h5⟩ := h
      exact st_seti (okE Pg n x X W B _ C.toCok h3).se (okE Pg n y X W B _ C.toCok h4).se (okE Pg n w X W B _ C.toCok h5).se (sub_of h1 _) (sole_of h2) rfl rfl
    · cases h
  | .expr x, st, h => by
    unfold chkS at h
    split at h
    · simp only [Bool.and_eq_true] at h
      exact st_expr (okE Pg n x X W B _ C.toCok h.2).se (swaps_of h.1 _ _ _)
    · cases h
  | .app x y, st, h => by
    unfold chkS at h
    split at h
    · simp only [Bool.and_eq_true, decide_eq_true_eq] at h
      obtain ⟨⟨⟨⟨⟨rfl, h1⟩, h2⟩, h3⟩, h4⟩, h5⟩ := h
      exact st_app (okE Pg n x X W B _ C.toCok h4).se (okE Pg n y X W B _ C.toCok h5).se (super_of h1 _ _) (few_of h3 _ _) h2 (star_of h3 _ _) rfl
    · cases h
  | .ext x y, st, h => by
    unfold chkS at h
    split at h
    · simp only [Bool.and_eq_true, decide_eq_true_eq] at h
      obtain ⟨⟨⟨⟨⟨rfl, h1⟩, h2⟩, h3⟩, h4⟩, h5⟩ := h
      exact st_ext (okE Pg n x X W B _ C.toCok h4).se (okE Pg n y X W B _ C.toCok h5).se (super_of h1 _ _) (few_of h3 _ _) h2 (star_of h3 _ _) rfl
    · cases h
  | .ifs x ss ss', st, h => by
    unfold chkS at h
    split at h
    · simp only [Bool.and_eq_true] at h
      obtain ⟨⟨⟨h1, h2⟩, h3⟩, h4⟩ := h
      exact st_if ((okE Pg n x X W B _ C.toCok h2).st h1) (okSs C ss _ h3) (okSs C ss' _ h4)
    · cases h
  | .for t y ss, st, h => by
    unfold chkS at h
    split at h
    · simp only [Bool.and_eq_true] at h
      obtain ⟨⟨⟨h1, h2⟩, h3⟩, h4⟩ := h
      exact st_for C.own C.calm (okI Pg n y X W B _ _ C.toCok h2) (okG C.toCok t _ h3) (okSs C ss _ h4) (folded_of h1 _)
    · cases h
  | .whil x ss, st, h => by
    unfold chkS at h
    split at h
    · simp only [Bool.and_eq_true] at h
      obtain ⟨⟨h1, h2⟩, h3⟩ := h
      exact st_while C.own ((okE Pg n x X W B _ C.toCok h2).st h1) (okSs C ss _ h3)
    · cases h
  | .ret x, st, h => by
    unfold chkS at h
    split at h
    · exact st_ret (okE Pg n x X W B _ C.toCok h).se
    · cases h
  | .retN, st, h => by
    unfold chkS at h
    split at h
    · exact st_retN
    · cases h
  | .raise c x, st, h => by
    unfold chkS at h
    split at h
    · simp only [Bool.and_eq_true, decide_eq_true_eq] at h
      obtain ⟨⟨⟨⟨⟨rfl, h1⟩, h2⟩, h3⟩, h4⟩, h5⟩ := h
      exact st_raise C (C.gl h1) h2 h3 (okE Pg n x X W B _ C.toCok h5).se h4
    · cases h
  | .pass, st, h => by
    unfold chkS at h
    split at h
    · exact st_pass
    · cases h
  | .brk, st, h => by
    unfold chkS at h
    split at h
    · exact st_brk
    · cases h
  | .cont, st, h => by
    unfold chkS at h
    split at h
    · exact st_cont
    · cases h
  | .any, st, h => fun z m ρ S σ H N s en p => by simp only [evS] at p; exact p.elim
  | .calls .., st, h => by simp [chkS] at h
theorem okSs (C : SCok Pg n X W B) : ∀ (ss : List Stm) (sts : List Stmt), chkSs Pg B ss sts = true → SSs X W sts (evSs (cfgAt Pg n) ss)
  | [], sts, h => by
    unfold chkSs at h
    split at h
    · exact ss_nil
    · cases h
  | s :: ss, sts, h => by
    unfold chkSs at h
    split at h
    · rename_i heq
      cases heq
    · rename_i heq
      obtain ⟨rfl, rfl⟩ := List.cons.inj heq
      split at h
      · rename_i st rest
        simp only [Bool.and_eq_true, decide_eq_true_eq] at h
        obtain ⟨⟨⟨h1, h2⟩, h3⟩, h4⟩ := h
        split at h4
        · rename_i cn p1 wn p2 vn p3 k1 p4 x p5 hn p6 f p7 cn' p8 p9 j p10 p11 p12 body p13 rest' e
          simp only [Bool.and_eq_true] at h4
          obtain ⟨⟨h4, h5⟩, h6⟩ := h4
          have e2 : ∀ k, rest = rest.take k ++ rest.drop k := fun k => (List.take_append_drop _ _).symm
          rw [e2 _, e]
          exact ok_calls C h1 h2 h3 h4 (okSs C _ body h5) (okSs C ss rest' h6)
        · cases h4
      · cases h
    · rename_i heq
      cases heq
      split at h
      · simp only [Bool.and_eq_true] at h
        exact ss_cons (okS C s _ h.1) (okSs C ss _ h.2)
      · cases h
end
end
end DL
set_option Elab.async false
set_option linter.all false
set_option maxRecDepth 100000
set_option maxHeartbeats 4000000
/-! DLt: the law's def is called behind the top, the tables of code objects told -/
namespace DL
open PySem PySem.Spec PyProof.Rows L2 LamX
section
variable {P : Program} {w : World} {K : PySem.W.Frag} {mg : Str → Option Value} {k : Nat} {f : Addr} {ps : List Str} {sp : Sp}
/-- what is told at the head: the script at a, if it isn't written down in K; the tables -/
def headHp (a : Addr) (fz : Option HO) (ts : List Addr) : Hp := fun b => if b ∈ ts then some (.tbl #[]) else if b = a then fz else none
theorem headT {mb : Str → Option Value} {s1 : Shared} {a : Addr} {vs : List Value} {ns : List Int} {cs : List (Addr × Addr)} (KX : K.In s1.heap) (hns : s1.heap.Ns mainGlobals mg) (hb : s1.heap.Ns builtinsNs mb) (hbb : ∀ x : Str, x ≠ "__name__" → mb x = bootBuiltins x) (hlim : s1.heap.NoLimit) (hgens : s1.gens = #[])
    (hT : ∀ p ∈ cs, s1.heap.get? p.2 = some { cls := .none, data := .fields #[] }) (nT : ∀ p ∈ cs, K.lookup p.2 = none) (hc : ∀ p ∈ cs, PySem.W.codeHdIn K p.1 p.2 = true)
    (hbm : ∃ (bm : Addr) (ob : Obj), mg "__builtins__" = some (.ref bm) ∧ bm ≠ builtinsNs ∧ s1.heap.get? bm = some ob ∧ ob.cls = .type "module" ∧ ob.dict = some builtinsNs ∧ ob.data = .plain)
    (ha : s1.heap.get? a = some { cls := .type "list", data := .seq vs.toArray }) (hi : IntsAre vs ns) (hl : ns.length ≤ sizeLine) (hr : Room k callerA) (F : ∀ base : Heap, K.In base → base.Ns mainGlobals mg → (∀ p ∈ cs, TabB base mg p.1 p.2) → FnG P w K mg base k f ps sp)
    (hsp : ∀ H : Hp, (∀ p ∈ cs, H p.2 = some (.tbl #[])) → FzL K H a (ns.map V.int) → sp [.ref a] H (fun v _ => v = .bl true) fun _ _ _ => False) :
    codeAny (model P w) callerA (.call (.ref f) ⟨[.ref a], []⟩) (fun r s' => r = .ok (.ret (.bool true)) ∧ OldK s1.heap s'.heap ∧ s'.os = s1.os ∧ AllBare s'.gens) s1 := by
  have rv := vals_ints hi
  have aT : a ∉ cs.map (·.2) := fun z => by
    obtain ⟨p, hp, e⟩ := List.mem_map.mp z
    have q := hT p hp
    rw [e, ha] at q
    cases q
  obtain ⟨fz, hfz, hfa⟩ : ∃ fz : Option HO, (fz = none ∨ fz = some (.frz { cls := .type "list", data := .seq vs.toArray } (.lst (ns.map V.int))) ∧ K.lookup a = none) ∧ (fz = none → ∃ o, K.lookup a = some o) := by
    cases hk : K.lookup a with
    | some o => exact ⟨none, .inl rfl, fun _ => ⟨o, rfl⟩⟩
    | none => exact ⟨_, .inr ⟨rfl, rfl⟩, fun z => by cases z⟩
  obtain ⟨H, eH⟩ : ∃ H, H = headHp a fz (cs.map (·.2)) := ⟨_, rfl⟩
  have Ht : ∀ p ∈ cs, H p.2 = some (.tbl #[]) := fun p hp => by rw [eH]; exact if_pos (List.mem_map.mpr ⟨p, hp, rfl⟩)
  have Ha : H a = fz := by rw [eH]; exact (if_neg aT).trans (if_pos rfl)
  have Hn : ∀ b, b ∉ cs.map (·.2) → b ≠ a → H b = none := fun b h1 h2 => by rw [eH]; exact (if_neg h1).trans (if_neg h2)
  have Hs : ∀ b u, H b = some u → (∃ p ∈ cs, p.2 = b ∧ u = .tbl #[]) ∨ (b = a ∧ u = .frz { cls := .type "list", data := .seq vs.toArray } (.lst (ns.map V.int)) ∧ K.lookup a = none) := fun b u e => by
    by_cases h1 : b ∈ cs.map (·.2)
    · obtain ⟨p, hp, e2⟩ := List.mem_map.mp h1
      subst e2
      rw [Ht p hp] at e
      cases e
      exact .inl ⟨p, hp, rfl, rfl⟩
    · by_cases h2 : b = a
      · subst h2
        rw [Ha] at e
        rcases hfz with z | ⟨z, hk⟩
        · rw [z] at e; cases e
        · rw [z] at e; cases e; exact .inr ⟨rfl, rfl, hk⟩
      · rw [Hn b h1 h2] at e; cases e
  have fzl : FzL K H a (ns.map V.int) := by
    rcases hfz with z | ⟨z, hk⟩
    · obtain ⟨o, hk⟩ := hfa z
      have e1 := KX a o hk
      rw [ha] at e1
      cases e1
      exact .inr ⟨_, vs.toArray, _, hk, rfl, rfl, rfl, by rw [List.size_toArray, hi.length]; exact hl, by simpa using rv⟩
    · exact .inl ⟨_, Ha.trans z⟩
  -- what has other data than a list's or a table's isn't told
  have free : ∀ b o, s1.heap.get? b = some o → (∀ vs n, o.data ≠ .seq vs n) → o.data ≠ .fields #[] → H b = none := fun b o e h1 h2 => by
    cases q : H b with
    | none => rfl
    | some u =>
      rcases Hs b u q with ⟨p, hp, rfl, _⟩ | ⟨rfl, _, _⟩
      · rw [hT p hp] at e
        cases e
        exact absurd rfl h2
      · rw [ha] at e
        cases e
        exact absurd rfl (h1 _ _)
  have nsT : ∀ b m, s1.heap.Ns b m → (hidT s1.heap H).Ns b m := fun b m ⟨o, es, ep, e, d, r⟩ =>
    ⟨o, es, ep, hidT_get e (free b o e (fun _ _ z => by rw [d] at z; cases z) (fun z => by rw [d] at z; cases z)), d, r⟩
  have kb : K.In (hidT s1.heap H) := fun b o e => hidT_get (KX b o e) (by
    cases q : H b with
    | none => rfl
    | some u =>
      rcases Hs b u q with ⟨p, hp, rfl, _⟩ | ⟨rfl, _, hk⟩
      · rw [nT p hp] at e; cases e
      · rw [hk] at e; cases e)
  have nG : ∀ b o, s1.heap.get? b = some o → (∀ es ep, o.data ≠ .dict es ep) → mainGlobals ≠ b := fun b o e h z => by
    obtain ⟨o2, es, ep, e2, d, _⟩ := hns
    rw [z, e] at e2
    cases e2
    exact h _ _ d
  have TB : ∀ p ∈ cs, TabB (hidT s1.heap H) mg p.1 p.2 := fun p hp => by
    obtain ⟨bm, ob, b1, b2, b3, b4, b5, b6⟩ := hbm
    refine ⟨PySem.W.codeHd_of_K kb (hc p hp), ⟨bm, ob, b1, b2, fun q => ?_, fun q => ?_, hidT_get b3 (free bm ob b3 (fun _ _ z => by rw [b6] at z; cases z) (fun z => by rw [b6] at z; cases z)), b4, b5, b6⟩, nG _ _ (hT p hp) (fun _ _ z => by cases z)⟩
    · exact nG bm ob b3 (fun _ _ z => by rw [b6] at z; cases z) q.symm
    · rw [q, hT p hp] at b3
      cases b3
      cases b6
  have hok : HOk P w H s1.heap := fun b u e => by
    rcases Hs b u e with ⟨p, hp, rfl, rfl⟩ | ⟨rfl, rfl, _⟩
    · exact hT p hp
    · exact ⟨ha, by rw [List.length_map]; exact hl, vs, _, rv, ha⟩
  have e0 : Env0 P w K mg (hidT s1.heap H) callerA [] s1 H := ⟨rfl, ⟨kb, nsT _ _ hns, ⟨mb, nsT _ _ hb, hbb⟩, let ⟨m, h1, h2⟩ := hlim; ⟨m, nsT _ _ h1, h2⟩⟩, fun b o e => of_hidT e, Nat.le_of_eq (hidT_size _ _), trivial, fun b hb => absurd hb List.not_mem_nil, hok, AllBare.of_eq hgens⟩
  refine codeAny_mono ((F _ kb (nsT _ _ hns) TB).run callerA [] s1 H [.ref a] [.ref a] _ _ hr rfl e0 (.cons rfl .nil) (hsp H Ht fzl)) fun r s2 h2 => ?_
  match r, h2 with
  | .error e, h2 =>
    obtain ⟨_, _, _, _, _, _, _, _, _, _, _, _, q⟩ := h2
    exact q.elim
  | .ok (.ret u), h2 =>
    obtain ⟨v, H2, t1, t2, t3, t4, t5, t6⟩ := h2
    have t6' : v = .bl true := t6
    subst t6'
    have t5' : u = Value.bool true := t5
    subst t5'
    have at_ : ∀ b o, s1.heap.get? b = some o → s2.heap.get? b = some o ∨ ((∃ p ∈ cs, p.2 = b) ∧ ∃ more : Array Value, s2.heap.get? b = some { cls := .none, data := .fields more }) := fun b o e => by
      cases hq : H b with
      | none => exact .inl (t3.keep b o e hq (fun z => by cases z) (fun z => by cases z))
      | some u =>
        rcases Hs b u hq with ⟨p, hp, rfl, rfl⟩ | ⟨rfl, rfl, _⟩
        · obtain ⟨more, z⟩ := t3.tbls _ _ hq
          exact .inr ⟨⟨p, hp, rfl⟩, _, t4 _ _ z⟩
        · have z2 := (t4 _ _ (t3.frzs _ _ _ hq)).1
          rw [ha] at e
          cases e
          exact .inl z2
    refine ⟨rfl, ⟨fun b o e => ?_, fun b o e => ?_⟩, t1, t2⟩
    · rcases at_ b o e with z | ⟨⟨p, hp, rfl⟩, more, z⟩
      · exact .inl z
      · rw [hT p hp] at e
        cases e
        exact .inr (.inl ⟨((PySem.W.codeHd_of_K KX (hc p hp)).tab (hT p hp)).isCodeTable, rfl, #[], more, rfl, by rw [Array.empty_append]; exact z⟩)
    · rcases at_ b o e with z | ⟨_, more, z⟩
      · exact ⟨_, z⟩
      · exact ⟨_, z⟩
  | .ok .next, h2 => exact h2.elim
  | .ok .brk, h2 => exact h2.elim
  | .ok .cont, h2 => exact h2.elim
end
end DL
set_option Elab.async false
set_option linter.all false
set_option maxRecDepth 100000
set_option maxHeartbeats 4000000
/-! DL18: all defs of a program; a law's end -/
namespace DL
open PySem PySem.Spec PyProof.Rows L2
def scopeB (f : Fn) (sc : Scope) : Bool :=
  (match sc.kind with | .function => true | _ => false) && !sc.isCoroutine && !sc.isGenerator && decide f.names.Nodup && decide (f.pars ≤ f.names.length) &&
    ((f.names.take f.pars).all fun x => decide (sc.names.lookup x = some .local) || decide (sc.names.lookup x = some .cell)) && sc.names.all fun y => match y.2 with | .free => false | _ => true
def defB (Pg : Prg) (f : Fn) (st : Stmt) : Bool := scopeB f (defScope st) && chkSs Pg ⟨f.names, defScope st, defScope st, true⟩ f.body (defBody st)
theorem scope_of {f : Fn} {sc : Scope} (h : scopeB f sc = true) : FnScope f.names (f.names.take f.pars) sc ∧ f.pars = (f.names.take f.pars).length := by
  simp only [scopeB, Bool.and_eq_true, Bool.not_eq_true', decide_eq_true_eq] at h
  obtain ⟨⟨⟨⟨⟨⟨h1, h2⟩, h3⟩, h4⟩, h5⟩, h6⟩, h7⟩ := h
  have hl : (f.names.take f.pars).length = f.pars := by rw [List.length_take]; omega
  refine ⟨⟨?_, h2, h3, h4, by rw [hl], fun x hx => ?_, fun y hy => ?_⟩, hl.symm⟩
  · split at h1
    · assumption
    · cases h1
  · have := List.all_eq_true.mp h6 x hx
    simpa using this
  · have := List.all_eq_true.mp h7 y hy
    intro e
    rw [e] at this
    cases this
section
variable {P : Program} {w : World} {K : PySem.W.Frag} {mg : Str → Option Value} {base : Heap} {Pg : Prg}
/-- a def stands behind the top -/
structure DefIn (K : PySem.W.Frag) (mg : Str → Option Value) (f : Fn) (st : Stmt) : Prop where
  ex : ∃ fd, Fun K f.name f.name st (He.ga K f.name) fd ∧ mg f.name = some (.ref (He.ga K f.name)) ∧ ∀ us : List Value, us.length = (f.names.take f.pars).length → bindArgs fd ⟨us, []⟩ = pure ((f.names.take f.pars).zip us)
/-- what stands behind the top beside the defs -/
structure TopIn (P : Program) (w : World) (K : PySem.W.Frag) (mg : Str → Option Value) (base : Heap) (Pg : Prg) : Prop where
  blt : ∀ x ∈ blts, mg x = none
  exs : ∀ x ∈ Pg.excs, ∃ C, mg x = some (.ref C) ∧ ExcOk P w K mg base C
  glb : ∀ x d, Pg.glb x = some d → ∃ u v, mg x = some u ∧ RelV v u ∧ ∀ z m H, Rp ⟨P, w, K, z⟩ m H d v
  err : Pg.heard = true → ErrOk Pg K mg
  tab : Pg.heard = true → (∀ x ∈ defNames P, LamX.TabB base mg (He.cT K (x, none)).1 (He.cT K (x, none)).2) ∧ (∀ f ∈ Pg.fns, f.name ∈ defNames P) ∧ ((defNames P).map fun x => (He.cT K (x, none)).2).Nodup
/-- the table of a def -/
theorem lam_ok {f : Fn} {st : Stmt} {cdv : Value} {A : Around} {outer : List PySem.Env} {s : Shared} {H : Hp} {E : XK} (T : TopIn P w K mg base Pg) (hh : Pg.heard = true) (hf : f ∈ Pg.fns) (hc : CodeAt K (He.ga K f.name) cdv) :
    LamOk (cxOf (L2.CX P w) P w K mg base f.names f.name (defScope st) (He.ga K f.name) cdv A outer s H E) := by
  obtain ⟨t1, t2, t3⟩ := T.tab hh
  have hm := t2 f hf
  obtain ⟨oc, od, fd, osl, lk, e, q, hq⟩ := hc
  obtain ⟨c, rfl⟩ := He.codeIn_ref hq
  have ec : He.codeOf K (f.name, none) = c := He.codeOf_eq lk e
  refine ⟨(He.cT K (f.name, none)).1, (He.cT K (f.name, none)).2, t1 _ hm, ?_, ?_, fun p hp e1 => ?_⟩
  · show Value.ref c = Value.ref (He.codeOf K (f.name, none))
    rw [ec]
  · exact List.mem_map.mpr ⟨f.name, hm, rfl⟩
  · obtain ⟨y, hy, rfl⟩ := List.mem_map.mp hp
    have e2 : y = f.name := by
      have hy2 : y ∈ defNames P := hy
      have e1b : (He.cT K (y, none)).2 = (He.cT K (f.name, none)).2 := e1
      obtain ⟨i, ei⟩ := List.mem_iff_getElem?.mp hy2
      obtain ⟨j, ej⟩ := List.mem_iff_getElem?.mp hm
      have e3 := nd_ix t3 (show ((defNames P).map fun x => (He.cT K (x, none)).2)[i]? = some (He.cT K (y, none)).2 by rw [List.getElem?_map, ei]; rfl) (show ((defNames P).map fun x => (He.cT K (x, none)).2)[j]? = some (He.cT K (y, none)).2 by rw [List.getElem?_map, ej]; exact congrArg some e1b.symm)
      subst e3
      rw [ei] at ej
      exact Option.some.inj ej
    rw [e2]
    rfl
theorem cok_def {n : Nat} {f : Fn} {st : Stmt} {cdv : Value} {A : Around} {outer : List PySem.Env} {s : Shared} {H : Hp} {E : XK} (T : TopIn P w K mg base Pg) (hf : f ∈ Pg.fns) (hc : CodeAt K (He.ga K f.name) cdv) (S : FnScope f.names (f.names.take f.pars) (defScope st))
    (hr : Room (n + 2) (A.deeper (envOfC f.name (defScope st) s.heap.objs.size (He.ga K f.name) cdv))) (hgd : A.guards = some [])
    (fns : ∀ l, l ≤ n → ∀ x f, (Pg.fns.find? fun f => f.name == x) = some f → ∃ ps, mg x = some (.ref (He.ga K x)) ∧ PySem.W.keepIn K (.ref (He.ga K x)) = true ∧ FnG P w K mg base (l + 2) (He.ga K x) ps (spF P w K mg Pg l x)) :
    SCok Pg n (cxOf (L2.CX P w) P w K mg base f.names f.name (defScope st) (He.ga K f.name) cdv A outer s H E) (fun cls d _ H => E cls d H) ⟨f.names, defScope st, defScope st, true⟩ where
  nN := rfl
  nd := S.nd
  sc := rfl
  loc := fun x h => by
    refine ⟨?_, .inl rfl⟩
    show (defScope st).names.lookup x = some .local ∨ (defScope st).names.lookup x = some .cell
    unfold locB at h
    split at h
    · rename_i e; exact .inl e
    · rename_i e; exact .inr e
    · cases h
  calm := rfl
  hr := hr
  gd := hgd
  tk := takes_of rfl rfl rfl rfl
  blt := T.blt
  fns := fns
  err := T.err
  lam := fun _ h => lam_ok T h hf hc
  exs := T.exs
  glb := fun x d h => T.glb x d h
  own := passes_of rfl
theorem prog_ok {Df : List (Fn × Stmt)} (hD : Pg.fns = Df.map (·.1)) (hin : ∀ p ∈ Df, DefIn K mg p.1 p.2) (hB : ∀ p ∈ Df, defB Pg p.1 p.2 = true) (T : TopIn P w K mg base Pg) :
    ∀ n, ∀ l, l ≤ n → ∀ x f, (Pg.fns.find? fun f => f.name == x) = some f → mg x = some (.ref (He.ga K x)) ∧ PySem.W.keepIn K (.ref (He.ga K x)) = true ∧ FnG P w K mg base (l + 2) (He.ga K x) (f.names.take f.pars) (spF P w K mg Pg l x) := by
  intro n
  induction n with
  | zero =>
    intro l hl x f hf
    obtain rfl : l = 0 := by omega
    have hm := List.mem_of_find?_eq_some hf
    have hx : f.name = x := by simpa using List.find?_some hf
    subst hx
    rw [hD] at hm
    obtain ⟨p, hp, rfl⟩ := List.mem_map.mp hm
    obtain ⟨fd, F, hmg, hb⟩ := (hin p hp).ex
    exact ⟨hmg, F.kp, fn_ok0⟩
  | succ n ih =>
    intro l hl x f hf
    by_cases hl2 : l ≤ n
    · exact ih l hl2 x f hf
    obtain rfl : l = n + 1 := by omega
    have hm0 := List.mem_of_find?_eq_some hf
    have hx : f.name = x := by simpa using List.find?_some hf
    subst hx
    have hm := hm0
    rw [hD] at hm
    obtain ⟨p, hp, rfl⟩ := List.mem_map.mp hm
    obtain ⟨fd, F, hmg, hb⟩ := (hin p hp).ex
    have h2 := hB p hp
    simp only [defB, Bool.and_eq_true] at h2
    obtain ⟨S, hps⟩ := scope_of h2.1
    refine ⟨hmg, F.kp, fn_ok F S hb hf rfl hps fun cdv A outer s H E hca hr hgd => ?_⟩
    exact okSs (cok_def T hm0 hca S hr hgd fun l hl x f h => ⟨_, ih l hl x f h⟩) p.1.body (defBody p.2) h2.2
end
/-- what law is asked for -/
def spLaw (K : PySem.W.Frag) : Sp := fun vs H Q _ => ∃ (a : Addr) (ns : List Int), vs = [.ref a] ∧ FzL K H a (ns.map V.int) ∧ ns.length ≤ 63 ∧ (∀ z ∈ ns, Builtin.Int.intBits z ≤ 1048576) ∧ ∀ H', Q (.bl true) H'
/-- the plain law: what is to be shown of the own evaluator -/
def Keeps (Pg : Prg) (n : Nat) : Prop := ∀ ns : List Int, ns.length ≤ 63 → (∀ z ∈ ns, Builtin.Int.intBits z ≤ 1048576) → ∃ S, callF Pg n "law" [.scr ns] [] = .ok (.bl true) S
theorem law_imp {P : Program} {w : World} {K : PySem.W.Frag} {mg : Str → Option Value} {base : Heap} {Pg : Prg} {n : Nat} {a : Addr} {ps : List Str} (h4 : FnG P w K mg base (n + 2) a ps (spF P w K mg Pg n "law")) (hk : Keeps Pg n) {cs : List (Addr × Str)} (hcs : cs = tabsOf P K) :
    FnG P w K mg base (n + 2) a ps fun vs H Q E => spLaw K vs H Q E ∧ LamX.Tabs cs H := by
  subst hcs
  refine h4.imp fun vs H Q E h => ?_
  obtain ⟨⟨a, ns, rfl, hS, hl, hb, q⟩, ht⟩ := h
  obtain ⟨S, e⟩ := hk ns hl hb
  refine ⟨[], [], [], [.scr ns], ⟨rfl, List.nodup_nil, (fun n o p h => by simp at h), (fun p h => by cases h), ht⟩, ?_, ?_⟩
  · refine RpL.one ?_
    simp only [Rp]
    exact ⟨a, rfl, hS⟩
  · rw [e]
    exact fun m' H' v _ _ r => by cases r.bl; exact q H'
end DL
set_option Elab.async false
set_option linter.all false
set_option maxRecDepth 100000
set_option maxHeartbeats 4000000
/-! DLx: the classes of own errors -/
namespace DL
open PySem PySem.Spec PyProof.Rows L2
/-- a class over ValueError, whose instances have a dict -/
def oexB (K : PySem.W.Frag) (C : Addr) : Bool := (match K.lookup C with
  | some ⟨.type "type", _, .cls cd, sl⟩ => (match cd.mro, sl.toList with
    | .ref C2 :: bm, [_, _, _, _, some (.builtin n), _] => decide (C2 = C) && decide (n = "ValueError.__new__") && !cd.hasDel && cd.hasDict && PySem.HandSPX.refsVE bm
    | _, _ => false)
  | _ => false) && decide (PySem.W.findIn K (.ref C) "__setattr__" = some (some (.builtin "object.__setattr__"))) && decide (PySem.W.subIn K (.ref C) (.type "BaseException") = some true) && decide (PySem.W.typeIn K (.ref C) = some (.type "type")) && PySem.W.keepIn K (.ref C)
theorem oexB_ok {K : PySem.W.Frag} {C : Addr} (h : oexB K C = true) : OexC K C := by
  simp only [oexB, Bool.and_eq_true, decide_eq_true_eq] at h
  obtain ⟨⟨⟨⟨h1, h2⟩, h3⟩, h4⟩, h5⟩ := h
  refine ⟨?_, h2, h3, h4, h5⟩
  split at h1
  · rename_i dd cd sl ho
    split at h1
    · rename_i C2 bm k0 k1 k2 k3 n k5 hm hs
      simp only [Bool.and_eq_true, Bool.not_eq_true', decide_eq_true_eq] at h1
      obtain ⟨⟨⟨⟨rfl, rfl⟩, hdel⟩, hdi⟩, ht⟩ := h1
      obtain ⟨nm, bs, mro, ns, qn, hd, sn, sub, ab, col, del⟩ := cd
      dsimp only at hm hdel hdi
      subst hm hdel hdi
      obtain ⟨l⟩ := sl
      dsimp only at hs
      subst hs
      exact ⟨nm, qn, ns, bs, bm, sn, sub, ab, col, dd, k0, k1, k2, k3, k5, ho, ht⟩
    · cases h1
  · cases h1
/-- the body of an own error's `__init__` -/
def initBody (p1 p2 p3 p4 p5 p6 p7 p8 p9 p10 : Pos) : List Stmt :=
  [.Expr (.Call (.Attribute (.Name "ValueError" p1) "__init__" p2) [.Name "self" p3, .Name "value" p4] [] p5) p6, .Assign [.Attribute (.Name "self" p7) "value" p8] (.Name "value" p9) p10]
/-- the call of the base's `__init__`, as it is written -/
def VeCall (p1 p2 p3 p4 p5 : Pos) : Prop := ∀ env : PySem.Env, ∃ pl : Sem Bool, eval (.Call (.Attribute (.Name "ValueError" p1) "__init__" p2) [.Name "self" p3, .Name "value" p4] [] p5) env = (do
  let ov ← eval (.Name "ValueError" p1) env
  standAt p2.atName
  let (f, first) ← holding [ov] (getMethod ov "__init__" pl)
  callWith p5 f first (backTo p5 (starEach [.Name "self" p3, .Name "value" p4] env)) (backToKw p5 (keywordEach [] env)))
section
variable {P : Program} {w : World} {K : PySem.W.Frag} {mg : Str → Option Value} {base : Heap}
theorem init_ok {x : Str} {params : Arguments} {scope : Scope} {fI : Addr} {fd : FuncData} {p1 p2 p3 p4 p5 p6 p7 p8 p9 p10 : Pos} (F : FunD K "__init__" x params (initBody p1 p2 p3 p4 p5 p6 p7 p8 p9 p10) scope [] [] fI fd) (S : FnScope ["self", "value"] ["self", "value"] scope)
    (l1 : scope.names.lookup ("self" : Str) = some NameKind.local) (l2 : scope.names.lookup ("value" : Str) = some NameKind.local) (lg : scope.names.lookup ("ValueError" : Str) = some NameKind.globalImplicit) (hm : mg ("ValueError" : Str) = none)
    (vV : PySem.W.findCls K (.type "ValueError") (.type "type") "__init__" = some (.val (.builtin "ValueError.__init__"))) (hv : VeCall p1 p2 p3 p4 p5) : FnOk P w K mg base (L2.CX P w) 1 fI fd ["self", "value"] (spI K) := by
  refine F.ok S (fun vs H Q E h => ?_) fun cdv A outer s H vs Q E hr h => ?_
  · obtain ⟨a, C, v, rfl, _⟩ := h
    rfl
  · obtain ⟨a, C, v, rfl, T, hva, ha, q⟩ := h
    obtain ⟨pl, hpl⟩ := hv (cxOf (L2.CX P w) P w K mg base ["self", "value"] x scope fI cdv A outer s H E).env
    have s1 := ps_expr (X := cxOf (L2.CX P w) P w K mg base ["self", "value"] x scope fI cdv A outer s H E) (pos := p6) (pe_veinit (hc := hpl) (p1 := p1) (p2 := p2) (pos := p5) lg hm vV (pa_cons (pe_var (i := 0) (pos := p3) rfl (.inl l1) (by decide) (by decide)) (pa_cons (pe_var (i := 1) (pos := p4) rfl (.inl l2) (by decide) (by decide)) pa_nil)))
    have s2 := ps_ost (X := cxOf (L2.CX P w) P w K mg base ["self", "value"] x scope fI cdv A outer s H E) (f := "value") (p' := p8) (pos := p10) (pe_var (i := 0) (pos := p7) rfl (.inl l1) (by decide) (by decide)) (pe_var (i := 1) (pos := p9) rfl (.inl l2) (by decide) (by decide))
    refine ⟨_, pss_cons s1 (pss_one s2), ?_⟩
    refine ⟨.ref a, rfl, v, rfl, a, C, [v], rfl, (by show (1 : Nat) ≤ 1000; decide), T, ha, ?_⟩
    exact ⟨v, rfl, .ref a, rfl, a, C, rfl, T, hva, .inl ⟨ha, fun dx h1 h2 => q dx h1 h2⟩⟩
end
end DL
set_option Elab.async false
set_option linter.all false
set_option maxRecDepth 100000
set_option maxHeartbeats 4000000
/-! DLh: the facts of the top by names; a law's end -/
namespace DL
open PySem PySem.Spec PyProof.Rows L2
theorem lookup_mem {α : Type} [BEq α] [LawfulBEq α] {β : Type} : ∀ {l : List (α × β)} {x : α} {y : β}, l.lookup x = some y → (x, y) ∈ l
  | [], _, _, h => by cases h
  | (a, b) :: l, x, y, h => by
    rw [List.lookup_cons] at h
    split at h
    · rename_i e
      cases h
      rw [beq_iff_eq.mp e]
      exact List.mem_cons_self ..
    · exact List.mem_cons_of_mem _ (lookup_mem h)
/-- a def as the head's facts name it -/
def defD (f : Fn) (st : Stmt) : He.DefD := ⟨(f.name, none), f.name, f.name, defArgs st, defBody st, defScope st, [], []⟩
def BindOk (p : Fn × Stmt) : Prop := ∀ (kV doc pm : Value) (an : Option Addr) (cdv ct : Value) (us : List Value), us.length = (p.1.names.take p.1.pars).length →
  bindArgs (PySem.W.fnOf p.1.name p.1.name (defArgs p.2) (defBody p.2) (defScope p.2) .none kV doc pm an cdv ct) ⟨us, []⟩ = pure ((p.1.names.take p.1.pars).zip us)
theorem says_fact {fa : List He.Fa} {fn : List He.DefD} {K : PySem.W.Frag} (c : He.SaysD fa fn K) {f : He.Fa} (h : f ∈ fa) : f.ok K = true := by
  obtain ⟨i, hi⟩ := List.mem_iff_getElem?.mp h
  exact c.fact i hi
theorem says_def {fa : List He.Fa} {fn : List He.DefD} {K : PySem.W.Frag} (c : He.SaysD fa fn K) {d : He.DefD} (h : d ∈ fn) : ∃ fd, FunD K d.name d.qual d.params d.body d.scope (d.dvs K) (d.kws K) (He.fAd K d.at_) fd := by
  obtain ⟨i, hi⟩ := List.mem_iff_getElem?.mp h
  exact c.def_ i hi
theorem defIn_of {fa : List He.Fa} {fn : List He.DefD} {K : PySem.W.Frag} {h : Heap} {mg : Str → Option Value} (KX : K.In h) (G : h.Ns mainGlobals mg) (c : He.SaysD fa fn K) {p : Fn × Stmt} (hd : defD p.1 p.2 ∈ fn) (hg : He.Fa.glo p.1.name ∈ fa) (hb : BindOk p) : DefIn K mg p.1 p.2 := by
  obtain ⟨fd, F⟩ := says_def c hd
  obtain ⟨oc, od, dV, kV, doc, pm, an, cdv, ct, osl, e, lk, hcd, hD, _⟩ := F.ex
  have e1 : dV = .none := by
    rcases hD with ⟨_, h⟩ | ⟨h, _⟩
    · exact h
    · exact absurd rfl h
  subst e1
  subst e
  refine ⟨_, ⟨⟨oc, od, kV, doc, pm, an, cdv, ct, osl, rfl, lk, hcd⟩, F.kp⟩, He.glo_ok KX G (says_fact c hg), fun us hl => hb _ _ _ _ _ _ us hl⟩
/-- a constant of a module -/
def glbFa : Str × D → He.Fa
  | (x, .int i) => .int x i
  | (x, .str z) => .str x z
  | (x, _) => .free x
def simpleD : D → Bool
  | .int _ => true
  | .str _ => true
  | _ => false
theorem glb_of {fa : List He.Fa} {fn : List He.DefD} {P : Program} {w : World} {K : PySem.W.Frag} {h : Heap} {mg : Str → Option Value} (KX : K.In h) (G : h.Ns mainGlobals mg) (c : He.SaysD fa fn K) {x : Str} {d : D} (hs : simpleD d = true) (hg : glbFa (x, d) ∈ fa) :
    ∃ u v, mg x = some u ∧ RelV v u ∧ ∀ z m H, Rp ⟨P, w, K, z⟩ m H d v := by
  cases d with
  | int i =>
    obtain ⟨t, e⟩ := He.int_ok KX G (says_fact c hg)
    exact ⟨_, .int i, e, ⟨t, rfl⟩, fun z m H => by simp only [Rp]⟩
  | str i =>
    obtain ⟨t, e⟩ := He.str_ok KX G (says_fact c hg)
    exact ⟨_, .str i, e, ⟨t, rfl⟩, fun z m H => by simp only [Rp]⟩
  | _ => cases hs
/-! ### own errors -/
def initOf : Stmt → Stmt
  | .ClassDef (body := body) .. => body.headD (.Pass ⟨0, 0, 0, 0⟩)
  | st => st
def heardD (st : Stmt) : He.DefD := ⟨("_law_heard", none), "_law_heard", "_law_heard", defArgs st, defBody st, defScope st, [], []⟩
def initD (st : Stmt) : He.DefD := ⟨("ErrandError", some "__init__"), "__init__", "ErrandError.__init__", defArgs st, defBody st, defScope st, [], []⟩
def isVe : Option PySem.W.CFound → Bool
  | some (.val (.builtin n)) => decide (n = "ValueError.__init__")
  | _ => false
def errsB (xs : List Str) (K : PySem.W.Frag) : Bool := (xs.all fun x => oexB K (He.ga K x) && errB K (He.ga K x) && decide (PySem.W.findIn K (.ref (He.ga K x)) "__init__" = some (some (.ref (He.fAd K ("ErrandError", some "__init__"))))) &&
    decide (PySem.W.exmOne K (.ref (He.ga K x)) (.ref (He.ga K "ErrandError")) = some true) && xs.all fun y => decide (PySem.W.kitOne K (.ref (He.ga K x)) (.ref (He.ga K y)) = some (decide (x = y)))) &&
  decide (PySem.W.typeIn K (.ref (He.fAd K ("ErrandError", some "__init__"))) = some (.type "function")) && isVe (PySem.W.findCls K (.type "ValueError") (.type "type") "__init__")
def tabsNB (P : Program) (K : PySem.W.Frag) : Bool := decide ((defNames P).map fun x => (He.cT K (x, none)).2).Nodup
/-- what is known of the text of `_law_heard` and of the errors' `__init__` -/
structure TextOk (sh si : Stmt) : Prop where
  body : ∃ (k1 k2 k3 j1 j2 : Nat) (p1 p2 p3 p4 p5 p6 p7 p8 p9 p10 p11 p12 p13 p14 p15 p16 p17 p18 p19 p20 p21 : Pos), defBody sh = heardBody k1 k2 k3 j1 j2 p1 p2 p3 p4 p5 p6 p7 p8 p9 p10 p11 p12 p13 p14 p15 p16 p17 p18 p19 p20 p21
  bind : ∀ (kV doc pm : Value) (an : Option Addr) (cdv ct u : Value), bindArgs (PySem.W.fnOf "_law_heard" "_law_heard" (defArgs sh) (defBody sh) (defScope sh) .none kV doc pm an cdv ct) ⟨[u], []⟩ = pure [(("call" : Str), u)]
  sc : scopeB ⟨"_law_heard", ["call", "caught", "back", "error"], 1, []⟩ (defScope sh) = true
  locs : (["call", "caught", "back", "error"] : List Str).all (fun x => decide ((defScope sh).names.lookup x = some NameKind.local)) = true
  glob : (defScope sh).names.lookup ("ErrandError" : Str) = some NameKind.globalImplicit
  ibody : ∃ p1 p2 p3 p4 p5 p6 p7 p8 p9 p10 : Pos, defBody si = initBody p1 p2 p3 p4 p5 p6 p7 p8 p9 p10 ∧ VeCall p1 p2 p3 p4 p5
  ibind : ∀ (kV doc pm : Value) (an : Option Addr) (cdv ct : Value) (us : List Value), us.length = 2 → bindArgs (PySem.W.fnOf "__init__" "ErrandError.__init__" (defArgs si) (defBody si) (defScope si) .none kV doc pm an cdv ct) ⟨us, []⟩ = pure ((["self", "value"] : List Str).zip us)
  isc : scopeB ⟨"__init__", ["self", "value"], 2, []⟩ (defScope si) = true
  ilocs : (["self", "value"] : List Str).all (fun x => decide ((defScope si).names.lookup x = some NameKind.local)) = true
  iglob : (defScope si).names.lookup ("ValueError" : Str) = some NameKind.globalImplicit
section
variable {fa : List He.Fa} {fn : List He.DefD} {K : PySem.W.Frag} {h : Heap} {mg : Str → Option Value} {P : Program} {w : World} {Pg : Prg} {sh si : Stmt}
theorem dvNone {dV : Value} (hD : DflV K dV []) : dV = .none := by
  rcases hD with ⟨_, h⟩ | ⟨h, _⟩
  · exact h
  · exact absurd rfl h
theorem hrd_of (KX : K.In h) (G : h.Ns mainGlobals mg) (c : He.SaysD fa fn K) (T : TextOk sh si) (h1 : heardD sh ∈ fn) (h2 : He.Fa.glo "_law_heard" ∈ fa) (h3 : He.Fa.glo "ErrandError" ∈ fa) : HrdF K mg (He.ga K "ErrandError") := by
  refine ⟨He.glo_ok KX G (says_fact c h3), ?_⟩
  obtain ⟨fd, F⟩ := says_def c h1
  obtain ⟨oc, od, dV, kV, doc, pm, an, cdv, ct, osl, e, lk, hcd, hD, _⟩ := F.ex
  have e1 := dvNone hD
  subst e1
  subst e
  obtain ⟨k1, k2, k3, j1, j2, p1, p2, p3, p4, p5, p6, p7, p8, p9, p10, p11, p12, p13, p14, p15, p16, p17, p18, p19, p20, p21, hb⟩ := T.body
  have hbi := T.bind kV doc pm an cdv ct
  rw [hb] at hbi
  obtain ⟨S, _⟩ := scope_of T.sc
  have L := T.locs
  simp only [List.all_cons, List.all_nil, Bool.and_true, Bool.and_eq_true, decide_eq_true_eq] at L
  refine ⟨He.ga K "_law_heard", defArgs sh, defScope sh, .none, kV, doc, pm, cdv, ct, oc, an, od, osl, k1, k2, k3, j1, j2, p1, p2, p3, p4, p5, p6, p7, p8, p9, p10, p11, p12, p13, p14, p15, p16, p17, p18, p19, p20, p21, He.glo_ok KX G (says_fact c h2), F.kp, ?_, hcd, hbi, S, L.1, L.2.1, L.2.2.1, L.2.2.2, T.glob⟩
  rw [← hb]
  exact lk
theorem excs_of (KX : K.In h) (G : h.Ns mainGlobals mg) (c : He.SaysD fa fn K) (T : TextOk sh si) (h1 : initD si ∈ fn) (h2 : He.Fa.free "ValueError" ∈ fa) (h3 : ∀ x ∈ Pg.excs, He.Fa.glo x ∈ fa) (hB : errsB Pg.excs K = true) {base : Heap} :
    ∀ x ∈ Pg.excs, ∃ C, mg x = some (.ref C) ∧ ExcOk P w K mg base C := by
  intro x hx
  obtain ⟨fd, F⟩ := says_def c h1
  simp only [errsB, Bool.and_eq_true, List.all_eq_true, decide_eq_true_eq] at hB
  obtain ⟨⟨hB1, hB2⟩, hB3⟩ := hB
  obtain ⟨⟨⟨⟨b1, b2⟩, b3⟩, b4⟩, b5⟩ := hB1 x hx
  have hVe : PySem.W.findCls K (.type "ValueError") (.type "type") "__init__" = some (.val (.builtin "ValueError.__init__")) := by
    unfold isVe at hB3
    split at hB3
    · rename_i e
      rw [e, of_decide_eq_true hB3]
    · cases hB3
  obtain ⟨p1, p2, p3, p4, p5, p6, p7, p8, p9, p10, hb, hv⟩ := T.ibody
  obtain ⟨S, _⟩ := scope_of T.isc
  have L := T.ilocs
  simp only [List.all_cons, List.all_nil, Bool.and_true, Bool.and_eq_true, decide_eq_true_eq] at L
  have E := errB_ok b2
  refine ⟨He.ga K x, He.glo_ok KX G (says_fact c (h3 x hx)), oexB_ok b1, E.hno, He.fAd K ("ErrandError", some "__init__"), fd, ["self", "value"], b3, hB2, ?_, ?_⟩
  · have F2 : FunD K "__init__" "ErrandError.__init__" (defArgs si) (initBody p1 p2 p3 p4 p5 p6 p7 p8 p9 p10) (defScope si) [] [] (He.fAd K ("ErrandError", some "__init__")) fd := by
      rw [← hb]
      exact F
    exact init_ok F2 S L.1 L.2 T.iglob (He.free_ok KX G (says_fact c h2)) hVe hv
  · obtain ⟨oc, od, dV, kV, doc, pm, an, cdv, ct, osl, e, lk, hcd, hD, _⟩ := F.ex
    have e1 := dvNone hD
    subst e1
    subst e
    exact Binds.all fun us hl => T.ibind _ _ _ _ _ _ us hl
theorem kinds_of (KX : K.In h) (G : h.Ns mainGlobals mg) (c : He.SaysD fa fn K) (h3 : ∀ x ∈ Pg.excs, He.Fa.glo x ∈ fa) (hB : errsB Pg.excs K = true) : KindsOk mg K Pg.excs ∧ CatchOk mg K (He.ga K "ErrandError") Pg.excs := by
  simp only [errsB, Bool.and_eq_true, List.all_eq_true, decide_eq_true_eq] at hB
  obtain ⟨⟨hB1, hB2⟩, hB3⟩ := hB
  refine ⟨⟨fun x hx => ?_, fun x hx y hy => ?_⟩, fun x hx => ?_⟩
  · obtain ⟨⟨⟨⟨b1, b2⟩, b3⟩, b4⟩, b5⟩ := hB1 x hx
    exact ⟨He.glo_ok KX G (says_fact c (h3 x hx)), errB_ok b2⟩
  · obtain ⟨⟨⟨⟨b1, b2⟩, b3⟩, b4⟩, b5⟩ := hB1 x hx
    exact b5 y hy
  · obtain ⟨⟨⟨⟨b1, b2⟩, b3⟩, b4⟩, b5⟩ := hB1 x hx
    exact ⟨He.glo_ok KX G (says_fact c (h3 x hx)), b4⟩
end
/-- the facts that are asked for -/
def faOf (Df : List (Fn × Stmt)) (cs : List (Str × D)) : List He.Fa := Df.map (fun p => .glo p.1.name) ++ blts.map .free ++ cs.map glbFa
def fnsOf (Df : List (Fn × Stmt)) : List He.DefD := Df.map fun p => defD p.1 p.2
def faErr (xs : List Str) : List He.Fa := .glo "_law_heard" :: .glo "ErrandError" :: .free "ValueError" :: xs.map .glo
def exErr (P : Program) (xs : List Str) (K : PySem.W.Frag) : Bool := errsB xs K && tabsNB P K
/-- where errors are caught -/
theorem facts_err {K : PySem.W.Frag} {h : Heap} {mg : Str → Option Value} {P : Program} {w : World} {Pg : Prg} {Df : List (Fn × Stmt)} {cs : List (Str × D)} {fa : List He.Fa} {fn : List He.DefD} {sh si : Stmt} (KX : K.In h) (G : h.Ns mainGlobals mg) (c : He.SaysD fa fn K) (hfa : fa = faOf Df cs ++ faErr Pg.excs) (hfn : fn = fnsOf Df ++ [heardD sh, initD si])
    (hx : exErr P Pg.excs K = true) (T : TextOk sh si) (hD : Pg.fns = Df.map (·.1)) (hn : (Df.all fun p => decide (p.1.name ∈ defNames P)) = true) (hb : ∀ p ∈ Df, BindOk p) (hc : ∀ x d, Pg.glb x = some d → (x, d) ∈ cs) (hs : ∀ q ∈ cs, simpleD q.2 = true) :
    (∀ p ∈ Df, DefIn K mg p.1 p.2) ∧ ∀ base : Heap, K.In base → base.Ns mainGlobals mg → (∀ x ∈ defNames P, LamX.TabB base mg (He.cT K (x, none)).1 (He.cT K (x, none)).2) → TopIn P w K mg base Pg := by
  simp only [exErr, Bool.and_eq_true] at hx
  have m1 : ∀ f ∈ faOf Df cs, f ∈ fa := fun f h => by rw [hfa]; exact List.mem_append_left _ h
  have m2 : ∀ f ∈ faErr Pg.excs, f ∈ fa := fun f h => by rw [hfa]; exact List.mem_append_right _ h
  have m3 : ∀ x ∈ Pg.excs, He.Fa.glo x ∈ fa := fun x h => m2 _ (by simp only [faErr, List.mem_cons, List.mem_map]; exact .inr (.inr (.inr ⟨x, h, rfl⟩)))
  obtain ⟨k1, k2⟩ := kinds_of (Pg := Pg) KX G c m3 hx.1
  refine ⟨fun p hp => ?_, fun base b1 b2 tb => ⟨fun x hx => ?_, excs_of KX G c T (by rw [hfn]; simp) (m2 _ (by simp [faErr])) m3 hx.1, fun x d h => ?_, fun _ => ⟨⟨_, hrd_of KX G c T (by rw [hfn]; simp) (m2 _ (by simp [faErr])) (m2 _ (by simp [faErr])), k2⟩, k1⟩, fun _ => ⟨tb, fun f hf => ?_, of_decide_eq_true hx.2⟩⟩⟩
  · exact defIn_of KX G c (by rw [hfn]; exact List.mem_append_left _ (List.mem_map.mpr ⟨p, hp, rfl⟩)) (m1 _ (List.mem_append_left _ (List.mem_append_left _ (List.mem_map.mpr ⟨p, hp, rfl⟩)))) (hb p hp)
  · exact He.free_ok KX G (says_fact c (m1 _ (List.mem_append_left _ (List.mem_append_right _ (List.mem_map.mpr ⟨x, hx, rfl⟩)))))
  · have hm := hc x d h
    exact glb_of KX G c (hs _ hm) (m1 _ (List.mem_append_right _ (List.mem_map.mpr ⟨_, hm, rfl⟩)))
  · rw [hD] at hf
    obtain ⟨p, hp, rfl⟩ := List.mem_map.mp hf
    exact of_decide_eq_true (List.all_eq_true.mp hn p hp)
/-- where none is -/
theorem facts_of {fa : List He.Fa} {K : PySem.W.Frag} {h : Heap} {mg : Str → Option Value} {P : Program} {w : World} {Pg : Prg} {Df : List (Fn × Stmt)} {cs : List (Str × D)} (KX : K.In h) (G : h.Ns mainGlobals mg) (hfa : ∀ f ∈ faOf Df cs, f ∈ fa) (c : He.SaysD fa (fnsOf Df) K)
    (hb : ∀ p ∈ Df, BindOk p) (hc : ∀ x d, Pg.glb x = some d → (x, d) ∈ cs) (hs : ∀ q ∈ cs, simpleD q.2 = true) (hh : Pg.heard = false) (hx : Pg.excs = []) :
    (∀ p ∈ Df, DefIn K mg p.1 p.2) ∧ ∀ base : Heap, K.In base → base.Ns mainGlobals mg → (∀ x ∈ defNames P, LamX.TabB base mg (He.cT K (x, none)).1 (He.cT K (x, none)).2) → TopIn P w K mg base Pg := by
  refine ⟨fun p hp => ?_, fun base b1 b2 _ => ⟨fun x hx => ?_, fun x h => (by rw [hx] at h; cases h), fun x d h => ?_, fun h => (by rw [hh] at h; cases h), fun h => (by rw [hh] at h; cases h)⟩⟩
  · exact defIn_of KX G c (List.mem_map.mpr ⟨p, hp, rfl⟩) (hfa _ (List.mem_append_left _ (List.mem_append_left _ (List.mem_map.mpr ⟨p, hp, rfl⟩)))) (hb p hp)
  · exact He.free_ok KX G (says_fact c (hfa _ (List.mem_append_left _ (List.mem_append_right _ (List.mem_map.mpr ⟨x, hx, rfl⟩)))))
  · have hm := hc x d h
    exact glb_of KX G c (hs _ hm) (hfa _ (List.mem_append_right _ (List.mem_map.mpr ⟨_, hm, rfl⟩)))
/-- a law's end, over the head's facts -/
theorem walkH {l : PySem.W.OpenLaw} {q : Program} {loose : List Str} {XP : (Str → Option Value) → Heap → Prop} {d : DefRec} {Pg : Prg} {Df : List (Fn × Stmt)} {f : Fn} {n m : Nat} {fa : List He.Fa} {fn : List He.DefD} {ex : PySem.W.Frag → Bool} (hn : l.most = some 63) (hdf : d.params.defaults = []) (hr : Room (n + 2) callerA) (hdn : d.name = "law")
    (hD : Pg.fns = Df.map (·.1)) (hB : ∀ p ∈ Df, defB Pg p.1 p.2 = true) (hf : (Pg.fns.find? fun f => f.name == ("law" : Str)) = some f) (hk : Keeps Pg n)
    (F : ∀ (w : World) (K : PySem.W.Frag) (mg : Str → Option Value) (h : Heap), K.In h → h.Ns mainGlobals mg → He.SaysD fa fn K → ex K = true → (∀ p ∈ Df, DefIn K mg p.1 p.2) ∧ ∀ base : Heap, K.In base → base.Ns mainGlobals mg → (∀ x ∈ defNames l.prog, LamX.TabB base mg (He.cT K (x, none)).1 (He.cT K (x, none)).2) → TopIn l.prog w K mg base Pg) :
    PySem.W.WalkO q loose XP (He.hookX m fa fn [] ((defNames l.prog).map fun x => (x, none)) ex).says l.row.toRowW d [] (fun f vs => PySem.call f vs) := by
  refine Att.attach_callB hn hdf fun w s0 s1 mg mb fa o pm cd doc a vs ns G Y ho hd hcd hmg hobj hints hlen hbits hg => ?_
  obtain ⟨K, KX, c⟩ := Y
  obtain ⟨h1, h2⟩ := F w K mg _ KX G.T.g c.t.d c.more
  rw [hdn] at hmg
  have tf : ∀ (φ : Addr × Addr → Prop), (∀ p ∈ (defNames l.prog).map (fun x => ((x, none) : Str × Option Str)), φ (He.cT K p)) → ∀ p ∈ (defNames l.prog).map (fun x => He.cT K (x, none)), φ p := fun φ h p hp => by
    obtain ⟨x, hx, rfl⟩ := List.mem_map.mp hp
    exact h _ (List.mem_map.mpr ⟨x, hx, rfl⟩)
  obtain ⟨ps, hF⟩ : ∃ ps : List Str, ∀ base : Heap, K.In base → base.Ns mainGlobals mg → (∀ p ∈ (defNames l.prog).map (fun x => He.cT K (x, none)), LamX.TabB base mg p.1 p.2) → FnG l.prog w K mg base (n + 2) fa ps (fun vs H Q E => spLaw K vs H Q E ∧ LamX.Tabs (tabsOf l.prog K) H) := by
    refine ⟨f.names.take f.pars, fun base b1 b2 b3 => ?_⟩
    obtain ⟨g1, g2, g4⟩ := prog_ok hD h1 hB (h2 base b1 b2 fun x hx => b3 _ (List.mem_map.mpr ⟨x, hx, rfl⟩)) n n (Nat.le_refl n) "law" f hf
    rw [g1] at hmg
    cases hmg
    exact law_imp g4 hk rfl
  refine headT KX G.T.g G.T.b G.T.builtins G.T.nolimit hg (tf _ c.empty) (tf _ c.out) (tf _ c.hd) G.T.bmain hobj hints (Nat.le_trans hlen (by decide)) hr hF fun H hT hS => ⟨⟨a, ns, rfl, hS, hlen, hbits, fun _ => rfl⟩, fun p hp => ?_⟩
  obtain ⟨x, hx, rfl⟩ := List.mem_map.mp hp
  exact LamX.TabS.nil (hT _ (List.mem_map.mpr ⟨x, hx, rfl⟩))
end DL
set_option Elab.async false
set_option linter.all false
set_option maxRecDepth 100000
set_option maxHeartbeats 4000000
/-! PL0: the plain laws' own tools -/
namespace DL
open PySem
/-- a def is found by its name -/
def Has (P : Prg) (x : Str) (f : Fn) : Prop := P.fns.find? (fun g => g.name == x) = some f
def fin : Out → Res D
  | .next _ S1 => .ok .non S1
  | .ret d S1 => .ok d S1
  | .exc x v _ S1 => .exc x v S1
  | _ => .bad
@[simp] theorem fin_next (ρ : Env) (S : Sto) : fin (.next ρ S) = .ok .non S := (rfl)
@[simp] theorem fin_ret (d : D) (S : Sto) : fin (.ret d S) = .ok d S := (rfl)
@[simp] theorem fin_exc (x : Str) (v : D) (ρ : Env) (S : Sto) : fin (.exc x v ρ S) = .exc x v S := (rfl)
theorem call_fn {P : Prg} {f : Fn} {x : Str} (h : Has P x f) (n : Nat) {ds : List D} (hl : ds.length = f.pars) (S : Sto) :
    callF P (n + 1) x ds S = fin (evSs (cfgAt P n) f.body (ds.map some ++ List.replicate (f.names.length - ds.length) none) S) := by
  unfold Has at h
  rw [callF_succ, h]
  simp only [runFn, hl, if_true]
  cases evSs (cfgAt P n) f.body (List.map some ds ++ List.replicate (f.names.length - f.pars) none) S <;> rfl
theorem leave_len {d : D} {S S' : Sto} (hl : S'.length = S.length) (hd : d.pure = true) : leave S.length (.ok d S') = .ok d S' := by
  have h1 := D.low_of_pure S.length d hd
  have h2 : S'.take S.length = S' := by rw [← hl, List.take_length]
  simp only [leave, h2, h1, if_true]
  split <;> rfl
theorem leave_same {d : D} {S : Sto} (hd : d.pure = true) : leave S.length (.ok d S) = .ok d S := leave_len rfl hd
@[simp] theorem leave_bl (b : Bool) (S : Sto) : leave S.length (.ok (.bl b) S) = .ok (.bl b) S := leave_same rfl
@[simp] theorem leave_int (b : Int) (S : Sto) : leave S.length (.ok (.int b) S) = .ok (.int b) S := leave_same rfl
@[simp] theorem leave_non (S : Sto) : leave S.length (.ok .non S) = .ok .non S := leave_same rfl
@[simp] theorem truth_non (S : Sto) : truth S .non = some false := rfl
@[simp] theorem truth_bl (S : Sto) (b : Bool) : truth S (.bl b) = some b := rfl
@[simp] theorem truth_int (S : Sto) (i : Int) : truth S (.int i) = some (i != 0) := rfl
@[simp] theorem truth_tup (S : Sto) (xs : List D) : truth S (.tup xs) = some (!xs.isEmpty) := rfl
@[simp] theorem truth_lst (S : Sto) (xs : List D) : truth S (.lst xs) = some (!xs.isEmpty) := rfl
@[simp] theorem lenOf_tup (S : Sto) (xs : List D) : lenOf S (.tup xs) = some xs.length := rfl
@[simp] theorem lenOf_lst (S : Sto) (xs : List D) : lenOf S (.lst xs) = some xs.length := rfl
@[simp] theorem lenOf_scr (S : Sto) (xs : List Int) : lenOf S (.scr xs) = some xs.length := by simp [lenOf, seqOf]
@[simp] theorem seqOf_tup (S : Sto) (xs : List D) : seqOf S (.tup xs) = some xs := rfl
@[simp] theorem seqOf_lst (S : Sto) (xs : List D) : seqOf S (.lst xs) = some xs := rfl
@[simp] theorem listOf_lst (S : Sto) (xs : List D) : listOf S (.lst xs) = some xs := rfl
@[simp] theorem listOf_tup (S : Sto) (xs : List D) : listOf S (.tup xs) = none := rfl
@[simp] theorem srcOf_tup (S : Sto) (xs : List D) : srcOf S (.tup xs) = some (.fixed xs) := rfl
@[simp] theorem srcOf_lst (S : Sto) (xs : List D) : srcOf S (.lst xs) = some (.fixed xs) := rfl
@[simp] theorem cop_le (S : Sto) (i j : Int) : cop .le (.int i) (.int j) S = some (decide (i ≤ j)) := rfl
@[simp] theorem cop_lt (S : Sto) (i j : Int) : cop .lt (.int i) (.int j) S = some (decide (i < j)) := rfl
@[simp] theorem cop_gt (S : Sto) (i j : Int) : cop .gt (.int i) (.int j) S = some (decide (j < i)) := rfl
@[simp] theorem cop_ge (S : Sto) (i j : Int) : cop .ge (.int i) (.int j) S = some (decide (j ≤ i)) := rfl
@[simp] theorem see_int (S : Sto) (i : Int) : see S (.int i) = some (.int i) := rfl
@[simp] theorem see_bl (S : Sto) (i : Bool) : see S (.bl i) = some (.bl i) := rfl
@[simp] theorem see_non (S : Sto) : see S .non = some .non := rfl
@[simp] theorem see_str (S : Sto) (i : Str) : see S (.str i) = some (.str i) := rfl
@[simp] theorem see_tup (S : Sto) (xs : List D) : see S (.tup xs) = if pureL xs then some (.tup xs) else none := rfl
@[simp] theorem see_lst (S : Sto) (xs : List D) : see S (.lst xs) = if pureL xs then some (.lst xs) else none := rfl
theorem see_pure (S : Sto) {d : D} (h : d.pure = true) : see S d = some d := by
  cases d <;> first | (simp [see, h]; done) | (simp only [D.pure] at h; simp [see, D.pure, h]; done) | (simp [D.pure] at h; done)
@[simp] theorem cop_isNon (S : Sto) (a : D) : cop .isNon a .non S = some (isNonD a) := rfl
@[simp] theorem cop_notNon (S : Sto) (a : D) : cop .notNon a .non S = some (!isNonD a) := rfl
theorem okP_int (i : Int) : okP (.int i) = true := by simp [okP, D.toP, PyData.canLay0, PyData.depth]
@[simp] theorem cop_eqI (S : Sto) (i j : Int) : cop .eq (.int i) (.int j) S = some (decide (i = j)) := by
  simp [cop, okP_int, eqD, D.toP, PyData.eqv]
  rfl
@[simp] theorem cop_neI (S : Sto) (i j : Int) : cop .ne (.int i) (.int j) S = some (!decide (i = j)) := by
  simp [cop, okP_int, eqD, D.toP, PyData.eqv]
  rfl
/-! ### what each form comes to, one step; comprehensions and loops stay as they are written -/
def lcRun (c : Cfg) (elt : E) (tg : Tg) (ifs : List E) (ρ : Env) (src : Src) (S : Sto) : Res (List D) := comp tg (evC c ifs) (evE c elt) ρ src S
def forRun (c : Cfg) (t : Tg) (b : List Stm) (src : Src) (ρ : Env) (S : Sto) : Out := loop t (evSs c b) src ρ S
def whRun (c : Cfg) (q : E) (b : List Stm) (ρ : Env) (S : Sto) : Out := loopW (evT c q) (evSs c b) c.fuel ρ S
section
variable (c : Cfg) (ρ : Env) (S : Sto)
@[simp] theorem e_var (i : Nat) : evE c (.var i) ρ S = (match ρ[i]? with | some (some d) => .ok d S | _ => .bad) := by simp only [evE] <;> rfl
@[simp] theorem e_cst (d : D) : evE c (.cst d) ρ S = .ok d S := by simp only [evE]
@[simp] theorem e_glb (x : Str) : evE c (.glb x) ρ S = (match c.glb x with | some d => .ok d S | none => .bad) := by simp only [evE] <;> rfl
@[simp] theorem e_nil : evE c .nil ρ S = .ok .non S := by simp only [evE]
@[simp] theorem e_tup (es : List E) : evE c (.tup es) ρ S = (evL c es ρ S).bind fun xs S1 => if xs.length ≤ sizeLine then .ok (.tup xs) S1 else .bad := by simp only [evE]
@[simp] theorem e_lst (es : List E) : evE c (.lst es) ρ S = (evL c es ρ S).bind fun xs S1 => if xs.length ≤ sizeLine then .ok (.lst xs) S1 else .bad := by simp only [evE]
def thawD (d : D) (S : Sto) : Res D := match d with
  | .lst xs => .ok (.ref S.length) (S ++ [.lst xs])
  | _ => .bad
@[simp] theorem thawD_lst (xs : List D) : thawD (.lst xs) S = .ok (.ref S.length) (S ++ [.lst xs]) := rfl
@[simp] theorem e_thaw (e : E) : evE c (.thaw e) ρ S = (evE c e ρ S).bind thawD := by simp only [evE] <;> rfl
@[simp] theorem e_bin (o : BOp) (a b : E) : evE c (.bin o a b) ρ S = (evE c a ρ S).bind fun x S1 => (evE c b ρ S1).bind fun y S2 => bop o x y S2 := by simp only [evE]
def negD (d : D) (S : Sto) : Res D := match d with
  | .int i => .ok (.int (-i)) S
  | _ => .bad
@[simp] theorem negD_int (i : Int) : negD (.int i) S = .ok (.int (-i)) S := rfl
@[simp] theorem e_neg (a : E) : evE c (.neg a) ρ S = (evE c a ρ S).bind negD := by simp only [evE] <;> rfl
def notR (x : D) (S : Sto) : Res D := match truth S x with
  | some b => .ok (.bl (!b)) S
  | none => .bad
@[simp] theorem notR_bl (b : Bool) : notR (.bl b) S = .ok (.bl (!b)) S := rfl
@[simp] theorem e_not (a : E) : evE c (.not a) ρ S = (evE c a ρ S).bind notR := by simp only [evE] <;> rfl
def optB (o : Option Bool) (S : Sto) : Res D := match o with
  | some k => .ok (.bl k) S
  | none => .bad
@[simp] theorem optB_some (b : Bool) : optB (some b) S = .ok (.bl b) S := rfl
@[simp] theorem optB_none : optB none S = .bad := rfl
@[simp] theorem e_cmp (o : COp) (a b : E) : evE c (.cmp o a b) ρ S = (evE c a ρ S).bind fun x S1 => (evE c b ρ S1).bind fun y S2 => optB (cop o x y S2) S2 := by simp only [evE] <;> rfl
@[simp] theorem e_chain (o1 o2 : COp) (a b d : E) : evE c (.chain o1 o2 a b d) ρ S = (evE c a ρ S).bind fun x S1 => (evE c b ρ S1).bind fun y S2 => match cop o1 x y S2 with
    | some true => (evE c d ρ S2).bind fun z S3 => optB (cop o2 y z S3) S3
    | some false => .ok (.bl false) S2
    | none => .bad := by simp only [evE] <;> rfl
@[simp] theorem e_and (a b : E) : evE c (.and a b) ρ S = (evE c a ρ S).bind fun x S1 => match truth S1 x with
    | some true => evE c b ρ S1
    | some false => .ok x S1
    | none => .bad := by simp only [evE] <;> rfl
@[simp] theorem e_or (a b : E) : evE c (.or a b) ρ S = (evE c a ρ S).bind fun x S1 => match truth S1 x with
    | some true => .ok x S1
    | some false => evE c b ρ S1
    | none => .bad := by simp only [evE] <;> rfl
@[simp] theorem e_ite (q a b : E) : evE c (.ite q a b) ρ S = (evE c q ρ S).bind fun x S1 => match truth S1 x with
    | some true => evE c a ρ S1
    | some false => evE c b ρ S1
    | none => .bad := by simp only [evE] <;> rfl
@[simp] theorem e_call (x : Str) (es : List E) : evE c (.call x es) ρ S = (evL c es ρ S).bind fun xs S1 => c.call x xs S1 := by simp only [evE]
@[simp] theorem e_callM (x : Str) (es : List E) : evE c (.callM x es) ρ S = (evL c es ρ S).bind fun xs S1 => c.callM x xs S1 := by simp only [evE]
@[simp] theorem e_prim (p : P1) (a : E) : evE c (.prim p a) ρ S = (evE c a ρ S).bind fun x S1 => p1 p x S1 := by simp only [evE]
def isiR (ty : String) (x : D) (S : Sto) : Res D := match tyOf S x with
  | some t => .ok (.bl (isiB t ty)) S
  | none => .bad
@[simp] theorem e_isi (a : E) (ty : String) : evE c (.isi a ty) ρ S = (evE c a ρ S).bind (isiR ty) := by simp only [evE] <;> rfl
def maxR (x y : D) (S : Sto) : Res D := match x, y with
  | .int i, .int j => .ok (.int (if j > i then j else i)) S
  | _, _ => .bad
def minR (x y : D) (S : Sto) : Res D := match x, y with
  | .int i, .int j => .ok (.int (if j < i then j else i)) S
  | _, _ => .bad
@[simp] theorem maxR_int (i j : Int) : maxR (.int i) (.int j) S = .ok (.int (if j > i then j else i)) S := rfl
@[simp] theorem minR_int (i j : Int) : minR (.int i) (.int j) S = .ok (.int (if j < i then j else i)) S := rfl
@[simp] theorem e_max2 (a b : E) : evE c (.max2 a b) ρ S = (evE c a ρ S).bind fun x S1 => (evE c b ρ S1).bind fun y S2 => maxR x y S2 := by simp only [evE] <;> rfl
@[simp] theorem e_min2 (a b : E) : evE c (.min2 a b) ρ S = (evE c a ρ S).bind fun x S1 => (evE c b ρ S1).bind fun y S2 => minR x y S2 := by simp only [evE] <;> rfl
@[simp] theorem e_idx (a i : E) : evE c (.idx a i) ρ S = (evE c a ρ S).bind fun x S1 => (evE c i ρ S1).bind fun y S2 => indexD x y S2 := by simp only [evE]
@[simp] theorem e_sl (a lo hi : E) : evE c (.sl a lo hi) ρ S = (evE c a ρ S).bind fun x S1 => (evE c lo ρ S1).bind fun l S2 => match boundOf lo l with
    | some l => (evE c hi ρ S2).bind fun h S3 => match boundOf hi h with
      | some h => sliceD x l h S3
      | none => .bad
    | none => .bad := by simp only [evE] <;> rfl
@[simp] theorem e_rev (a : E) : evE c (.rev a) ρ S = (evE c a ρ S).bind fun x S1 => revD x S1 := by simp only [evE]
@[simp] theorem e_rgs (t : Bool) (it : E) : evE c (.rgs t it) ρ S = (evI c it ρ S).bind fun src S1 => rgsD t src S1 := by simp only [evE]
def upperR (x : D) (S : Sto) : Res D := match x with
  | .str z => if z.length ≤ 100000 then .ok (.str (Txt.upper z)) S else .bad
  | _ => .bad
@[simp] theorem e_upper (a : E) : evE c (.upper a) ρ S = (evE c a ρ S).bind upperR := by simp only [evE] <;> rfl
@[simp] theorem e_lc (elt : E) (tg : Tg) (own : List Nat) (it : E) (ifs : List E) : evE c (.lc elt tg own it ifs) ρ S = (evI c it ρ S).bind fun src S1 => (lcRun c elt tg ifs (wipeE ρ own) src S1).bind fun xs S2 => .ok (.lst xs) S2 := by simp only [evE] <;> rfl
@[simp] theorem l_nil : evL c [] ρ S = .ok [] S := by simp only [evL]
def notStarE : E → Bool
  | .star _ => false
  | _ => true
def starR (c : Cfg) (x : D) (ρ : Env) (es : List E) (S1 : Sto) : Res (List D) := match seqOf S1 x with
    | some xs => (evL c es ρ S1).bind fun ys S2 => .ok (xs ++ ys) S2
    | none => .bad
@[simp] theorem l_star (e : E) (es : List E) : evL c (.star e :: es) ρ S = (evE c e ρ S).bind fun x S1 => starR c x ρ es S1 := by simp only [evL] <;> rfl
theorem l_cons {e : E} (h : notStarE e = true) (es : List E) : evL c (e :: es) ρ S = (evE c e ρ S).bind fun x S1 => (evL c es ρ S1).bind fun ys S2 => .ok (x :: ys) S2 := by
  cases e <;> first | (cases h; done) | simp only [evL]
@[simp] theorem l_var (i : Nat) (es : List E) : evL c (.var i :: es) ρ S = (evE c (.var i) ρ S).bind fun x S1 => (evL c es ρ S1).bind fun ys S2 => .ok (x :: ys) S2 := l_cons c ρ S rfl es
@[simp] theorem l_cst (d : D) (es : List E) : evL c (.cst d :: es) ρ S = (evL c es ρ S).bind fun ys S2 => .ok (d :: ys) S2 := by rw [l_cons c ρ S rfl es]; simp
@[simp] theorem l_glb (d : Str) (es : List E) : evL c (.glb d :: es) ρ S = (evE c (.glb d) ρ S).bind fun x S1 => (evL c es ρ S1).bind fun ys S2 => .ok (x :: ys) S2 := l_cons c ρ S rfl es
@[simp] theorem l_tup (d : List E) (es : List E) : evL c (.tup d :: es) ρ S = (evE c (.tup d) ρ S).bind fun x S1 => (evL c es ρ S1).bind fun ys S2 => .ok (x :: ys) S2 := l_cons c ρ S rfl es
@[simp] theorem l_lst (d : List E) (es : List E) : evL c (.lst d :: es) ρ S = (evE c (.lst d) ρ S).bind fun x S1 => (evL c es ρ S1).bind fun ys S2 => .ok (x :: ys) S2 := l_cons c ρ S rfl es
@[simp] theorem l_thaw (d : E) (es : List E) : evL c (.thaw d :: es) ρ S = (evE c (.thaw d) ρ S).bind fun x S1 => (evL c es ρ S1).bind fun ys S2 => .ok (x :: ys) S2 := l_cons c ρ S rfl es
@[simp] theorem l_bin (o : BOp) (a b : E) (es : List E) : evL c (.bin o a b :: es) ρ S = (evE c (.bin o a b) ρ S).bind fun x S1 => (evL c es ρ S1).bind fun ys S2 => .ok (x :: ys) S2 := l_cons c ρ S rfl es
@[simp] theorem l_neg (a : E) (es : List E) : evL c (.neg a :: es) ρ S = (evE c (.neg a) ρ S).bind fun x S1 => (evL c es ρ S1).bind fun ys S2 => .ok (x :: ys) S2 := l_cons c ρ S rfl es
@[simp] theorem l_not (a : E) (es : List E) : evL c (.not a :: es) ρ S = (evE c (.not a) ρ S).bind fun x S1 => (evL c es ρ S1).bind fun ys S2 => .ok (x :: ys) S2 := l_cons c ρ S rfl es
@[simp] theorem l_cmp (o : COp) (a b : E) (es : List E) : evL c (.cmp o a b :: es) ρ S = (evE c (.cmp o a b) ρ S).bind fun x S1 => (evL c es ρ S1).bind fun ys S2 => .ok (x :: ys) S2 := l_cons c ρ S rfl es
@[simp] theorem l_and (a b : E) (es : List E) : evL c (.and a b :: es) ρ S = (evE c (.and a b) ρ S).bind fun x S1 => (evL c es ρ S1).bind fun ys S2 => .ok (x :: ys) S2 := l_cons c ρ S rfl es
@[simp] theorem l_or (a b : E) (es : List E) : evL c (.or a b :: es) ρ S = (evE c (.or a b) ρ S).bind fun x S1 => (evL c es ρ S1).bind fun ys S2 => .ok (x :: ys) S2 := l_cons c ρ S rfl es
@[simp] theorem l_ite (q a b : E) (es : List E) : evL c (.ite q a b :: es) ρ S = (evE c (.ite q a b) ρ S).bind fun x S1 => (evL c es ρ S1).bind fun ys S2 => .ok (x :: ys) S2 := l_cons c ρ S rfl es
@[simp] theorem l_call (x : Str) (a es : List E) : evL c (.call x a :: es) ρ S = (evE c (.call x a) ρ S).bind fun x S1 => (evL c es ρ S1).bind fun ys S2 => .ok (x :: ys) S2 := l_cons c ρ S rfl es
@[simp] theorem l_callM (x : Str) (a es : List E) : evL c (.callM x a :: es) ρ S = (evE c (.callM x a) ρ S).bind fun x S1 => (evL c es ρ S1).bind fun ys S2 => .ok (x :: ys) S2 := l_cons c ρ S rfl es
@[simp] theorem l_prim (p : P1) (a : E) (es : List E) : evL c (.prim p a :: es) ρ S = (evE c (.prim p a) ρ S).bind fun x S1 => (evL c es ρ S1).bind fun ys S2 => .ok (x :: ys) S2 := l_cons c ρ S rfl es
@[simp] theorem l_isi (a : E) (t : String) (es : List E) : evL c (.isi a t :: es) ρ S = (evE c (.isi a t) ρ S).bind fun x S1 => (evL c es ρ S1).bind fun ys S2 => .ok (x :: ys) S2 := l_cons c ρ S rfl es
@[simp] theorem l_idx (a i : E) (es : List E) : evL c (.idx a i :: es) ρ S = (evE c (.idx a i) ρ S).bind fun x S1 => (evL c es ρ S1).bind fun ys S2 => .ok (x :: ys) S2 := l_cons c ρ S rfl es
@[simp] theorem l_sl (a l h : E) (es : List E) : evL c (.sl a l h :: es) ρ S = (evE c (.sl a l h) ρ S).bind fun x S1 => (evL c es ρ S1).bind fun ys S2 => .ok (x :: ys) S2 := l_cons c ρ S rfl es
@[simp] theorem l_rev (a : E) (es : List E) : evL c (.rev a :: es) ρ S = (evE c (.rev a) ρ S).bind fun x S1 => (evL c es ρ S1).bind fun ys S2 => .ok (x :: ys) S2 := l_cons c ρ S rfl es
@[simp] theorem l_upper (a : E) (es : List E) : evL c (.upper a :: es) ρ S = (evE c (.upper a) ρ S).bind fun x S1 => (evL c es ρ S1).bind fun ys S2 => .ok (x :: ys) S2 := l_cons c ρ S rfl es
@[simp] theorem l_lc (elt : E) (tg : Tg) (own : List Nat) (it : E) (ifs : List E) (es : List E) : evL c (.lc elt tg own it ifs :: es) ρ S = (evE c (.lc elt tg own it ifs) ρ S).bind fun x S1 => (evL c es ρ S1).bind fun ys S2 => .ok (x :: ys) S2 := l_cons c ρ S rfl es
@[simp] theorem c_nil : evC c [] ρ S = .ok true S := by simp only [evC]
def iseqR (x : D) (S1 : Sto) : Res Src := match srcOf S1 x with
    | some src => .ok src S1
    | none => .bad
@[simp] theorem iseqR_tup (xs : List D) : iseqR (.tup xs) S = .ok (.fixed xs) S := rfl
@[simp] theorem iseqR_lst (xs : List D) : iseqR (.lst xs) S = .ok (.fixed xs) S := rfl
@[simp] theorem i_seq (a : E) : evI c (.iseq a) ρ S = (evE c a ρ S).bind iseqR := by simp only [evI] <;> rfl
def irgR (x y : D) (S1 : Sto) : Res Src := match rangeD x y with
    | some xs => .ok (.fixed xs) S1
    | none => .bad
@[simp] theorem i_r1 (a : E) : evI c (.irange1 a) ρ S = (evE c a ρ S).bind fun x S1 => irgR (.int 0) x S1 := by simp only [evI] <;> rfl
@[simp] theorem i_r2 (a b : E) : evI c (.irange2 a b) ρ S = (evE c a ρ S).bind fun x S1 => (evE c b ρ S1).bind fun y S2 => irgR x y S2 := by simp only [evI] <;> rfl
def ienumR (x : D) (S1 : Sto) : Res Src := match x with
    | .tup xs => .ok (.fixed (enumD 0 xs)) S1
    | .lst xs => .ok (.fixed (enumD 0 xs)) S1
    | _ => .bad
@[simp] theorem ienumR_tup (xs : List D) : ienumR (.tup xs) S = .ok (.fixed (enumD 0 xs)) S := rfl
@[simp] theorem ienumR_lst (xs : List D) : ienumR (.lst xs) S = .ok (.fixed (enumD 0 xs)) S := rfl
@[simp] theorem i_enum (a : E) : evI c (.ienum a) ρ S = (evE c a ρ S).bind ienumR := by simp only [evI] <;> rfl
def izipR (x y : D) (S2 : Sto) : Res Src := match x, y with
    | .tup xs, .tup ys => .ok (.fixed (zipD xs ys)) S2
    | .lst xs, .lst ys => .ok (.fixed (zipD xs ys)) S2
    | _, _ => .bad
@[simp] theorem izipR_tup (xs ys : List D) : izipR (.tup xs) (.tup ys) S = .ok (.fixed (zipD xs ys)) S := rfl
@[simp] theorem izipR_lst (xs ys : List D) : izipR (.lst xs) (.lst ys) S = .ok (.fixed (zipD xs ys)) S := rfl
@[simp] theorem i_zip (a b : E) : evI c (.izip a b) ρ S = (evE c a ρ S).bind fun x S1 => (evE c b ρ S1).bind fun y S2 => izipR x y S2 := by simp only [evI] <;> rfl
/-! statements -/
@[simp] theorem t_ev (e : E) : evT c e ρ S = (evE c e ρ S).bind fun x S1 => match truth S1 x with
  | some b => .ok b S1
  | none => .bad := rfl
def nextO (o : Option Env) (S1 : Sto) : Out := match o with
    | some ρ' => .next ρ' S1
    | none => .bad
@[simp] theorem nextO_some (ρ : Env) : nextO (some ρ) S = .next ρ S := rfl
@[simp] theorem s_asg (t : Tg) (e : E) : evS c (.asg t e) ρ S = ofRes ρ (evE c e ρ S) fun d S1 => nextO (bindT t d ρ) S1 := by simp only [evS] <;> rfl
@[simp] theorem s_par (is : List Nat) (es : List E) : evS c (.par is es) ρ S = ofRes ρ (evL c es ρ S) fun ds S1 => nextO (setAll ρ is ds) S1 := by simp only [evS] <;> rfl
def nextS (ρ : Env) (o : Option Sto) : Out := match o with
    | some S => .next ρ S
    | none => .bad
@[simp] theorem nextS_some (ρ : Env) : nextS ρ (some S) = .next ρ S := rfl
@[simp] theorem s_seti (o i v : E) : evS c (.seti o i v) ρ S = ofRes ρ (evE c v ρ S) fun v S1 => ofRes ρ (evE c o ρ S1) fun o S2 => ofRes ρ (evE c i ρ S2) fun i S3 => nextS ρ (setO S3 o i v) := by simp only [evS] <;> rfl
@[simp] theorem s_expr (e : E) : evS c (.expr e) ρ S = ofRes ρ (evE c e ρ S) fun _ S1 => .next ρ S1 := by simp only [evS]
@[simp] theorem s_app (o v : E) : evS c (.app o v) ρ S = ofRes ρ (evE c o ρ S) fun o S1 => if isRefD o then ofRes ρ (evE c v ρ S1) fun v S2 => nextS ρ (appO S2 o v) else .bad := by simp only [evS] <;> rfl
@[simp] theorem s_ext (o v : E) : evS c (.ext o v) ρ S = ofRes ρ (evE c o ρ S) fun o S1 => if isRefD o then ofRes ρ (evE c v ρ S1) fun v S2 => nextS ρ (extO S2 o v) else .bad := by simp only [evS] <;> rfl
@[simp] theorem s_ifs (q : E) (a b : List Stm) : evS c (.ifs q a b) ρ S = ofRes ρ (evT c q ρ S) fun k S1 => if k then evSs c a ρ S1 else evSs c b ρ S1 := by simp only [evS]
@[simp] theorem s_for (t : Tg) (it : E) (b : List Stm) : evS c (.for t it b) ρ S = ofRes ρ (evI c it ρ S) fun src S1 => forRun c t b src ρ S1 := by simp only [evS] <;> rfl
@[simp] theorem s_whil (q : E) (b : List Stm) : evS c (.whil q b) ρ S = whRun c q b ρ S := by simp only [evS] <;> rfl
@[simp] theorem s_ret (e : E) : evS c (.ret e) ρ S = ofRes ρ (evE c e ρ S) fun d S1 => .ret d S1 := by simp only [evS]
@[simp] theorem s_retN : evS c .retN ρ S = .ret .non S := by simp only [evS]
@[simp] theorem s_raise (x : Str) (e : E) : evS c (.raise x e) ρ S = ofRes ρ (evE c e ρ S) fun d S1 => .exc x d ρ S1 := by simp only [evS]
@[simp] theorem s_pass : evS c .pass ρ S = .next ρ S := by simp only [evS]
@[simp] theorem s_brk : evS c .brk ρ S = .brk ρ S := by simp only [evS]
@[simp] theorem s_cont : evS c .cont ρ S = .cont ρ S := by simp only [evS]
@[simp] theorem q_nil : evSs c [] ρ S = .next ρ S := by simp only [evSs]
@[simp] theorem q_cons (s : Stm) (ss : List Stm) : evSs c (s :: ss) ρ S = (evS c s ρ S).seq fun ρ1 S1 => evSs c ss ρ1 S1 := by simp only [evSs]
@[simp] theorem bindT_name (i : Nat) (d : D) : bindT (.name i) d ρ = some (ρ.set i (some d)) := by simp only [bindT]
@[simp] theorem bindT_tup (ts : List Tg) (xs : List D) : bindT (.tup ts) (.tup xs) ρ = bindTs ts xs ρ := by simp only [bindT]
@[simp] theorem bindTs_nil : bindTs [] [] ρ = some ρ := by simp only [bindTs]
@[simp] theorem bindTs_cons (t : Tg) (ts : List Tg) (x : D) (xs : List D) : bindTs (t :: ts) (x :: xs) ρ = (bindT t x ρ).bind fun ρ' => bindTs ts xs ρ' := by simp only [bindTs]
@[simp] theorem boundOf_nil (d : D) : boundOf .nil d = some none := rfl
theorem boundOf_int {e : E} (h : e ≠ .nil) (i : Int) : boundOf e (.int i) = some (some i) := by cases e <;> first | rfl | exact absurd rfl h
end
@[simp] theorem boundOf_cst (d : D) (i : Int) : boundOf (.cst d) (.int i) = some (some i) := rfl
@[simp] theorem boundOf_var (d : Nat) (i : Int) : boundOf (.var d) (.int i) = some (some i) := rfl
@[simp] theorem boundOf_neg (d : E) (i : Int) : boundOf (.neg d) (.int i) = some (some i) := rfl
@[simp] theorem boundOf_bin (o : BOp) (a b : E) (i : Int) : boundOf (.bin o a b) (.int i) = some (some i) := rfl
@[simp] theorem boundOf_glb (x : Str) (i : Int) : boundOf (.glb x) (.int i) = some (some i) := rfl
@[simp] theorem boundOf_prim (p : P1) (a : E) (i : Int) : boundOf (.prim p a) (.int i) = some (some i) := rfl
@[simp] theorem boundOf_call (x : Str) (a : List E) (i : Int) : boundOf (.call x a) (.int i) = some (some i) := rfl
@[simp] theorem boundOf_idx (a b : E) (i : Int) : boundOf (.idx a b) (.int i) = some (some i) := rfl
@[simp] theorem wipe0 (ρ : Env) : wipeE ρ [] = ρ := rfl
@[simp] theorem wipe1 (ρ : Env) (i : Nat) : wipeE ρ [i] = ρ.set i none := rfl
@[simp] theorem wipe2 (ρ : Env) (i j : Nat) : wipeE ρ [i, j] = (ρ.set j none).set i none := rfl
@[simp] theorem wipe3 (ρ : Env) (i j k : Nat) : wipeE ρ [i, j, k] = ((ρ.set k none).set j none).set i none := rfl
/-! ### own looks -/
def isIntB : D → Int → Int → Bool
  | .int i, lo, hi => decide (lo ≤ i) && decide (i ≤ hi)
  | _, _, _ => false
def isWholeB : D → Bool
  | .int _ => true
  | _ => false
def isTupB : D → Int → Int → Bool
  | .tup xs, lo, hi => decide (lo ≤ xs.length) && decide ((xs.length : Int) ≤ hi)
  | _, _, _ => false
namespace F
def is_tuple : Fn := { name := "is_tuple", names := ["value", "least", "most"], pars := 3, body := [
    .ret (.and (.isi (.var 0) "tuple") (.chain .le .le (.var 1) (.prim .len (.var 0)) (.var 2)))] }
def is_whole : Fn := { name := "is_whole", names := ["value"], pars := 1, body := [
    .ret (.and (.isi (.var 0) "int") (.not (.isi (.var 0) "bool")))] }
def is_integer : Fn := { name := "is_integer", names := ["value", "low", "high"], pars := 3, body := [
    .ret (.and (.call "is_whole" [.var 0]) (.chain .le .le (.var 1) (.var 0) (.var 2)))] }
end F
variable {P : Prg} {S : Sto}
theorem is_whole_eq (h : Has P "is_whole" F.is_whole) {v : D} (hv : v.pure = true) (n : Nat) : callF P (n + 1) "is_whole" [v] S = .ok (.bl (isWholeB v)) S := by
  rw [call_fn h n rfl]
  cases v <;> first | (simp only [D.pure] at hv; cases hv; done) | (simp [F.is_whole, isiR, tyOf, isiB, isWholeB]; done)
theorem is_tuple_eq (h : Has P "is_tuple" F.is_tuple) {v : D} (hv : v.pure = true) (lo hi : Int) (n : Nat) : callF P (n + 1) "is_tuple" [v, .int lo, .int hi] S = .ok (.bl (isTupB v lo hi)) S := by
  rw [call_fn h n rfl]
  cases v <;> first | (simp only [D.pure] at hv; cases hv; done) | (simp [F.is_tuple, isiR, tyOf, isiB, isTupB]; done) | skip
  all_goals
    rename_i xs
    by_cases h1 : lo ≤ xs.length
    · simp [F.is_tuple, isiR, tyOf, isiB, isTupB, p1, h1]
    · simp [F.is_tuple, isiR, tyOf, isiB, isTupB, p1, h1]
theorem is_integer_eq (h : Has P "is_integer" F.is_integer) (h1 : Has P "is_whole" F.is_whole) {v : D} (hv : v.pure = true) (lo hi : Int) (n : Nat) : callF P (n + 2) "is_integer" [v, .int lo, .int hi] S = .ok (.bl (isIntB v lo hi)) S := by
  rw [call_fn h (n + 1) rfl]
  have e := is_whole_eq (S := S) h1 hv n
  cases v <;> first | (simp only [D.pure] at hv; cases hv; done) | (simp [F.is_integer, e, isWholeB, isIntB]; done) | skip
  rename_i i
  by_cases h1 : lo ≤ i
  · simp [F.is_integer, e, isWholeB, isIntB, h1]
  · simp [F.is_integer, e, isWholeB, isIntB, h1]
end DL
set_option Elab.async false
set_option linter.all false
set_option maxRecDepth 100000
set_option maxHeartbeats 4000000
/-! PL1: comprehensions, loops; the offices' own looks -/
namespace DL
open PySem
variable {P : Prg} {S : Sto}
theorem compL_pure {tg : Tg} {cond : Env → Sto → Res Bool} {elt : Env → Sto → Res D} {ρ : Env} {b : D → Env} {q : D → Bool} {g : D → D} : ∀ {xs acc : List D}, (∀ x ∈ xs, bindT tg x ρ = some (b x)) → (∀ x ∈ xs, cond (b x) S = .ok (q x) S) → (∀ x ∈ xs, q x = true → elt (b x) S = .ok (g x) S) → acc.length + xs.length ≤ sizeLine →
    compL tg cond elt ρ acc xs S = .ok (acc.reverse ++ (xs.filter q).map g) S
  | [], acc, _, _, _, _ => by simp [compL]
  | x :: xs, acc, hb, hc, he, hl => by
    have h1 := hb x (List.mem_cons_self ..)
    have h2 := hc x (List.mem_cons_self ..)
    have ih := fun acc h => compL_pure (xs := xs) (acc := acc) (fun y hy => hb y (List.mem_cons_of_mem _ hy)) (fun y hy => hc y (List.mem_cons_of_mem _ hy)) (fun y hy => he y (List.mem_cons_of_mem _ hy)) h
    rw [List.length_cons] at hl
    simp only [compL, compTurn, h1, h2, noexc, Res.bind_ok]
    cases hq : q x with
    | true =>
      have h3 := he x (List.mem_cons_self ..) hq
      have h4 : acc.length < sizeLine := by omega
      simp only [if_true, h3, Res.bind_ok, h4, List.filter_cons, hq, List.map_cons]
      rw [ih (g x :: acc) (by rw [List.length_cons]; omega)]
      simp
    | false =>
      simp only [Bool.false_eq_true, if_false, List.filter_cons, hq]
      rw [ih acc (by omega)]
/-- without a test -/
theorem compL_map {tg : Tg} {cond : Env → Sto → Res Bool} {elt : Env → Sto → Res D} {ρ : Env} {b : D → Env} {g : D → D} {xs : List D} (hb : ∀ x ∈ xs, bindT tg x ρ = some (b x)) (hc : ∀ ρ, cond ρ S = .ok true S) (he : ∀ x ∈ xs, elt (b x) S = .ok (g x) S) (hl : xs.length ≤ sizeLine) :
    compL tg cond elt ρ [] xs S = .ok (xs.map g) S := by
  rw [compL_pure (q := fun _ => true) hb (fun x _ => hc _) (fun x hx _ => he x hx) (by simpa using hl)]
  rw [List.filter_eq_self.mpr (fun x _ => rfl)]
  rfl
theorem lc_map {c : Cfg} {elt : E} {tg : Tg} {ρ : Env} {S : Sto} {b : D → Env} {g : D → D} {xs : List D} (hb : ∀ x ∈ xs, bindT tg x ρ = some (b x)) (he : ∀ x ∈ xs, evE c elt (b x) S = .ok (g x) S) (hl : xs.length ≤ sizeLine) :
    lcRun c elt tg [] ρ (.fixed xs) S = .ok (xs.map g) S := compL_map hb (fun ρ => by simp) he hl
/-- what changes the store -/
theorem compL_ex {tg : Tg} {cond : Env → Sto → Res Bool} {elt : Env → Sto → Res D} {ρ : Env} {b : D → Env} (I : List D → List D → Sto → Prop) : ∀ {xs acc : List D} {S : Sto}, I acc xs S → (∀ x ∈ xs, bindT tg x ρ = some (b x)) → (∀ ρ S, cond ρ S = .ok true S) →
    (∀ acc x xs S, I acc (x :: xs) S → ∃ d S', elt (b x) S = .ok d S' ∧ I (d :: acc) xs S') → acc.length + xs.length ≤ sizeLine → ∃ ys S', compL tg cond elt ρ acc xs S = .ok ys.reverse S' ∧ I ys [] S' ∧ ys.length = acc.length + xs.length
  | [], acc, S, h, _, _, _, _ => ⟨acc, S, by simp [compL], h, by simp⟩
  | x :: xs, acc, S, h, hb, hc, hs, hl => by
    have h1 := hb x (List.mem_cons_self ..)
    obtain ⟨d, S', e, h2⟩ := hs acc x xs S h
    rw [List.length_cons] at hl
    obtain ⟨ys, S2, e2, h3, h4⟩ := compL_ex I (xs := xs) (acc := d :: acc) h2 (fun y hy => hb y (List.mem_cons_of_mem _ hy)) hc hs (by rw [List.length_cons]; omega)
    have h5 : acc.length < sizeLine := by omega
    refine ⟨ys, S2, ?_, h3, by rw [h4, List.length_cons, List.length_cons]; omega⟩
    simp only [compL, compTurn, h1, hc, noexc, Res.bind_ok, if_true, e, h5]
    exact e2
theorem loopL_ex {tg : Tg} {body : Env → Sto → Out} (I : List D → Env → Sto → Prop) : ∀ {xs : List D} {ρ : Env} {S : Sto}, I xs ρ S →
    (∀ x xs ρ S, I (x :: xs) ρ S → ∃ ρ' ρ1 S1, bindT tg x ρ = some ρ' ∧ (body ρ' S = .next ρ1 S1 ∨ body ρ' S = .cont ρ1 S1) ∧ I xs ρ1 S1) → ∃ ρ1 S1, loopL tg body xs ρ S = .next ρ1 S1 ∧ I [] ρ1 S1
  | [], ρ, S, h, _ => ⟨ρ, S, rfl, h⟩
  | x :: xs, ρ, S, h, hs => by
    obtain ⟨ρ', ρ1, S1, e, e1, h1⟩ := hs x xs ρ S h
    obtain ⟨ρ2, S2, e2, h2⟩ := loopL_ex I h1 hs
    refine ⟨ρ2, S2, ?_, h2⟩
    rcases e1 with e1 | e1 <;> simp only [loopL, e, e1, e2]
theorem blsOf_map {α : Type} (f : α → Bool) : ∀ xs : List α, blsOf (xs.map fun x => D.bl (f x)) = some (xs.map f)
  | [] => rfl
  | x :: xs => by simp [blsOf, blsOf_map f xs]
@[simp] theorem p1_all (f : D → Bool) (xs : List D) (S : Sto) : p1 .all (.lst (xs.map fun x => D.bl (f x))) S = .ok (.bl (xs.all f)) S := by
  simp only [p1, listOf_lst, blsOf_map]
  rw [List.all_map]
  rfl
theorem cut_from {α : Type} (xs : List α) (k : Nat) : cutL xs (some (k : Int)) none = xs.drop k := by
  simp only [cutL, HT.sIx_nat, HT.sIx_none]
  by_cases h : k ≤ xs.length
  · rw [Nat.min_eq_left h]
    exact List.take_of_length_le (by rw [List.length_drop]; exact Nat.le_refl _)
  · rw [Nat.min_eq_right (by omega), List.drop_eq_nil_of_le (Nat.le_refl _), List.drop_eq_nil_of_le (by omega)]
    simp
theorem cut_to {α : Type} (xs : List α) (k : Nat) : cutL xs none (some (k : Int)) = xs.take k := by
  simp only [cutL, HT.sIx_nat, HT.sIx_none, List.drop_zero, Nat.sub_zero]
  by_cases h : k ≤ xs.length
  · rw [Nat.min_eq_left h]
  · rw [Nat.min_eq_right (by omega), List.take_of_length_le (Nat.le_refl _), List.take_of_length_le (by omega)]
@[simp] theorem bop_add (i j : Int) (S : Sto) : bop .add (.int i) (.int j) S = .ok (.int (i + j)) S := rfl
@[simp] theorem bop_sub (i j : Int) (S : Sto) : bop .sub (.int i) (.int j) S = .ok (.int (i - j)) S := rfl
theorem indexD_tup {xs : List D} {i : Nat} {d : D} (h : xs[i]? = some d) (S : Sto) : indexD (.tup xs) (.int (i : Int)) S = .ok d S := by
  simp only [indexD, seqOf_tup, L2.atI_nat h]
theorem indexD_lst {xs : List D} {i : Nat} {d : D} (h : xs[i]? = some d) (S : Sto) : indexD (.lst xs) (.int (i : Int)) S = .ok d S := by
  simp only [indexD, seqOf_lst, L2.atI_nat h]
@[simp] theorem indexD_0 (a : D) (xs : List D) (S : Sto) : indexD (.tup (a :: xs)) (.int 0) S = .ok a S := indexD_tup (i := 0) rfl S
@[simp] theorem indexD_1 (a b : D) (xs : List D) (S : Sto) : indexD (.tup (a :: b :: xs)) (.int 1) S = .ok b S := indexD_tup (i := 1) rfl S
@[simp] theorem indexD_2 (a b c : D) (xs : List D) (S : Sto) : indexD (.tup (a :: b :: c :: xs)) (.int 2) S = .ok c S := indexD_tup (i := 2) rfl S
@[simp] theorem indexD_3 (a b c d : D) (xs : List D) (S : Sto) : indexD (.tup (a :: b :: c :: d :: xs)) (.int 3) S = .ok d S := indexD_tup (i := 3) rfl S
@[simp] theorem indexD_t1 (a b : D) (xs : List D) (S : Sto) : indexD (.tup (a :: b :: xs)) (.int 1) S = .ok b S := indexD_tup (i := 1) rfl S
namespace F
def is_rising : Fn := { name := "is_rising", names := ["values", "one", "other"], pars := 1, body := [
    .ret (.prim .all (.lc (.cmp .lt (.var 1) (.var 2)) (.tup [.name 1, .name 2]) [1, 2] (.izip (.var 0) (.sl (.var 0) (.cst (.int 1)) .nil)) []))] }
def is_rule : Fn := { name := "is_rule", names := ["value", "moods", "slips", "slip"], pars := 3, body := [
    .ifs (.or (.not (.call "is_tuple" [.var 0, .glb "FOUR", .glb "FOUR"])) (.not (.call "is_integer" [.idx (.var 0) (.cst (.int 0)), .cst (.int 0), .bin .sub (.var 1) (.cst (.int 1))]))) [.ret (.cst (.bl false))] [],
    .ifs (.or (.not (.call "is_integer" [.idx (.var 0) (.cst (.int 1)), .cst (.int 0), .bin .sub (.var 2) (.cst (.int 1))])) (.not (.call "is_integer" [.idx (.var 0) (.cst (.int 2)), .cst (.int 0), .bin .sub (.var 1) (.cst (.int 1))]))) [.ret (.cst (.bl false))] [],
    .ret (.and (.call "is_tuple" [.idx (.var 0) (.glb "TRIPLE"), .cst (.int 0), .glb "MOST_PUT"]) (.prim .all (.lc (.call "is_integer" [.var 3, .cst (.int 0), .bin .sub (.var 2) (.cst (.int 1))]) (.name 3) [3] (.iseq (.idx (.var 0) (.glb "TRIPLE"))) [])))] }
def is_office : Fn := { name := "is_office", names := ["value", "moods", "slips", "rules", "rule"], pars := 1, body := [
    .ifs (.or (.not (.call "is_tuple" [.var 0, .glb "TRIPLE", .glb "TRIPLE"])) (.not (.call "is_integer" [.idx (.var 0) (.cst (.int 0)), .cst (.int 1), .glb "MOST_MOODS"]))) [.ret (.cst (.bl false))] [],
    .asg (.tup [.name 1, .name 2, .name 3]) (.var 0),
    .ifs (.or (.not (.call "is_integer" [.var 2, .cst (.int 1), .glb "MOST_SLIPS"])) (.not (.call "is_tuple" [.var 3, .cst (.int 0), .glb "MOST_RULES"]))) [.ret (.cst (.bl false))] [],
    .ret (.and (.prim .all (.lc (.call "is_rule" [.var 4, .var 1, .var 2]) (.name 4) [4] (.iseq (.var 3)) [])) (.call "is_rising" [.var 3]))] }
end F
/-- what the looks of offices need -/
structure Offices (P : Prg) : Prop where
  whole : Has P "is_whole" F.is_whole
  tuple : Has P "is_tuple" F.is_tuple
  int : Has P "is_integer" F.is_integer
  rising : Has P "is_rising" F.is_rising
  rule : Has P "is_rule" F.is_rule
  office : Has P "is_office" F.is_office
  four : P.glb "FOUR" = some (.int 4)
  three : P.glb "TRIPLE" = some (.int 3)
  moods : P.glb "MOST_MOODS" = some (.int 5)
  slips : P.glb "MOST_SLIPS" = some (.int 6)
  rules : P.glb "MOST_RULES" = some (.int 60)
  put : P.glb "MOST_PUT" = some (.int 2)
def isPutB (v : D) (s : Int) : Bool := match v with
  | .tup xs => decide (xs.length ≤ 2) && xs.all fun x => isIntB x 0 (s - 1)
  | _ => false
def isRuleB (v : D) (m s : Int) : Bool := match v with
  | .tup [a, b, c, d] => isIntB a 0 (m - 1) && isIntB b 0 (s - 1) && isIntB c 0 (m - 1) && isPutB d s
  | _ => false
@[simp] theorem pure_tup (xs : List D) : (D.tup xs).pure = pureL xs := rfl
@[simp] theorem pure_lst (xs : List D) : (D.lst xs).pure = pureL xs := rfl
@[simp] theorem pureL_cons (x : D) (xs : List D) : pureL (x :: xs) = (x.pure && pureL xs) := rfl
@[simp] theorem pureL_nil : pureL [] = true := rfl
theorem isTup4 {v : D} (h : isTupB v 4 4 = true) : ∃ a b c d, v = .tup [a, b, c, d] := by
  cases v with
  | tup xs =>
    simp only [isTupB, Bool.and_eq_true, decide_eq_true_eq] at h
    match xs, h with
    | [a, b, c, d], _ => exact ⟨a, b, c, d, rfl⟩
    | [], h | [_], h | [_, _], h | [_, _, _], h => simp at h
    | _ :: _ :: _ :: _ :: _ :: _, h => simp only [List.length_cons] at h; omega
  | _ => simp [isTupB] at h
theorem isTup3 {v : D} (h : isTupB v 3 3 = true) : ∃ a b c, v = .tup [a, b, c] := by
  cases v with
  | tup xs =>
    simp only [isTupB, Bool.and_eq_true, decide_eq_true_eq] at h
    match xs, h with
    | [a, b, c], _ => exact ⟨a, b, c, rfl⟩
    | [], h | [_], h | [_, _], h => simp at h
    | _ :: _ :: _ :: _ :: _, h => simp only [List.length_cons] at h; omega
  | _ => simp [isTupB] at h
theorem isRule_no {v : D} {m s : Int} (h : isTupB v 4 4 = false) : isRuleB v m s = false := by
  cases v with
  | tup xs =>
    match xs, h with
    | [_, _, _, _], h => simp [isTupB] at h
    | [], _ | [_], _ | [_, _], _ | [_, _, _], _ | _ :: _ :: _ :: _ :: _ :: _, _ => rfl
  | _ => rfl
theorem isPutB_tup (d : D) (s : Int) : isPutB d s = (isTupB d 0 2 && match d with | .tup xs => xs.all fun x => isIntB x 0 (s - 1) | _ => false) := by
  cases d <;> first | rfl | skip
  simp only [isPutB, isTupB]
  congr 1
  have : decide (0 ≤ (List.length ‹List D› : Int)) = true := decide_eq_true (by omega)
  rw [this, Bool.true_and]
  exact decide_eq_decide.mpr (by omega)
theorem sizeLine_big : 1000000 ≤ sizeLine := by unfold sizeLine; decide
theorem is_rule_eq (h : Offices P) {v : D} (hv : v.pure = true) (m s : Int) (n : Nat) : callF P (n + 3) "is_rule" [v, .int m, .int s] S = .ok (.bl (isRuleB v m s)) S := by
  rw [call_fn h.rule (n + 2) rfl]
  have e1 := is_tuple_eq (S := S) h.tuple hv 4 4 (n + 1)
  cases ht : isTupB v 4 4 with
  | false => simp [F.is_rule, e1, ht, h.four, isRule_no ht]
  | true =>
    obtain ⟨a, b, c, d, rfl⟩ := isTup4 ht
    simp only [pure_tup, pureL_cons, pureL_nil, Bool.and_eq_true] at hv
    have i1 := is_integer_eq (S := S) h.int h.whole hv.1 0 (m - 1) n
    have i2 := is_integer_eq (S := S) h.int h.whole hv.2.1 0 (s - 1) n
    have i3 := is_integer_eq (S := S) h.int h.whole hv.2.2.1 0 (m - 1) n
    have i4 := is_tuple_eq (S := S) h.tuple hv.2.2.2.1 0 2 (n + 1)
    cases c1 : isIntB a 0 (m - 1) with
    | false => simp [F.is_rule, e1, ht, h.four, i1, c1, isRuleB]
    | true =>
    cases c2 : isIntB b 0 (s - 1) with
    | false => simp [F.is_rule, e1, ht, h.four, i1, i2, c1, c2, isRuleB]
    | true =>
    cases c3 : isIntB c 0 (m - 1) with
    | false => simp [F.is_rule, e1, ht, h.four, i1, i2, i3, c1, c2, c3, isRuleB]
    | true =>
    cases c4 : isTupB d 0 2 with
    | false => simp [F.is_rule, e1, ht, h.four, i1, i2, i3, i4, c1, c2, c3, c4, isRuleB, h.three, h.put, isPutB_tup]
    | true =>
      obtain ⟨xs, rfl⟩ : ∃ xs, d = .tup xs := by cases d <;> first | exact ⟨_, rfl⟩ | simp [isTupB] at c4
      have hp : ∀ x ∈ xs, x.pure = true := fun x hx => by
        have := hv.2.2.2.1
        rw [pure_tup, pureL_eq] at this
        exact List.all_eq_true.mp this x hx
      have hlen : xs.length ≤ 2 := by
        simp only [isTupB, Bool.and_eq_true, decide_eq_true_eq] at c4
        omega
      have key := lc_map (c := cfgAt P (n + 2)) (elt := .call "is_integer" [.var 3, .cst (.int 0), .bin .sub (.var 2) (.cst (.int 1))]) (tg := .name 3) (ρ := [some (.tup [a, b, c, .tup xs]), some (.int m), some (.int s), none]) (S := S) (xs := xs)
        (b := fun x => [some (.tup [a, b, c, .tup xs]), some (.int m), some (.int s), some x]) (g := fun x => .bl (isIntB x 0 (s - 1))) (fun x _ => rfl) (fun x hx => by simp [is_integer_eq h.int h.whole (hp x hx)]) (by have := sizeLine_big; omega)
      simp [F.is_rule, e1, ht, h.four, i1, i2, i3, i4, c1, c2, c3, c4, isRuleB, h.three, h.put, isPutB_tup, key]
end DL
set_option Elab.async false
set_option linter.all false
set_option maxRecDepth 100000
set_option maxHeartbeats 4000000
/-! PL2: offices' looks -/
namespace DL
open PySem
variable {P : Prg} {S : Sto}
def risingB : List D → Bool
  | x :: y :: r => ltD x y && risingB (y :: r)
  | _ => true
theorem cut_from1 {α : Type} (xs : List α) : cutL xs (some 1) none = xs.tail := by rw [← List.drop_one]; exact cut_from xs 1
@[simp] theorem sliceD_tup (xs : List D) (l h : Option Int) (S : Sto) : sliceD (.tup xs) l h S = .ok (.tup (cutL xs l h)) S := rfl
@[simp] theorem sliceD_lst (xs : List D) (l h : Option Int) (S : Sto) : sliceD (.lst xs) l h S = .ok (.lst (cutL xs l h)) S := rfl
theorem zip_mem : ∀ {xs ys : List D} {p : D}, p ∈ zipD xs ys → ∃ u ∈ xs, ∃ v ∈ ys, p = .tup [u, v]
  | [], ys, p, h => by simp [zipD] at h
  | x :: xs, [], p, h => by simp [zipD] at h
  | x :: xs, y :: ys, p, h => by
    simp only [zipD, List.mem_cons] at h
    rcases h with rfl | h
    · exact ⟨x, List.mem_cons_self .., y, List.mem_cons_self .., rfl⟩
    · obtain ⟨u, h1, v, h2, e⟩ := zip_mem h
      exact ⟨u, List.mem_cons_of_mem _ h1, v, List.mem_cons_of_mem _ h2, e⟩
theorem zip_len : ∀ (xs ys : List D), (zipD xs ys).length ≤ xs.length
  | [], _ => by simp [zipD]
  | _ :: _, [] => by simp [zipD]
  | x :: xs, y :: ys => by
    simp only [zipD, List.length_cons]
    have := zip_len xs ys
    omega
def pairLt : D → Bool
  | .tup [u, v] => ltD u v
  | _ => false
def pairB (r : Env) : D → Env
  | .tup [u, v] => r ++ [some u, some v]
  | _ => []
theorem rising_zip : ∀ rs : List D, (zipD rs (rs.tail)).all pairLt = risingB rs
  | [] => rfl
  | [x] => rfl
  | x :: y :: r => by
    have ih := rising_zip (y :: r)
    simp only [List.tail_cons, zipD, List.all_cons, risingB] at ih ⊢
    rw [ih]
    rfl
theorem is_rising_eq (h : Has P "is_rising" F.is_rising) {rs : List D} (hc : ∀ x ∈ rs, ∀ y ∈ rs, cop .lt x y S = some (ltD x y)) (hl : rs.length ≤ 1000000) (n : Nat) : callF P (n + 1) "is_rising" [.tup rs] S = .ok (.bl (risingB rs)) S := by
  rw [call_fn h n rfl]
  have hm : ∀ p ∈ zipD rs (rs.tail), ∃ u ∈ rs, ∃ v ∈ rs, p = .tup [u, v] := fun p hp => by
    obtain ⟨u, h1, v, h2, e⟩ := zip_mem hp
    exact ⟨u, h1, v, List.mem_of_mem_tail h2, e⟩
  have key := lc_map (c := cfgAt P n) (elt := .cmp .lt (.var 1) (.var 2)) (tg := .tup [.name 1, .name 2]) (ρ := [some (.tup rs), none, none]) (S := S) (xs := zipD rs (rs.tail))
    (b := pairB [some (.tup rs)]) (g := fun p => .bl (pairLt p)) (fun p hp => by
      obtain ⟨u, h1, v, h2, rfl⟩ := hm p hp
      simp [pairB]) (fun p hp => by
      obtain ⟨u, h1, v, h2, rfl⟩ := hm p hp
      simp [pairB, pairLt, hc u h1 v h2]) (by have := sizeLine_big; have := zip_len rs (rs.tail); omega)
  simp [F.is_rising, cut_from1, key, rising_zip]
/-- a rule in plain numbers -/
def ruleD (a b c : Int) (xs : List Int) : D := .tup [.int a, .int b, .int c, .tup (xs.map .int)]
theorem isInt_form {v : D} {lo hi : Int} (h : isIntB v lo hi = true) : ∃ i : Int, v = .int i ∧ lo ≤ i ∧ i ≤ hi := by
  cases v with
  | int i =>
    simp only [isIntB, Bool.and_eq_true, decide_eq_true_eq] at h
    exact ⟨i, rfl, h⟩
  | _ => simp [isIntB] at h
theorem ints_form {lo hi : Int} : ∀ {xs : List D}, (xs.all fun x => isIntB x lo hi) = true → ∃ ns : List Int, xs = ns.map .int ∧ ∀ i ∈ ns, lo ≤ i ∧ i ≤ hi
  | [], _ => ⟨[], rfl, fun i h => by cases h⟩
  | x :: xs, h => by
    rw [List.all_cons, Bool.and_eq_true] at h
    obtain ⟨i, rfl, h1⟩ := isInt_form h.1
    obtain ⟨ns, rfl, h2⟩ := ints_form h.2
    exact ⟨i :: ns, rfl, fun j hj => by
      rcases List.mem_cons.mp hj with rfl | hj
      · exact h1
      · exact h2 j hj⟩
structure RuleOk (m s : Int) (a b c : Int) (xs : List Int) : Prop where
  a0 : 0 ≤ a
  a1 : a ≤ m - 1
  b0 : 0 ≤ b
  b1 : b ≤ s - 1
  c0 : 0 ≤ c
  c1 : c ≤ m - 1
  few : xs.length ≤ 2
  put : ∀ i ∈ xs, 0 ≤ i ∧ i ≤ s - 1
theorem isRule_form {v : D} {m s : Int} (h : isRuleB v m s = true) : ∃ a b c xs, v = ruleD a b c xs ∧ RuleOk m s a b c xs := by
  unfold isRuleB at h
  split at h
  · rename_i a b c d
    simp only [Bool.and_eq_true] at h
    obtain ⟨⟨⟨h1, h2⟩, h3⟩, h4⟩ := h
    obtain ⟨a, rfl, a0, a1⟩ := isInt_form h1
    obtain ⟨b, rfl, b0, b1⟩ := isInt_form h2
    obtain ⟨c, rfl, c0, c1⟩ := isInt_form h3
    unfold isPutB at h4
    split at h4
    · rename_i xs
      simp only [Bool.and_eq_true, decide_eq_true_eq] at h4
      obtain ⟨ns, rfl, h5⟩ := ints_form h4.2
      exact ⟨a, b, c, ns, rfl, a0, a1, b0, b1, c0, c1, by simpa using h4.1, h5⟩
    · cases h4
  · cases h
theorem ints_all {lo hi : Int} {ns : List Int} (h : ∀ i ∈ ns, lo ≤ i ∧ i ≤ hi) : ((ns.map D.int).all fun x => isIntB x lo hi) = true := by
  rw [List.all_eq_true]
  intro x hx
  obtain ⟨i, hi, rfl⟩ := List.mem_map.mp hx
  simp [isIntB, h i hi]
theorem isRule_of {m s a b c : Int} {xs : List Int} (r : RuleOk m s a b c xs) : isRuleB (ruleD a b c xs) m s = true := by
  simp only [isRuleB, ruleD, isPutB, Bool.and_eq_true, List.length_map, decide_eq_true_eq]
  refine ⟨⟨⟨?_, ?_⟩, ?_⟩, r.few, ints_all r.put⟩
  · simp [isIntB, r.a0, r.a1]
  · simp [isIntB, r.b0, r.b1]
  · simp [isIntB, r.c0, r.c1]
theorem ints_pure (ns : List Int) : pureL (ns.map D.int) = true := by rw [pureL_eq, List.all_map, List.all_eq_true]; intro x _; rfl
theorem ints_key (ns : List Int) : keyableL (ns.map D.int) = true := by rw [keyableL_eq, List.all_map, List.all_eq_true]; intro x _; rfl
theorem rule_pure (a b c : Int) (xs : List Int) : (ruleD a b c xs).pure = true := by
  have := ints_pure xs
  simp [ruleD, D.pure, this]
theorem rule_key (a b c : Int) (xs : List Int) : (ruleD a b c xs).keyable = true := by
  have := ints_key xs
  simp only [ruleD, D.keyable, keyableL, this, Bool.and_self]
theorem ints_lay (ns : List Int) : PyData.canLayAll0 (toPL (ns.map D.int)) = true := by
  induction ns with
  | nil => simp only [List.map_nil, toPL, PyData.canLayAll0]
  | cons i ns ih => simp only [List.map_cons, toPL, D.toP, PyData.canLayAll0, PyData.canLay0, ih, Bool.and_self]
theorem ints_depth (ns : List Int) : PyData.depthAll (toPL (ns.map D.int)) ≤ 0 := by
  induction ns with
  | nil => simp only [List.map_nil, toPL, PyData.depthAll]; omega
  | cons i ns ih => simp only [List.map_cons, toPL, D.toP, PyData.depthAll, PyData.depth]; omega
theorem rule_okP (a b c : Int) (xs : List Int) : okP (ruleD a b c xs) = true := by
  have h1 := ints_lay xs
  have h2 := ints_depth xs
  simp only [okP, ruleD, D.toP, toPL, PyData.canLay0, PyData.canLayAll0, h1, Bool.and_self, Bool.true_and, PyData.depth, PyData.depthAll, decide_eq_true_eq]
  omega
theorem ints_alike : ∀ xs ys : List Int, PySem.W.alikeAll (toPL (xs.map D.int)) (toPL (ys.map D.int)) = true
  | [], ys => by simp only [List.map_nil, toPL, PySem.W.alikeAll]
  | _ :: _, [] => by simp only [List.map_nil, List.map_cons, toPL, PySem.W.alikeAll]
  | x :: xs, y :: ys => by simp only [List.map_cons, toPL, D.toP, PySem.W.alikeAll, PySem.W.alike, ints_alike xs ys, Bool.and_self]
theorem rule_alike (a b c : Int) (xs : List Int) (a' b' c' : Int) (xs' : List Int) : alikeD (ruleD a b c xs) (ruleD a' b' c' xs') = true := by
  have := ints_alike xs xs'
  simp only [alikeD, ruleD, D.toP, toPL, PySem.W.alike, PySem.W.alikeAll, this, Bool.and_self]
theorem rule_lt {m s : Int} {x y : D} (hx : isRuleB x m s = true) (hy : isRuleB y m s = true) (S : Sto) : cop .lt x y S = some (ltD x y) := by
  obtain ⟨a, b, c, xs, rfl, _⟩ := isRule_form hx
  obtain ⟨a', b', c', xs', rfl, _⟩ := isRule_form hy
  have h1 := rule_pure a b c xs
  have h2 := rule_pure a' b' c' xs'
  have h3 := rule_okP a b c xs
  have h4 := rule_okP a' b' c' xs'
  have h5 := rule_alike a b c xs a' b' c' xs'
  unfold ruleD at *
  rw [pure_tup] at h1 h2
  simp only [cop, h1, h2, h3, h4, h5, Bool.and_self, if_true]
def toI : D → Int
  | .int i => i
  | _ => 0
def isOfficeB (v : D) : Bool := match v with
  | .tup [m, s, .tup rs] => isIntB m 1 5 && isIntB s 1 6 && decide (rs.length ≤ 60) && rs.all (fun r => isRuleB r (toI m) (toI s)) && risingB rs
  | _ => false
theorem isOffice_no {v : D} (h : isTupB v 3 3 = false) : isOfficeB v = false := by
  cases v with
  | tup xs =>
    match xs, h with
    | [_, _, _], h => simp [isTupB] at h
    | [], _ | [_], _ | [_, _], _ | _ :: _ :: _ :: _ :: _, _ => simp [isOfficeB]
  | _ => rfl
theorem isTup_0 {d : D} {k : Nat} : isTupB d 0 (k : Int) = true ↔ ∃ xs, d = .tup xs ∧ xs.length ≤ k := by
  cases d with
  | tup xs =>
    simp only [isTupB, Bool.and_eq_true, decide_eq_true_eq, D.tup.injEq]
    exact ⟨fun h => ⟨xs, rfl, by omega⟩, fun ⟨ys, e, h⟩ => by subst e; omega⟩
  | _ => simp [isTupB]
theorem is_office_eq (h : Offices P) {v : D} (hv : v.pure = true) (n : Nat) : callF P (n + 4) "is_office" [v] S = .ok (.bl (isOfficeB v)) S := by
  rw [call_fn h.office (n + 3) rfl]
  have e1 := is_tuple_eq (S := S) h.tuple hv 3 3 (n + 2)
  cases ht : isTupB v 3 3 with
  | false => simp [F.is_office, e1, ht, h.three, isOffice_no ht]
  | true =>
    obtain ⟨m, s, r, rfl⟩ := isTup3 ht
    simp only [pure_tup, pureL_cons, pureL_nil, Bool.and_eq_true] at hv
    have i1 := is_integer_eq (S := S) h.int h.whole hv.1 1 5 (n + 1)
    have i2 := is_integer_eq (S := S) h.int h.whole hv.2.1 1 6 (n + 1)
    have i3 := is_tuple_eq (S := S) h.tuple hv.2.2.1 0 60 (n + 2)
    cases c1 : isIntB m 1 5 with
    | false =>
      have : isOfficeB (.tup [m, s, r]) = false := by cases r <;> simp [isOfficeB, c1]
      simp [F.is_office, e1, ht, h.three, h.moods, i1, c1, this]
    | true =>
    cases c2 : isIntB s 1 6 with
    | false =>
      have : isOfficeB (.tup [m, s, r]) = false := by cases r <;> simp [isOfficeB, c1, c2]
      simp [F.is_office, e1, ht, h.three, h.moods, h.slips, i1, i2, c1, c2, this]
    | true =>
    cases c3 : isTupB r 0 60 with
    | false =>
      have : isOfficeB (.tup [m, s, r]) = false := by
        cases r with
        | tup rs =>
          have : ¬ rs.length ≤ 60 := fun hh => by
            have := isTup_0 (d := .tup rs) (k := 60) |>.mpr ⟨rs, rfl, hh⟩
            rw [show ((60 : Nat) : Int) = 60 from rfl, c3] at this
            cases this
          simp [isOfficeB, this]
        | _ => rfl
      simp [F.is_office, e1, ht, h.three, h.moods, h.slips, h.rules, i1, i2, i3, c1, c2, c3, this]
    | true =>
      obtain ⟨rs, rfl, hlen⟩ := (isTup_0 (d := r) (k := 60)).mp c3
      obtain ⟨mi, rfl, _, _⟩ := isInt_form c1
      obtain ⟨si, rfl, _, _⟩ := isInt_form c2
      have hp : ∀ x ∈ rs, x.pure = true := fun x hx => by
        have := hv.2.2.1
        rw [pure_tup, pureL_eq] at this
        exact List.all_eq_true.mp this x hx
      have key := lc_map (c := cfgAt P (n + 3)) (elt := .call "is_rule" [.var 4, .var 1, .var 2]) (tg := .name 4) (ρ := [some (.tup [.int mi, .int si, .tup rs]), some (.int mi), some (.int si), some (.tup rs), none]) (S := S) (xs := rs)
        (b := fun x => [some (.tup [.int mi, .int si, .tup rs]), some (.int mi), some (.int si), some (.tup rs), some x]) (g := fun x => .bl (isRuleB x mi si)) (fun x _ => rfl) (fun x hx => by simp [is_rule_eq h (hp x hx)]) (by have := sizeLine_big; omega)
      cases c4 : rs.all fun r => isRuleB r mi si with
      | false => simp [F.is_office, e1, ht, h.three, h.moods, h.slips, h.rules, i1, i2, i3, c1, c2, c3, key, c4, isOfficeB, toI]
      | true =>
        have hr := is_rising_eq (S := S) h.rising (rs := rs) (fun x hx y hy => rule_lt (List.all_eq_true.mp c4 x hx) (List.all_eq_true.mp c4 y hy) S) (by omega) (n + 2)
        simp [F.is_office, e1, ht, h.three, h.moods, h.slips, h.rules, i1, i2, i3, c1, c2, c3, key, c4, isOfficeB, toI, hr, hlen]
end DL
set_option Elab.async false
set_option linter.all false
set_option maxRecDepth 100000
set_option maxHeartbeats 4000000
/-! PL3: the pot, draws -/
namespace DL
open PySem
variable {P : Prg} {S : Sto}
/-- the pot at place p, few draws made -/
structure Pot (S : Sto) (p : Nat) (k : Nat) (a b c : Int) : Prop where
  at_ : S[p]? = some (.lst [.int a, .int b, .int c])
  a0 : 0 ≤ a
  b0 : 0 ≤ b
  b1 : b < 2 ^ 62
  c0 : 0 ≤ c
  c1 : c ≤ k
/-- only the pot is changed -/
def PotS (S : Sto) (p : Nat) (k : Nat) : Prop := ∃ a b c, Pot S p k a b c
def Only1 (S S' : Sto) (p : Nat) : Prop := ∃ o, S' = S.set p o
theorem Only1.refl (S : Sto) (p : Nat) (h : p < S.length) : Only1 S S p := ⟨S[p], by simp⟩
theorem Only1.trans {S S' S'' : Sto} {p : Nat} (h : Only1 S S' p) (h' : Only1 S' S'' p) : Only1 S S'' p := by
  obtain ⟨o, rfl⟩ := h
  obtain ⟨o', rfl⟩ := h'
  exact ⟨o', by simp⟩
theorem Only1.len {S S' : Sto} {p : Nat} (h : Only1 S S' p) : S'.length = S.length := by
  obtain ⟨o, rfl⟩ := h
  simp
theorem Only1.get {S S' : Sto} {p q : Nat} (h : Only1 S S' p) (hq : q ≠ p) : S'[q]? = S[q]? := by
  obtain ⟨o, rfl⟩ := h
  rw [List.getElem?_set_ne (Ne.symm hq)]
theorem PotS.lt {p k : Nat} (h : PotS S p k) : p < S.length := by
  obtain ⟨a, b, c, h⟩ := h
  exact (List.getElem?_eq_some_iff.mp h.at_).1
theorem PotS.mono {p k k' : Nat} (h : PotS S p k) (hk : k ≤ k') : PotS S p k' := by
  obtain ⟨a, b, c, h⟩ := h
  exact ⟨a, b, c, h.at_, h.a0, h.b0, h.b1, h.c0, by have := h.c1; omega⟩
theorem PotS.keep {p q k : Nat} {o : O} (h : PotS S p k) (hq : q ≠ p) : PotS (S.set q o) p k := by
  obtain ⟨a, b, c, h⟩ := h
  exact ⟨a, b, c, by rw [List.getElem?_set_ne hq]; exact h.at_, h.a0, h.b0, h.b1, h.c0, h.c1⟩
theorem PotS.app {p k : Nat} {T : Sto} (h : PotS S p k) : PotS (S ++ T) p k := by
  have hl := h.lt
  obtain ⟨a, b, c, h⟩ := h
  exact ⟨a, b, c, by rw [List.getElem?_append_left hl]; exact h.at_, h.a0, h.b0, h.b1, h.c0, h.c1⟩
theorem indexR {p i : Nat} {xs : List D} {d : D} (h : S[p]? = some (.lst xs)) (g : xs[i]? = some d) : indexD (.ref p) (.int (i : Int)) S = .ok d S := by
  simp only [indexD, seqOf, listOf, h, L2.atI_nat g]
theorem indexR0 {p : Nat} {a b c : D} (h : S[p]? = some (.lst [a, b, c])) : indexD (.ref p) (.int 0) S = .ok a S := indexR (i := 0) h rfl
theorem indexR1 {p : Nat} {a b c : D} (h : S[p]? = some (.lst [a, b, c])) : indexD (.ref p) (.int 1) S = .ok b S := indexR (i := 1) h rfl
theorem indexR2 {p : Nat} {a b c : D} (h : S[p]? = some (.lst [a, b, c])) : indexD (.ref p) (.int 2) S = .ok c S := indexR (i := 2) h rfl
theorem setR0 {p : Nat} {a b c d : D} (h : S[p]? = some (.lst [a, b, c])) : setO S (.ref p) (.int 0) d = some (S.set p (.lst [d, b, c])) := by
  simp [setO, h, L2.ixN]
theorem setR2 {p : Nat} {a b c d : D} (h : S[p]? = some (.lst [a, b, c])) : setO S (.ref p) (.int 2) d = some (S.set p (.lst [a, b, d])) := by
  simp [setO, h, L2.ixN]
theorem bop_mulI {i j : Int} (h : (-(2 ^ 64) < i ∧ i < 2 ^ 64) ∨ (-(2 ^ 64) < j ∧ j < 2 ^ 64)) (S : Sto) : bop .mul (.int i) (.int j) S = .ok (.int (i * j)) S := by
  have : mulOk i j = true := by
    simp only [mulOk, Bool.or_eq_true, Bool.and_eq_true, decide_eq_true_eq]
    exact .inl h
  simp only [bop, bopMul, this, if_true]
theorem bop_modI {i j : Int} (h : 0 < j) (S : Sto) : bop .mod (.int i) (.int j) S = .ok (.int (i % j)) S := by
  simp only [bop, bopInt, bopI, h, if_true]
theorem bop_fdivI {i j : Int} (h : 0 < j) (h2 : j < 2 ^ 62) (S : Sto) : bop .fdiv (.int i) (.int j) S = .ok (.int (i / j)) S := by
  have : j.natAbs.log2 < 9000 := by
    have h3 : j.natAbs < 2 ^ 62 := by omega
    have : j.natAbs.log2 < 62 := (Nat.log2_lt (by omega)).mpr h3
    omega
  simp only [bop, bopInt, bopI, h, this, and_self, if_true]
theorem p1_intI (i : Int) (S : Sto) : p1 .int (.int i) S = .ok (.int i) S := rfl
namespace F
def take (q1 q2 q3 q4 q5 : Int) : Fn := { name := "_law_take", names := ["pot", "upto", "digit", "prime", "blend"], pars := 2, body := [
    .ifs (.cmp .gt (.idx (.var 0) (.cst (.int 0))) (.cst (.int 0))) [.asg (.name 2) (.bin .mod (.prim .int (.idx (.var 0) (.cst (.int 0)))) (.var 1)), .seti (.var 0) (.cst (.int 0)) (.bin .fdiv (.idx (.var 0) (.cst (.int 0))) (.var 1)), .ret (.var 2)] [],
    .seti (.var 0) (.cst (.int 2)) (.bin .add (.idx (.var 0) (.cst (.int 2))) (.cst (.int 1))),
    .asg (.name 3) (.idx (.lst [.cst (.int 2147483647), .cst (.int 2147483629), .cst (.int 2147483587), .cst (.int 2147483579), .cst (.int 2147483563)]) (.bin .mod (.prim .int (.idx (.var 0) (.cst (.int 2)))) (.cst (.int 5)))),
    .asg (.name 4) (.bin .mod (.prim .int (.bin .pow (.prim .int (.bin .add (.bin .add (.idx (.var 0) (.cst (.int 1))) (.bin .mul (.bin .mul (.cst (.int q1)) (.idx (.var 0) (.cst (.int 2)))) (.idx (.var 0) (.cst (.int 2))))) (.cst (.int q2)))) (.cst (.int 3)))) (.var 3)),
    .asg (.name 4) (.bin .mod (.prim .int (.bin .mul (.var 4) (.bin .add (.bin .mod (.prim .int (.var 4)) (.cst (.int q3))) (.bin .mul (.cst (.int q4)) (.idx (.var 0) (.cst (.int 2))))))) (.cst (.int 2305843009213693907))),
    .ret (.bin .mod (.prim .int (.bin .fdiv (.var 4) (.cst (.int q5)))) (.var 1))] }
end F
theorem bits_le {x : Int} {n : Nat} (h0 : 0 ≤ x) (h : x < 2 ^ n) : Builtin.Int.intBits x ≤ n := by
  unfold Builtin.Int.intBits
  split
  · omega
  · rename_i hx
    have hx : x ≠ 0 := by simpa using hx
    have h3 : x.natAbs < 2 ^ n := by
      have e : ((2 ^ n : Nat) : Int) = 2 ^ n := by norm_cast
      omega
    have := (Nat.log2_lt (show x.natAbs ≠ 0 by omega)).mpr h3
    omega
theorem bop_pow3 {x : Int} (h0 : 0 ≤ x) (h : x < 2 ^ 1000) (S : Sto) : bop .pow (.int x) (.int 3) S = .ok (.int (x ^ 3)) S := by
  have h1 := bits_le h0 h
  have h2 : (0 : Int) ≤ 3 ∧ ((Builtin.Int.intBits x : Nat) : Int) * 3 ≤ 2 ^ 27 := ⟨by decide, by omega⟩
  simp only [bop, bopInt, bopI, h2, and_self, if_true]
  rfl
theorem primes {c : Int} (h : 0 ≤ c) (S : Sto) : ∃ pr : Int, indexD (.lst [.int 2147483647, .int 2147483629, .int 2147483587, .int 2147483579, .int 2147483563]) (.int (c % 5)) S = .ok (.int pr) S ∧ 0 < pr ∧ pr < 2 ^ 31 := by
  have h1 : c % 5 = 0 ∨ c % 5 = 1 ∨ c % 5 = 2 ∨ c % 5 = 3 ∨ c % 5 = 4 := by omega
  rcases h1 with e | e | e | e | e <;> rw [e]
  · exact ⟨_, indexD_lst (i := 0) rfl S, by decide, by decide⟩
  · exact ⟨_, indexD_lst (i := 1) rfl S, by decide, by decide⟩
  · exact ⟨_, indexD_lst (i := 2) rfl S, by decide, by decide⟩
  · exact ⟨_, indexD_lst (i := 3) rfl S, by decide, by decide⟩
  · exact ⟨_, indexD_lst (i := 4) rfl S, by decide, by decide⟩
/-- the draws' own numbers -/
def TakeOk (q1 q2 q3 q4 q5 : Int) : Prop := (0 ≤ q1 ∧ q1 < 2 ^ 30) ∧ (0 ≤ q2 ∧ q2 < 2 ^ 30) ∧ (0 < q3 ∧ q3 < 2 ^ 30) ∧ (0 ≤ q4 ∧ q4 < 2 ^ 30) ∧ (0 < q5 ∧ q5 < 2 ^ 30)
theorem take_ok {q1 q2 q3 q4 q5 : Int} (h : Has P "_law_take" (F.take q1 q2 q3 q4 q5)) (hq : TakeOk q1 q2 q3 q4 q5) {p k : Nat} {u : Int} (hp : PotS S p k) (hk : k < 2 ^ 40) (hu : 1 ≤ u) (hu2 : u < 2 ^ 60) (n : Nat) :
    ∃ d S', callF P (n + 1) "_law_take" [.ref p, .int u] S = .ok (.int d) S' ∧ 0 ≤ d ∧ d < u ∧ PotS S' p (k + 1) ∧ Only1 S S' p := by
  have hlt := hp.lt
  obtain ⟨a, b, c, hp⟩ := hp
  obtain ⟨⟨_, _⟩, ⟨_, _⟩, ⟨_, _⟩, ⟨_, _⟩, ⟨_, _⟩⟩ := hq
  have hc0 := hp.c0
  have hc1 := hp.c1
  have hb0 := hp.b0
  have hb1 := hp.b1
  rw [call_fn h n rfl]
  have i0 := indexR0 hp.at_
  have i2 := indexR2 hp.at_
  by_cases ha : 0 < a
  · refine ⟨a % u, S.set p (.lst [.int (a / u), .int b, .int c]), ?_, Int.emod_nonneg _ (by omega), Int.emod_lt_of_pos _ (by omega), ⟨a / u, b, c, by simp [hlt], Int.ediv_nonneg hp.a0 (by omega), hb0, hb1, hc0, by omega⟩, ⟨_, rfl⟩⟩
    simp [F.take, i0, ha, p1_intI, bop_modI (show 0 < u by omega), bop_fdivI (show 0 < u by omega) (show u < 2 ^ 62 by omega), setR0 hp.at_]
  · obtain ⟨S1, e1⟩ : ∃ S1, S1 = S.set p (.lst [.int a, .int b, .int (c + 1)]) := ⟨_, rfl⟩
    have g1 : S1[p]? = some (.lst [.int a, .int b, .int (c + 1)]) := by rw [e1]; simp [hlt]
    have s2 := setR2 (d := .int (c + 1)) hp.at_
    rw [← e1] at s2
    have j1 := indexR1 g1
    have j2 := indexR2 g1
    obtain ⟨pr, e2, p0, p1⟩ := primes (c := c + 1) (by omega) S1
    have hc3 : 0 ≤ (c + 1) * (c + 1) := Int.mul_nonneg (by omega) (by omega)
    have hc5 : q1 * (c + 1) * (c + 1) = q1 * ((c + 1) * (c + 1)) := Int.mul_assoc ..
    have hc4 : (c + 1) * (c + 1) < 2 ^ 84 := by
      have : (c + 1) * (c + 1) ≤ 2 ^ 41 * 2 ^ 41 := Int.mul_le_mul (by omega) (by omega) (by omega) (by decide)
      omega
    have hm0 : 0 ≤ q1 * (c + 1) * (c + 1) := by rw [hc5]; exact Int.mul_nonneg (by assumption) hc3
    have hm1 : q1 * (c + 1) * (c + 1) ≤ 2 ^ 30 * 2 ^ 84 := by rw [hc5]; exact Int.mul_le_mul (by omega) (by omega) hc3 (by decide)
    have m1 := bop_mulI (i := q1) (j := c + 1) (.inl ⟨by omega, by omega⟩) S1
    have m2 := bop_mulI (i := q1 * (c + 1)) (j := c + 1) (.inr ⟨by omega, by omega⟩) S1
    obtain ⟨x, ex⟩ : ∃ x, x = b + q1 * (c + 1) * (c + 1) + q2 := ⟨_, rfl⟩
    have x0 : 0 ≤ x := by omega
    have x1 : x < 2 ^ 1000 := by
      have : (2 : Int) ^ 120 ≤ 2 ^ 1000 := by decide
      omega
    have w1 := bop_pow3 x0 x1 S1
    have w2 := bop_modI (i := x ^ 3) p0 S1
    obtain ⟨y, ey⟩ : ∃ y, y = x ^ 3 % pr := ⟨_, rfl⟩
    rw [← ey] at w2
    have y0 : 0 ≤ y := by rw [ey]; exact Int.emod_nonneg _ (by omega)
    have y1 : y < pr := by rw [ey]; exact Int.emod_lt_of_pos _ p0
    have w3 := bop_modI (i := y) (show 0 < q3 by assumption) S1
    have m3 := bop_mulI (i := q4) (j := c + 1) (.inl ⟨by omega, by omega⟩) S1
    have m4 := bop_mulI (i := y) (j := y % q3 + q4 * (c + 1)) (.inl ⟨by omega, by omega⟩) S1
    obtain ⟨z, ez⟩ : ∃ z, z = y * (y % q3 + q4 * (c + 1)) := ⟨_, rfl⟩
    rw [← ez] at m4
    have w4 := bop_modI (i := z) (j := 2305843009213693907) (by decide) S1
    have w5 := bop_fdivI (i := z % 2305843009213693907) (show 0 < q5 by assumption) (by omega) S1
    have w6 := bop_modI (i := z % 2305843009213693907 / q5) (show 0 < u by omega) S1
    have w7 := bop_modI (i := c + 1) (j := 5) (by decide) S1
    refine ⟨z % 2305843009213693907 / q5 % u, S1, ?_, Int.emod_nonneg _ (by omega), Int.emod_lt_of_pos _ (by omega), ⟨a, b, c + 1, g1, hp.a0, hb0, hb1, by omega, by omega⟩, ⟨_, e1⟩⟩
    simp [F.take, i0, ha, i2, s2, p1_intI, j1, j2, w7, e2, m1, m2, ← ex, w1, w2, w3, m3, m4, w4, w5, w6, show (5 : Nat) ≤ sizeLine from by have := sizeLine_big; omega]
end DL
set_option Elab.async false
set_option linter.all false
set_option maxRecDepth 100000
set_option maxHeartbeats 4000000
/-! PL4: more draws; the law's own looks -/
namespace DL
open PySem
variable {P : Prg} {S : Sto}
namespace F
def of : Fn := { name := "_law_of", names := ["pot", "some"], pars := 2, body := [
    .ret (.idx (.var 1) (.call "_law_take" [.var 0, .prim .len (.var 1)]))] }
def cellsOf (x : Str) (ns : List Str) : Fn := { name := x, names := ns, pars := 2, body := [
    .ret (.rgs false (.irange1 (.max2 (.cst (.int 1)) (.min2 (.var 1) (.prim .len (.var 0))))))] }
abbrev cells : Fn := cellsOf "_law_cells" ["script", "limit"]
abbrev places : Fn := cellsOf "_law_places" ["script", "most"]
def odd : Fn := { name := "_law_odd", names := ["pot", "some"], pars := 1, body := [
    .asg (.name 1) (.lst [.cst .non, .cst (.bl true), .cst (.bl false), .cst (.int 0), .cst (.int 1), .neg (.cst (.int 1)), .cst (.int 2), .cst (.int 201), .cst (.str ""), .cst (.str "a"), .cst (.str "office"), .cst (.str "never"), .tup [], .lst [], .tup [.cst (.int 0)], .tup [.tup []], .lst [.cst (.int 1)], .tup [.cst (.bl true)]]),
    .asg (.name 1) (.bin .add (.var 1) (.lst [.tup [.cst (.str "a")], .tup [.cst (.int 0), .tup []], .tup [.cst (.int 7)], .tup [.cst (.int 0), .lst [.cst (.int 0)]], .tup [.cst (.int 1), .cst (.int 1), .tup []], .tup [.cst (.int 1), .tup [], .tup [.cst (.int 0)]], .tup [.cst .non, .tup []], .cst (.str "office 1 1"), .bin .pow (.cst (.int 10)) (.cst (.int 20))])),
    .ret (.call "_law_of" [.var 0, .var 1])] }
def pot (r1 r2 r3 r4 r5 : Int) : Fn := { name := "_law_pot", names := ["script", "place", "cell", "own", "small"], pars := 2, body := [
    .asg (.name 2) (.ite (.cmp .lt (.var 1) (.prim .len (.var 0))) (.idx (.var 0) (.var 1)) (.bin .add (.bin .add (.bin .mod (.prim .sum (.sl (.var 0) .nil (.cst (.int 1)))) (.cst (.int 1000003))) (.bin .mul (.cst (.int r1)) (.var 1))) (.cst (.int r2)))),
    .asg (.name 3) (.bin .mul (.bin .mod (.prim .int (.prim .abs (.var 2))) (.bin .pow (.bin .pow (.cst (.int 10)) (.cst (.int 60))) (.cst (.int 5)))) (.prim .int (.cmp .ge (.prim .abs (.var 2)) (.bin .pow (.cst (.int 10)) (.cst (.int 18)))))),
    .asg (.name 4) (.bin .mod (.prim .int (.var 2)) (.cst (.int 2305843009213693951))),
    .ret (.thaw (.lst [.var 3, .bin .mod (.prim .int (.bin .add (.bin .add (.bin .mul (.var 4) (.cst (.int r3))) (.bin .mul (.bin .mul (.cst (.int r4)) (.var 1)) (.var 1))) (.cst (.int r5)))) (.cst (.int 2305843009213693921)), .cst (.int 0)]))] }
def law_is_int : Fn := { name := "_law_is_int", names := ["value", "low", "high"], pars := 3, body := [
    .ret (.and (.isi (.var 0) "int") (.and (.not (.isi (.var 0) "bool")) (.chain .le .le (.var 1) (.var 0) (.var 2))))] }
end F
theorem le_size {k : Nat} (h : k ≤ 1000000) : k ≤ sizeLine := Nat.le_trans h sizeLine_big
theorem bop_addL {xs ys : List D} (h : xs.length + ys.length ≤ 1000000) (S : Sto) : bop .add (.lst xs) (.lst ys) S = .ok (.lst (xs ++ ys)) S := by
  simp only [bop, bopAdd, addLst, listOf_lst, le_size h, if_true]
theorem bop_addT {xs ys : List D} (h : xs.length + ys.length ≤ 1000000) (S : Sto) : bop .add (.tup xs) (.tup ys) S = .ok (.tup (xs ++ ys)) S := by
  simp only [bop, bopAdd, le_size h, if_true]
/-- the draws of a law -/
structure Draws (P : Prg) : Prop where
  take : ∃ q1 q2 q3 q4 q5, Has P "_law_take" (F.take q1 q2 q3 q4 q5) ∧ TakeOk q1 q2 q3 q4 q5
  of : Has P "_law_of" F.of
theorem draw {p k : Nat} {u : Int} (h : Draws P) (hp : PotS S p k) (hk : k < 2 ^ 40) (hu : 1 ≤ u) (hu2 : u < 2 ^ 60) (n : Nat) :
    ∃ d S', leave S.length (callF P (n + 1) "_law_take" [.ref p, .int u] S) = .ok (.int d) S' ∧ 0 ≤ d ∧ d < u ∧ PotS S' p (k + 1) ∧ Only1 S S' p := by
  obtain ⟨q1, q2, q3, q4, q5, h1, h2⟩ := h.take
  obtain ⟨d, S', e, a, b, c, o⟩ := take_ok h1 h2 hp hk hu hu2 n
  exact ⟨d, S', by rw [e]; exact leave_len o.len rfl, a, b, c, o⟩
theorem pure_mem {xs : List D} (h : pureL xs = true) {d : D} (hd : d ∈ xs) : d.pure = true := by
  rw [pureL_eq] at h
  exact List.all_eq_true.mp h d hd
theorem draw_of {p k : Nat} {xs : List D} (h : Draws P) (hp : PotS S p k) (hk : k < 2 ^ 40) (hx : xs ≠ []) (hpu : pureL xs = true) (hx2 : xs.length ≤ 1000000) (n : Nat) :
    ∃ d S', d ∈ xs ∧ leave S.length (callF P (n + 2) "_law_of" [.ref p, .lst xs] S) = .ok d S' ∧ PotS S' p (k + 1) ∧ Only1 S S' p := by
  have hpos : 0 < xs.length := List.length_pos_iff.mpr hx
  obtain ⟨d, S', e, a, b, c, o⟩ := draw (u := xs.length) h hp hk (by omega) (by omega) n
  obtain ⟨i, rfl⟩ : ∃ i : Nat, d = (i : Int) := ⟨d.toNat, by omega⟩
  have hi : i < xs.length := by omega
  refine ⟨xs[i], S', List.getElem_mem hi, ?_, c, o⟩
  rw [call_fn h.of (n + 1) rfl]
  have e2 := indexD_lst (List.getElem?_eq_getElem hi) S'
  have e3 : leave S.length (.ok xs[i] S') = .ok xs[i] S' := leave_len o.len (pure_mem hpu (List.getElem_mem hi))
  have e4 : p1 .len (.lst xs) S = .ok (.int xs.length) S := by simp [p1]
  simp [F.of, e, e2, e4, e3]
/-! ### how long a text is -/
mutual
/-- a bound of its text's length -/
def D.wt : D → Nat
  | .str x => 12 * x.length + 12
  | .tup xs => 3 + wtL xs
  | .lst xs => 3 + wtL xs
  | _ => 1921
def wtL : List D → Nat
  | [] => 0
  | x :: xs => x.wt + 2 + wtL xs
end
/-- a value whose text can be had -/
def okB (b k : Nat) (d : D) : Bool := d.pure && d.toP.showable && d.toP.canLay0 && decide (d.toP.depth ≤ k) && decide (d.wt ≤ b)
structure Ok (b k : Nat) (d : D) : Prop where
  pure : d.pure = true
  show_ : d.toP.showable = true
  lay : d.toP.canLay0 = true
  dep : d.toP.depth ≤ k
  wt : d.wt ≤ b
theorem ok_of {b k : Nat} {d : D} (h : okB b k d = true) : Ok b k d := by
  simp only [okB, Bool.and_eq_true, decide_eq_true_eq] at h
  exact ⟨h.1.1.1.1, h.1.1.1.2, h.1.1.2, h.1.2, h.2⟩
theorem Ok.mono {b k b' k' : Nat} {d : D} (h : Ok b k d) (hb : b ≤ b') (hk : k ≤ k') : Ok b' k' d := ⟨h.pure, h.show_, h.lay, Nat.le_trans h.dep hk, Nat.le_trans h.wt hb⟩
def oddL : List D := [.non, .bl true, .bl false, .int 0, .int 1, .int (-1), .int 2, .int 201, .str "", .str "a", .str "office", .str "never", .tup [], .lst [], .tup [.int 0], .tup [.tup []], .lst [.int 1], .tup [.bl true],
  .tup [.str "a"], .tup [.int 0, .tup []], .tup [.int 7], .tup [.int 0, .lst [.int 0]], .tup [.int 1, .int 1, .tup []], .tup [.int 1, .tup [], .tup [.int 0]], .tup [.non, .tup []], .str "office 1 1", .int 100000000000000000000]
theorem oddL_ok : ∀ d ∈ oddL, Ok 10000 8 d := fun d hd => ok_of (List.all_eq_true.mp (show oddL.all (okB 10000 8) = true by decide +kernel) d hd)
theorem draw_odd {p k : Nat} (h : Draws P) (ho : Has P "_law_odd" F.odd) (hp : PotS S p k) (hk : k < 2 ^ 40) (n : Nat) :
    ∃ d S', d ∈ oddL ∧ leave S.length (callF P (n + 3) "_law_odd" [.ref p] S) = .ok d S' ∧ PotS S' p (k + 1) ∧ Only1 S S' p := by
  obtain ⟨d, S', hd, e, c, o⟩ := draw_of (xs := oddL) h hp hk (by simp [oddL]) (by decide +kernel) (by decide) n
  refine ⟨d, S', hd, ?_, c, o⟩
  rw [call_fn ho (n + 2) rfl]
  have e2 : leave S.length (.ok d S') = .ok d S' := leave_len o.len (oddL_ok d hd).pure
  have e3 : bop .pow (.int 10) (.int 20) S = .ok (.int 100000000000000000000) S := by rfl
  unfold oddL at e
  simp [F.odd, le_size, e3, bop_addL, e, e2]
end DL
set_option Elab.async false
set_option linter.all false
set_option maxRecDepth 100000
set_option maxHeartbeats 4000000
/-! PL5: drawn offices; a law's own look at offices -/
namespace DL
open PySem
variable {P : Prg} {S : Sto}
namespace F
def law_office : Fn := { name := "_law_office", names := ["pot", "moods", "slips", "rules", "many", "kinds", "found", "lap", "put", "turn"], pars := 4, body := [
    .asg (.tup [.name 4, .name 5, .name 6]) (.tup [.bin .add (.cst (.int 1)) (.call "_law_take" [.var 0, .var 1]), .bin .add (.cst (.int 1)) (.call "_law_take" [.var 0, .var 2]), .thaw (.lst [])]),
    .for (.name 7) (.irange1 (.call "_law_take" [.var 0, .bin .add (.var 3) (.cst (.int 1))])) [.asg (.name 8) (.prim .tuple (.lc (.call "_law_take" [.var 0, .var 5]) (.name 9) [9] (.irange1 (.call "_law_of" [.var 0, .lst [.cst (.int 0), .cst (.int 0), .cst (.int 1), .cst (.int 1), .cst (.int 2), .cst (.int 2)]])) [])), .app (.var 6) (.tup [.call "_law_take" [.var 0, .var 4], .call "_law_take" [.var 0, .var 5], .call "_law_take" [.var 0, .var 4], .var 8])],
    .ret (.tup [.var 4, .var 5, .prim .tuple (.prim .sorted (.prim .set (.var 6)))])] }
end F
theorem irg_nat (m : Int) (h : m < 2 ^ 62) (h0 : 0 ≤ m) (S : Sto) : irgR (.int 0) (.int m) S = .ok (.fixed ((List.range m.toNat).map fun k : Nat => .int (k : Int))) S := by
  have : -(2 ^ 62) ≤ (0 : Int) ∧ (0 : Int) < 2 ^ 62 ∧ -(2 ^ 62) ≤ m ∧ m < 2 ^ 62 := ⟨by decide, by decide, by omega, h⟩
  simp only [irgR, rangeD, this, and_self, if_true]
  simp
/-- draws, one for each turn of a comprehension -/
theorem lc_draws {p k : Nat} {u : Int} (h : Draws P) (hp : PotS S p k) (hu : 1 ≤ u) (hu2 : u < 2 ^ 60) (n : Nat) {xs : List D} (hk : k + xs.length < 2 ^ 40) (hx : xs.length ≤ 1000000) {elt : E} {ρ : Env} {i : Nat} {b : D → Env} (hb : ∀ x ∈ xs, bindT (.name i) x ρ = some (b x))
    (he : ∀ x ∈ xs, ∀ S, evE (cfgAt P (n + 1)) elt (b x) S = leave S.length (callF P (n + 1) "_law_take" [.ref p, .int u] S)) :
    ∃ (ns : List Int) (S' : Sto), lcRun (cfgAt P (n + 1)) elt (.name i) [] ρ (.fixed xs) S = .ok (ns.map .int) S' ∧ ns.length = xs.length ∧ (∀ j ∈ ns, 0 ≤ j ∧ j < u) ∧ PotS S' p (k + xs.length) ∧ Only1 S S' p := by
  have hm := hp.lt
  obtain ⟨ys, S', e, ⟨ns, e1, h1, h2, h3⟩, hl⟩ := compL_ex (tg := .name i) (cond := evC (cfgAt P (n + 1)) []) (elt := evE (cfgAt P (n + 1)) elt) (ρ := ρ) (b := b)
    (fun acc rest T => ∃ ns : List Int, acc = ns.map .int ∧ (∀ j ∈ ns, 0 ≤ j ∧ j < u) ∧ PotS T p (k + ns.length) ∧ Only1 S T p ∧ ns.length + rest.length = xs.length ∧ ∀ x ∈ rest, x ∈ xs) (xs := xs) (acc := []) (S := S)
    ⟨[], rfl, fun j h => (by cases h), hp, Only1.refl S p hm, by simp, fun x h => h⟩ hb (fun ρ S => by simp) (fun acc x rest T ⟨ns, e1, h1, h2, h3, h4, h5⟩ => by
      rw [List.length_cons] at h4
      obtain ⟨d, S', e, a1, a2, a3, a4⟩ := draw h h2 (by omega) hu hu2 n
      refine ⟨.int d, S', by rw [he x (h5 x (List.mem_cons_self ..)), e], d :: ns, by rw [e1]; rfl, fun j hj => ?_, by simpa [Nat.add_assoc] using a3, h3.trans a4, by rw [List.length_cons]; omega, fun y hy => h5 y (List.mem_cons_of_mem _ hy)⟩
      rcases List.mem_cons.mp hj with rfl | hj
      · exact ⟨a1, a2⟩
      · exact h1 j hj) (by simpa using le_size hx)
  refine ⟨ns.reverse, S', ?_, ?_, fun j hj => h1 j (List.mem_reverse.mp hj), ?_, h3.1⟩
  · rw [List.map_reverse, ← e1]; exact e
  · rw [List.length_reverse]; have := h3.2.1; simpa using this
  · have := h3.2.1
    simp only [List.length_nil, Nat.add_zero] at this
    rw [← this]; exact h2

/-- the tools of sets and sorting, in plain data -/
theorem sortable_rules {m s : Int} {rs : List D} (h : ∀ r ∈ rs, isRuleB r m s = true) : sortable rs = true := by
  simp only [sortable, Bool.and_eq_true, Bool.or_eq_true, List.all_eq_true]
  refine ⟨fun x hx y hy => ?_, .inl fun x hx => ?_⟩
  · obtain ⟨a, b, c, xs, rfl, _⟩ := isRule_form (h x hx)
    obtain ⟨a', b', c', xs', rfl, _⟩ := isRule_form (h y hy)
    exact rule_alike ..
  · obtain ⟨a, b, c, xs, rfl, _⟩ := isRule_form (h x hx)
    rfl
theorem setable_rules {m s : Int} {rs : List D} (h : ∀ r ∈ rs, isRuleB r m s = true) (hl : rs.length < 64) : setable rs = true := by
  rw [setable, Bool.or_eq_true]
  left
  simp only [setableT, Bool.and_eq_true, List.all_eq_true, decide_eq_true_eq]
  refine ⟨fun x hx => ?_, hl⟩
  obtain ⟨a, b, c, xs, rfl, _⟩ := isRule_form (h x hx)
  refine ⟨⟨rfl, rule_key ..⟩, ?_⟩
  have := ints_depth xs
  simp only [ruleD, D.toP, toPL, PyData.depth, PyData.depthAll]
  omega
theorem tup_okP {rs : List D} {k : Nat} (h : ∀ r ∈ rs, r.toP.canLay0 = true ∧ r.toP.depth ≤ k) (hk : k < 60) : okP (.tup rs) = true := by
  have h1 : PyData.canLayAll0 (toPL rs) = true := by
    induction rs with
    | nil => simp only [toPL, PyData.canLayAll0]
    | cons r rs ih => simp only [toPL, PyData.canLayAll0, (h r (List.mem_cons_self ..)).1, ih fun x hx => h x (List.mem_cons_of_mem _ hx), Bool.and_self]
  have h2 : PyData.depthAll (toPL rs) ≤ k := by
    clear h1
    induction rs with
    | nil => simp only [toPL, PyData.depthAll]; omega
    | cons r rs ih =>
      have a := (h r (List.mem_cons_self ..)).2
      have b := ih fun x hx => h x (List.mem_cons_of_mem _ hx)
      simp only [toPL, PyData.depthAll]
      omega
  simp only [okP, D.toP, PyData.canLay0, h1, PyData.depth, Bool.true_and, decide_eq_true_eq]
  omega
theorem lst_okP {rs : List D} (h : okP (.tup rs) = true) : okP (.lst rs) = true := by
  simpa only [okP, D.toP, PyData.canLay0, PyData.depth] using h
theorem rule_dep {m s : Int} {r : D} (h : isRuleB r m s = true) : r.toP.canLay0 = true ∧ r.toP.depth ≤ 2 := by
  obtain ⟨a, b, c, xs, rfl, _⟩ := isRule_form h
  have := ints_depth xs
  refine ⟨?_, ?_⟩
  · have := rule_okP a b c xs
    simp only [okP, Bool.and_eq_true] at this
    exact this.1
  · simp only [ruleD, D.toP, toPL, PyData.depth, PyData.depthAll]
    omega
theorem rules_okP {m s : Int} {rs : List D} (h : ∀ r ∈ rs, isRuleB r m s = true) : okP (.tup rs) = true := tup_okP (fun r hr => rule_dep (h r hr)) (by decide)
theorem rules_pure {m s : Int} {rs : List D} (h : ∀ r ∈ rs, isRuleB r m s = true) : pureL rs = true := by
  rw [pureL_eq, List.all_eq_true]
  intro r hr
  obtain ⟨a, b, c, xs, rfl, _⟩ := isRule_form (h r hr)
  exact rule_pure ..
theorem rule_keyable {m s : Int} {r : D} (h : isRuleB r m s = true) : r.keyable = true := by
  obtain ⟨a, b, c, xs, rfl, _⟩ := isRule_form h
  exact rule_key ..
theorem rule_alikes {m s m' s' : Int} {x y : D} (hx : isRuleB x m s = true) (hy : isRuleB y m' s' = true) : alikeD x y = true := by
  obtain ⟨a, b, c, xs, rfl, _⟩ := isRule_form hx
  obtain ⟨a', b', c', xs', rfl, _⟩ := isRule_form hy
  exact rule_alike ..
theorem dedup_memK : ∀ (xs seen : List D), (∀ x ∈ seen, x.keyable = true) → (∀ x ∈ xs, x.keyable = true) → ∀ y, y ∈ dedup seen xs ↔ y ∈ seen ∨ y ∈ xs
  | [], seen, _, _, y => by simp [dedup]
  | x :: xs, seen, hs, hx, y => by
    have hx0 := hx x (List.mem_cons_self ..)
    have hx1 : ∀ y ∈ xs, y.keyable = true := fun y h => hx y (List.mem_cons_of_mem _ h)
    simp only [dedup]
    split
    · rename_i h
      obtain ⟨w, hw, e⟩ := List.any_eq_true.mp h
      obtain rfl := (eqD_key w x (hs w hw) hx0).mp e
      rw [dedup_memK xs seen hs hx1 y, List.mem_cons]
      exact ⟨fun h => h.elim .inl fun h => .inr (.inr h), fun h => h.elim .inl fun h => h.elim (fun h => .inl (h ▸ hw)) .inr⟩
    · rw [dedup_memK xs (x :: seen) (fun z hz => (List.mem_cons.mp hz).elim (fun e => e ▸ hx0) (hs z)) hx1 y, List.mem_cons, List.mem_cons]
      exact ⟨fun h => h.elim (fun h => h.elim (fun h => .inr (.inl h)) .inl) fun h => .inr (.inr h), fun h => h.elim (fun h => .inl (.inr h)) fun h => h.elim (fun h => .inl (.inl h)) .inr⟩
theorem dedup_nodupK : ∀ (xs seen : List D), (∀ x ∈ seen, x.keyable = true) → (∀ x ∈ xs, x.keyable = true) → seen.Nodup → (dedup seen xs).Nodup
  | [], seen, _, _, h => by simp only [dedup]; exact (List.reverse_perm seen).nodup_iff.mpr h
  | x :: xs, seen, hs, hx, h => by
    have hx0 := hx x (List.mem_cons_self ..)
    have hx1 : ∀ y ∈ xs, y.keyable = true := fun y h => hx y (List.mem_cons_of_mem _ h)
    simp only [dedup]
    split
    · exact dedup_nodupK xs seen hs hx1 h
    · rename_i hn
      refine dedup_nodupK xs (x :: seen) (fun z hz => (List.mem_cons.mp hz).elim (fun e => e ▸ hx0) (hs z)) hx1 (List.nodup_cons.mpr ⟨fun hm => hn ?_, h⟩)
      exact List.any_eq_true.mpr ⟨x, hm, (eqD_key x x hx0 hx0).mpr rfl⟩
theorem dedup_len : ∀ (xs seen : List D), (dedup seen xs).length ≤ seen.length + xs.length
  | [], seen => by simp [dedup]
  | x :: xs, seen => by
    simp only [dedup]
    split
    · have := dedup_len xs seen
      rw [List.length_cons]; omega
    · have := dedup_len xs (x :: seen)
      rw [List.length_cons] at *; omega
/-- strictly ascending, pair by pair -/
theorem rising_pairwise : ∀ {rs : List D}, risingB rs = true ↔ rs.Pairwise fun x y => ltD x y = true
  | [] => by simp [risingB]
  | [x] => by simp [risingB]
  | x :: y :: r => by
    have ih := rising_pairwise (rs := y :: r)
    simp only [risingB, Bool.and_eq_true, ih, List.pairwise_cons]
    refine ⟨fun ⟨h1, h2, h3⟩ => ⟨fun z hz => ?_, h2, h3⟩, fun ⟨h1, h2⟩ => ⟨h1 y (List.mem_cons_self ..), h2⟩⟩
    rcases List.mem_cons.mp hz with rfl | hz
    · exact h1
    · exact ltD_trans h1 (h2 z hz)
/-- what sorted(set(..)) tells is strictly ascending -/
theorem sorted_rising {rs : List D} (hk : ∀ x ∈ rs, x.keyable = true) (ha : ∀ x ∈ rs, ∀ y ∈ rs, alikeD x y = true) : risingB (sortD (dedup [] rs)) = true := by
  have mem : ∀ y, y ∈ dedup [] rs ↔ y ∈ rs := fun y => by rw [dedup_memK rs [] (fun x h => by cases h) hk y]; simp
  have nd : (dedup [] rs).Nodup := dedup_nodupK rs [] (fun x h => by cases h) hk List.nodup_nil
  have nd2 : (sortD (dedup [] rs)).Nodup := (sortD_perm _).nodup_iff.mpr nd
  refine rising_pairwise.mpr ?_
  have hp := sortD_pairwise (dedup [] rs)
  refine (List.Pairwise.and hp nd2).imp_of_mem fun {x y} hx hy ⟨h1, h2⟩ => ?_
  have mx := (mem x).mp ((sortD_perm _).mem_iff.mp hx)
  have my := (mem y).mp ((sortD_perm _).mem_iff.mp hy)
  cases e : ltD x y with
  | true => rfl
  | false => exact absurd (ltD_key (hk x mx) (hk y my) (ha x mx y my) e h1) h2
theorem dedup_self : ∀ {xs seen : List D}, (∀ x ∈ seen, x.keyable = true) → (∀ x ∈ xs, x.keyable = true) → (seen.reverse ++ xs).Nodup → dedup seen xs = seen.reverse ++ xs
  | [], seen, _, _, _ => by simp [dedup]
  | x :: xs, seen, hs, hx, h => by
    have hx0 := hx x (List.mem_cons_self ..)
    have hn : (seen.any fun y => eqD y x) = false := by
      rw [Bool.eq_false_iff]
      intro e
      obtain ⟨w, hw, e⟩ := List.any_eq_true.mp e
      obtain rfl := (eqD_key w x (hs w hw) hx0).mp e
      have := (List.nodup_append.mp h).2.2
      exact this w (List.mem_reverse.mpr hw) w (List.mem_cons_self ..) rfl
    simp only [dedup, hn, Bool.false_eq_true, if_false]
    rw [dedup_self (fun z hz => (List.mem_cons.mp hz).elim (fun e => e ▸ hx0) (hs z)) (fun y hy => hx y (List.mem_cons_of_mem _ hy)) (by simpa using h)]
    simp
theorem rising_nodup {rs : List D} (h : risingB rs = true) : rs.Nodup := by
  refine (rising_pairwise.mp h).imp fun {x y} hlt e => ?_
  subst e
  rw [ltD_irrefl] at hlt
  cases hlt
theorem sorted_self {rs : List D} (h : risingB rs = true) (hk : ∀ x ∈ rs, x.keyable = true) : sortD (dedup [] rs) = rs := by
  rw [dedup_self (fun x h => by cases h) hk (by simpa using rising_nodup h)]
  simp only [List.reverse_nil, List.nil_append]
  rw [sortD_ms]
  refine List.mergeSort_of_pairwise ((rising_pairwise.mp h).imp fun {x y} hlt => ?_)
  rw [dle_eq]
  cases e : ltD y x with
  | false => rfl
  | true =>
    have := ltD_trans hlt e
    rw [ltD_irrefl] at this
    cases this
/-- a strictly ascending row is what sorted(set(..)) tells of it, and only such a row -/
theorem sorted_iff {rs : List D} (hk : ∀ x ∈ rs, x.keyable = true) (ha : ∀ x ∈ rs, ∀ y ∈ rs, alikeD x y = true) : sortD (dedup [] rs) = rs ↔ risingB rs = true :=
  ⟨fun e => by rw [← e]; exact sorted_rising hk ha, fun h => sorted_self h hk⟩
end DL
set_option Elab.async false
set_option linter.all false
set_option maxRecDepth 100000
set_option maxHeartbeats 4000000
/-! PL6: drawn offices -/
namespace DL
open PySem
variable {P : Prg} {S : Sto}
/-- plain lists alone stand in the store -/
def SP (S : Sto) : Prop := ∀ o ∈ S, ∃ xs, o = .lst xs ∧ pureL xs = true
theorem lowL_pure (n : Nat) {xs : List D} (h : pureL xs = true) : lowL n xs = true := lowL_of_pure n xs h
theorem SP.low {S : Sto} (h : SP S) (n : Nat) : stoLow n S = true := by
  unfold stoLow
  rw [List.all_eq_true]
  intro o ho
  obtain ⟨xs, rfl, hx⟩ := h o ho
  exact lowL_pure n hx
theorem SP.take {S : Sto} (h : SP S) (n : Nat) : SP (S.take n) := fun o ho => h o (List.mem_of_mem_take ho)
theorem SP.nil : SP [] := fun o h => by cases h
theorem leave_take {d : D} {S S' : Sto} (hd : d.pure = true) (hS : SP (S'.take S.length)) : leave S.length (.ok d S') = .ok d (S'.take S.length) := by
  have h1 := D.low_of_pure S.length d hd
  have h2 := hS.low S.length
  simp only [leave, h1, h2, if_true]
theorem SP.only {S S' : Sto} {p k : Nat} (h : SP S) (o : Only1 S S' p) (hp : PotS S' p k) : SP S' := by
  intro x hx
  obtain ⟨j, hj⟩ := List.mem_iff_getElem?.mp hx
  by_cases e : j = p
  · subst e
    obtain ⟨a, b, c, hp⟩ := hp
    rw [hp.at_] at hj
    cases hj
    exact ⟨_, rfl, rfl⟩
  · rw [o.get e] at hj
    exact h x (List.mem_of_getElem? hj)
/-- but for places p and q the store is as it was -/
structure Two (S T : Sto) (p q : Nat) : Prop where
  len : T.length = S.length
  get : ∀ j, j ≠ p → j ≠ q → T[j]? = S[j]?
theorem Two.refl (S : Sto) (p q : Nat) : Two S S p q := ⟨rfl, fun _ _ _ => rfl⟩
theorem Two.only {S T T' : Sto} {p q : Nat} (h : Two S T p q) (o : Only1 T T' p) : Two S T' p q := ⟨o.len.trans h.len, fun j h1 h2 => (o.get h1).trans (h.get j h1 h2)⟩
theorem Two.set {S T : Sto} {p q : Nat} {o : O} (h : Two S T p q) : Two S (T.set q o) p q := ⟨by rw [List.length_set]; exact h.len, fun j h1 h2 => by rw [List.getElem?_set_ne (Ne.symm h2)]; exact h.get j h1 h2⟩
theorem Only1.app {S T : Sto} {p : Nat} {U : Sto} (o : Only1 S T p) (hp : p < S.length) : Only1 (S ++ U) (T ++ U) p := by
  obtain ⟨x, rfl⟩ := o
  exact ⟨x, by rw [List.set_append_left _ _ hp]⟩
/-- the callee's own list is dropped -/
theorem Two.drop {S T : Sto} {p : Nat} {o : O} (h : Two (S ++ [o]) T p S.length) (hp : p < S.length) : Only1 S (T.take S.length) p := by
  have hl := h.len
  rw [List.length_append, List.length_singleton] at hl
  have hpT : p < T.length := by omega
  refine ⟨T[p], List.ext_getElem? fun j => ?_⟩
  by_cases hj : j < S.length
  · rw [List.getElem?_take_of_lt hj]
    by_cases e : j = p
    · subst e
      rw [List.getElem?_set_self (by simpa using hj), List.getElem?_eq_getElem hpT]
    · rw [List.getElem?_set_ne (Ne.symm e), h.get j e (by omega), List.getElem?_append_left hj]
  · rw [List.getElem?_eq_none (by rw [List.length_take]; omega), List.getElem?_eq_none (by rw [List.length_set]; omega)]
theorem PotS.take {S : Sto} {p k n : Nat} (h : PotS S p k) (hp : p < n) : PotS (S.take n) p k := by
  obtain ⟨a, b, c, h⟩ := h
  exact ⟨a, b, c, by rw [List.getElem?_take_of_lt hp]; exact h.at_, h.a0, h.b0, h.b1, h.c0, h.c1⟩
theorem appO_at {S : Sto} {q : Nat} {xs : List D} {v : D} (h : S[q]? = some (.lst xs)) (hl : xs.length < 1000000) : appO S (.ref q) v = some (S.set q (.lst (xs ++ [v]))) := by
  have : xs.length < sizeLine := by have := sizeLine_big; omega
  simp only [appO, h, this, if_true]
theorem seqOf_ref {S : Sto} {q : Nat} {xs : List D} (h : S[q]? = some (.lst xs)) : seqOf S (.ref q) = some xs := by simp only [seqOf, listOf, h]
theorem p1_set {S : Sto} {a : D} {xs : List D} (h : seqOf S a = some xs) (hs : setable xs = true) : p1 .set a S = .ok (.set (dedup [] xs)) S := by
  simp only [p1, h, hs, if_true]
theorem p1_sortedSet {S : Sto} {xs : List D} (h1 : sortable xs = true) (h2 : okP (.tup xs) = true) : p1 .sorted (.set xs) S = .ok (.lst (sortD xs)) S := by
  simp only [p1, h1, h2, Bool.and_self, if_true]
@[simp] theorem p1_tupleL (xs : List D) (S : Sto) : p1 .tuple (.lst xs) S = .ok (.tup xs) S := rfl
@[simp] theorem p1_tupleT (xs : List D) (S : Sto) : p1 .tuple (.tup xs) S = .ok (.tup xs) S := rfl
@[simp] theorem p1_listL (xs : List D) (S : Sto) : p1 .list (.lst xs) S = .ok (.lst xs) S := rfl
@[simp] theorem p1_listT (xs : List D) (S : Sto) : p1 .list (.tup xs) S = .ok (.lst xs) S := rfl
@[simp] theorem p1_lenT (xs : List D) (S : Sto) : p1 .len (.tup xs) S = .ok (.int xs.length) S := rfl
@[simp] theorem p1_lenL (xs : List D) (S : Sto) : p1 .len (.lst xs) S = .ok (.int xs.length) S := rfl
theorem puts_in {d : D} (h : d ∈ [D.int 0, .int 0, .int 1, .int 1, .int 2, .int 2]) : ∃ j : Nat, d = .int (j : Int) ∧ j ≤ 2 := by
  simp only [List.mem_cons, List.not_mem_nil, or_false] at h
  rcases h with rfl | rfl | rfl | rfl | rfl | rfl
  · exact ⟨0, rfl, by decide⟩
  · exact ⟨0, rfl, by decide⟩
  · exact ⟨1, rfl, by decide⟩
  · exact ⟨1, rfl, by decide⟩
  · exact ⟨2, rfl, by decide⟩
  · exact ⟨2, rfl, by decide⟩
def officeB : List Stm := [.asg (.name 8) (.prim .tuple (.lc (.call "_law_take" [.var 0, .var 5]) (.name 9) [9] (.irange1 (.call "_law_of" [.var 0, .lst [.cst (.int 0), .cst (.int 0), .cst (.int 1), .cst (.int 1), .cst (.int 2), .cst (.int 2)]])) [])), .app (.var 6) (.tup [.call "_law_take" [.var 0, .var 4], .call "_law_take" [.var 0, .var 5], .call "_law_take" [.var 0, .var 4], .var 8])]
def officeE (p M K R m s q : D) (x7 x8 x9 : Option D) : Env := [some p, some M, some K, some R, some m, some s, some q, x7, x8, x9]
theorem office_turn {p q k : Nat} {M K R x : D} {m s : Int} {x8 x9 : Option D} {T : Sto} {rs : List D} (h : Draws P) (pT : PotS T p k) (hk : k < 2 ^ 39) (hm : 1 ≤ m) (hm2 : m ≤ 1000) (hs : 1 ≤ s) (hs2 : s ≤ 1000) (hpq : p ≠ q) (gT : T[q]? = some (.lst rs)) (hl : rs.length < 1000) (n : Nat) :
    ∃ (y : D) (v : D) (T' : Sto), evSs (cfgAt P (n + 2)) officeB (officeE (.ref p) M K R (.int m) (.int s) (.ref q) (some x) x8 x9) T = .next (officeE (.ref p) M K R (.int m) (.int s) (.ref q) (some x) (some y) x9) (T'.set q (.lst (rs ++ [v]))) ∧
      isRuleB v m s = true ∧ PotS T' p (k + 6) ∧ Only1 T T' p := by
  obtain ⟨dp, T1, hd, f1, pT1, oT1⟩ := draw_of (xs := [D.int 0, .int 0, .int 1, .int 1, .int 2, .int 2]) h pT (by omega) (by simp) (by rfl) (by simp) n
  obtain ⟨j, rfl, hj⟩ := puts_in hd
  obtain ⟨ns, T2, f2, hn1, hn2, pT2, oT2⟩ := lc_draws (xs := (List.range j).map fun k : Nat => .int (k : Int)) (u := s) h pT1 hs (by omega) (n + 1) (by simp; omega) (by simp; omega) (elt := .call "_law_take" [.var 0, .var 5])
    (ρ := officeE (.ref p) M K R (.int m) (.int s) (.ref q) (some x) x8 none) (i := 9) (b := fun y => officeE (.ref p) M K R (.int m) (.int s) (.ref q) (some x) x8 (some y)) (fun y _ => by simp [officeE]) (fun y _ S => by simp [officeE])
  simp only [List.length_map, List.length_range] at hn1 pT2
  obtain ⟨r1, T3, f3, c1, c1', pT3, oT3⟩ := draw (u := m) h pT2 (by omega) hm (by omega) (n + 1)
  obtain ⟨r2, T4, f4, c2, c2', pT4, oT4⟩ := draw (u := s) h pT3 (by omega) hs (by omega) (n + 1)
  obtain ⟨r3, T5, f5, c3, c3', pT5, oT5⟩ := draw (u := m) h pT4 (by omega) hm (by omega) (n + 1)
  have oA := (((oT1.trans oT2).trans oT3).trans oT4).trans oT5
  have g5 : T5[q]? = some (.lst rs) := by rw [oA.get (Ne.symm hpq)]; exact gT
  have ap := appO_at (v := ruleD r1 r2 r3 ns) g5 (by omega)
  have hj2 := irg_nat (j : Int) (by omega) (by omega) T1
  simp only [Int.toNat_natCast] at hj2
  refine ⟨.tup (ns.map .int), ruleD r1 r2 r3 ns, T5, ?_, isRule_of ⟨c1, by omega, c2, by omega, c3, by omega, by omega, fun i hi => by have := hn2 i hi; omega⟩, pT5.mono (by omega), oA⟩
  unfold ruleD at ap
  unfold officeE at f2
  simp [officeB, officeE, f1, hj2, f2, f3, f4, f5, isRefD, le_size, ap, ruleD]
theorem draw_office {p k : Nat} {M K R : Nat} (h : Draws P) (ho : Has P "_law_office" F.law_office) (hp : PotS S p k) (hS : SP S) (hk : k < 2 ^ 38) (hM : 1 ≤ M) (hM2 : M ≤ 1000) (hK : 1 ≤ K) (hK2 : K ≤ 1000) (hR : R ≤ 62) (n : Nat) :
    ∃ (m s : Int) (rs : List D) (S' : Sto), leave S.length (callF P (n + 3) "_law_office" [.ref p, .int M, .int K, .int R] S) = .ok (.tup [.int m, .int s, .tup rs]) S' ∧
      (1 ≤ m ∧ m ≤ M) ∧ (1 ≤ s ∧ s ≤ K) ∧ rs.length ≤ R ∧ (∀ r ∈ rs, isRuleB r m s = true) ∧ risingB rs = true ∧ PotS S' p (k + 3 + 6 * R) ∧ Only1 S S' p := by
  have hlt := hp.lt
  rw [call_fn ho (n + 2) rfl]
  obtain ⟨d1, S1, e1, a1, b1, p1', o1⟩ := draw (u := M) h hp (by omega) (by omega) (by omega) (n + 1)
  obtain ⟨d2, S2, e2, a2, b2, p2', o2⟩ := draw (u := K) h p1' (by omega) (by omega) (by omega) (n + 1)
  have l2 : S2.length = S.length := o2.len.trans o1.len
  have o12 := o1.trans o2
  obtain ⟨d3, S3, e3, a3, b3, p3', o3⟩ := draw (u := (R : Int) + 1) h (p2'.app (T := [.lst []])) (by omega) (by omega) (by omega) (n + 1)
  have g3 : S3[S.length]? = some (.lst []) := by
    rw [o3.get (by omega), ← l2]
    simp
  have q3 : Two (S ++ [.lst []]) S3 p S.length := by
    have := o12.app (U := [.lst []]) hlt
    exact ((Two.refl _ _ _).only this).only o3
  have loop := loopL_ex (tg := .name 7) (body := evSs (cfgAt P (n + 2)) officeB)
    (fun rest ρ T => ∃ (x7 x8 x9 : Option D) (rs : List D), ρ = officeE (.ref p) (.int M) (.int K) (.int R) (.int (1 + d1)) (.int (1 + d2)) (.ref S.length) x7 x8 x9 ∧ T[S.length]? = some (.lst rs) ∧ (∀ r ∈ rs, isRuleB r (1 + d1) (1 + d2) = true) ∧
      rs.length + rest.length = d3.toNat ∧ PotS T p (k + 3 + 6 * rs.length) ∧ Two (S ++ [.lst []]) T p S.length)
    (xs := (List.range d3.toNat).map fun k : Nat => .int (k : Int)) (ρ := officeE (.ref p) (.int M) (.int K) (.int R) (.int (1 + d1)) (.int (1 + d2)) (.ref S.length) none none none) (S := S3)
    ⟨none, none, none, [], rfl, g3, fun r h => (by cases h), by simp, by simpa using p3', q3⟩ (fun x xs ρ T ⟨x7, x8, x9, rs, eρ, gT, hr, hl, pT, qT⟩ => by
      subst eρ
      rw [List.length_cons] at hl
      obtain ⟨y, v, T', e, hv, pT', oT'⟩ := office_turn (M := .int M) (K := .int K) (R := .int R) (x := x) (x8 := x8) (x9 := x9) h pT (by omega) (show 1 ≤ 1 + d1 by omega) (by omega) (show 1 ≤ 1 + d2 by omega) (by omega) (show p ≠ S.length by omega) gT (by omega) n
      have hqT : T'.length = S.length + 1 := by rw [oT'.len, qT.len]; simp
      refine ⟨officeE (.ref p) (.int M) (.int K) (.int R) (.int (1 + d1)) (.int (1 + d2)) (.ref S.length) (some x) x8 x9, _, _, by simp [officeE], .inl e, some x, some y, x9, rs ++ [v], rfl, by rw [List.getElem?_set_self (by omega)], fun r hr2 => ?_, ?_, ?_, (qT.only oT').set⟩
      · rcases List.mem_append.mp hr2 with hr2 | hr2
        · exact hr r hr2
        · rw [List.mem_singleton.mp hr2]; exact hv
      · rw [List.length_append, List.length_singleton]; omega
      · refine (pT'.keep (q := S.length) (by omega)).mono ?_
        rw [List.length_append, List.length_singleton]; omega)
  obtain ⟨ρ1, T, eL, x7, x8, x9, rs, rfl, gT, hr, hl, pT, qT⟩ := loop
  have hqT : T.length = S.length + 1 := by rw [qT.len]; simp
  have hrl : rs.length ≤ R := by simp at hl; omega
  have hkey : ∀ r ∈ rs, r.keyable = true := fun r h => rule_keyable (hr r h)
  have halk : ∀ x ∈ rs, ∀ y ∈ rs, alikeD x y = true := fun x hx y hy => rule_alikes (hr x hx) (hr y hy)
  have hmem : ∀ y, y ∈ dedup [] rs ↔ y ∈ rs := fun y => by rw [dedup_memK rs [] (fun x h => by cases h) hkey y]; simp
  have hr2 : ∀ r ∈ dedup [] rs, isRuleB r (1 + d1) (1 + d2) = true := fun r h => hr r ((hmem r).mp h)
  have hlen2 : (dedup [] rs).length ≤ rs.length := by simpa using dedup_len rs []
  have hsr : ∀ r ∈ sortD (dedup [] rs), isRuleB r (1 + d1) (1 + d2) = true := fun r h => hr2 r ((sortD_perm _).mem_iff.mp h)
  have w1 := p1_set (seqOf_ref gT) (setable_rules hr (by omega))
  have w2 := p1_sortedSet (S := T) (sortable_rules hr2) (rules_okP hr2)
  have oD := qT.drop hlt
  have pD : PotS (T.take S.length) p (k + 3 + 6 * R) := (pT.take hlt).mono (by omega)
  have hpu : (D.tup [.int (1 + d1), .int (1 + d2), .tup (sortD (dedup [] rs))]).pure = true := by
    simp [D.pure, rules_pure hsr]
  have eR := leave_take (S := S) (S' := T) hpu (hS.only oD pD)
  refine ⟨1 + d1, 1 + d2, sortD (dedup [] rs), T.take S.length, ?_, ⟨by omega, by omega⟩, ⟨by omega, by omega⟩, by rw [(sortD_perm _).length_eq]; omega, hsr, sorted_rising hkey halk, pD, oD⟩
  have hj3 := irg_nat d3 (by omega) (by omega) S3
  have hfor : forRun (cfgAt P (n + 2)) (.name 7) officeB
      (.fixed ((List.range d3.toNat).map fun k : Nat => .int (k : Int))) (officeE (.ref p) (.int M) (.int K) (.int R) (.int (1 + d1)) (.int (1 + d2)) (.ref S.length) none none none) S3 = _ := eL
  simp only [List.length_append, List.length_cons, List.length_nil, l2] at e3
  unfold officeE officeB at hfor
  simp [F.law_office, e1, e2, le_size, l2, e3, hj3, hfor, w1, w2, eR]
end DL
set_option Elab.async false
set_option linter.all false
set_option maxRecDepth 100000
set_option maxHeartbeats 4000000
/-! PL7: a law's own look at offices -/
namespace DL
open PySem
variable {P : Prg} {S : Sto}
namespace F
def law_is_rule : Fn := { name := "_law_is_rule", names := ["value", "moods", "slips", "slip"], pars := 3, body := [
    .ifs (.or (.not (.isi (.var 0) "tuple")) (.or (.cmp .ne (.prim .len (.var 0)) (.cst (.int 4))) (.or (.not (.isi (.idx (.var 0) (.cst (.int 3))) "tuple")) (.cmp .gt (.prim .len (.idx (.var 0) (.cst (.int 3)))) (.cst (.int 2)))))) [.ret (.cst (.bl false))] [],
    .ifs (.or (.not (.call "_law_is_int" [.idx (.var 0) (.cst (.int 0)), .cst (.int 0), .bin .sub (.var 1) (.cst (.int 1))])) (.not (.call "_law_is_int" [.idx (.var 0) (.cst (.int 1)), .cst (.int 0), .bin .sub (.var 2) (.cst (.int 1))]))) [.ret (.cst (.bl false))] [],
    .ret (.and (.call "_law_is_int" [.idx (.var 0) (.cst (.int 2)), .cst (.int 0), .bin .sub (.var 1) (.cst (.int 1))]) (.prim .all (.lc (.call "_law_is_int" [.var 3, .cst (.int 0), .bin .sub (.var 2) (.cst (.int 1))]) (.name 3) [3] (.iseq (.idx (.var 0) (.cst (.int 3)))) [])))] }
def law_is_office : Fn := { name := "_law_is_office", names := ["value", "rule"], pars := 1, body := [
    .ifs (.or (.not (.isi (.var 0) "tuple")) (.or (.cmp .ne (.prim .len (.var 0)) (.cst (.int 3))) (.not (.call "_law_is_int" [.idx (.var 0) (.cst (.int 0)), .cst (.int 1), .cst (.int 5)])))) [.ret (.cst (.bl false))] [],
    .ifs (.or (.not (.call "_law_is_int" [.idx (.var 0) (.cst (.int 1)), .cst (.int 1), .cst (.int 6)])) (.or (.not (.isi (.idx (.var 0) (.cst (.int 2))) "tuple")) (.cmp .gt (.prim .len (.idx (.var 0) (.cst (.int 2)))) (.cst (.int 60))))) [.ret (.cst (.bl false))] [],
    .ifs (.not (.prim .all (.lc (.call "_law_is_rule" [.var 1, .idx (.var 0) (.cst (.int 0)), .idx (.var 0) (.cst (.int 1))]) (.name 1) [1] (.iseq (.idx (.var 0) (.cst (.int 2)))) []))) [.ret (.cst (.bl false))] [],
    .ret (.cmp .eq (.prim .list (.idx (.var 0) (.cst (.int 2)))) (.prim .sorted (.prim .set (.idx (.var 0) (.cst (.int 2))))))] }
end F
theorem isi_tuple {v : D} (hv : v.pure = true) (S : Sto) : isiR "tuple" v S = .ok (.bl (isTupD v)) S := by
  cases v <;> first | (simp [isiR, tyOf, isiB, isTupD]; done) | (simp [D.pure] at hv; done)
theorem law_is_int_eq (h : Has P "_law_is_int" F.law_is_int) {v : D} (hv : v.pure = true) (lo hi : Int) (n : Nat) : callF P (n + 1) "_law_is_int" [v, .int lo, .int hi] S = .ok (.bl (isIntB v lo hi)) S := by
  rw [call_fn h n rfl]
  cases v <;> first | (simp [D.pure] at hv; done) | (simp [F.law_is_int, isiR, tyOf, isiB, isIntB]; done) | skip
  rename_i i
  by_cases h1 : lo ≤ i
  · simp [F.law_is_int, isiR, tyOf, isiB, isIntB, h1]
  · simp [F.law_is_int, isiR, tyOf, isiB, isIntB, h1]
theorem len4 {xs : List D} (h : ((xs.length : Nat) : Int) = 4) : ∃ a b c d, xs = [a, b, c, d] := by
  match xs, h with
  | [a, b, c, d], _ => exact ⟨a, b, c, d, rfl⟩
  | [], h | [_], h | [_, _], h | [_, _, _], h => simp at h
  | _ :: _ :: _ :: _ :: _ :: _, h => simp only [List.length_cons] at h; omega
theorem len3 {xs : List D} (h : ((xs.length : Nat) : Int) = 3) : ∃ a b c, xs = [a, b, c] := by
  match xs, h with
  | [a, b, c], _ => exact ⟨a, b, c, rfl⟩
  | [], h | [_], h | [_, _], h => simp at h
  | _ :: _ :: _ :: _ :: _, h => simp only [List.length_cons] at h; omega
theorem isTup_len {xs : List D} {k : Nat} (h : ¬ ((xs.length : Nat) : Int) = k) : isTupB (.tup xs) k k = false := by
  simp only [isTupB, Bool.and_eq_false_iff, decide_eq_false_iff_not]
  omega
theorem law_is_rule_eq (h : Has P "_law_is_rule" F.law_is_rule) (hi : Has P "_law_is_int" F.law_is_int) {v : D} (hv : v.pure = true) (m s : Int) (n : Nat) : callF P (n + 2) "_law_is_rule" [v, .int m, .int s] S = .ok (.bl (isRuleB v m s)) S := by
  rw [call_fn h (n + 1) rfl]
  have e1 := isi_tuple hv S
  cases v with
  | tup xs =>
    by_cases hl : ((xs.length : Nat) : Int) = 4
    · obtain ⟨a, b, c, d, rfl⟩ := len4 hl
      simp only [pure_tup, pureL_cons, pureL_nil, Bool.and_eq_true] at hv
      have e2 := isi_tuple hv.2.2.2.1 S
      have i1 := law_is_int_eq (S := S) hi hv.1 0 (m - 1) n
      have i2 := law_is_int_eq (S := S) hi hv.2.1 0 (s - 1) n
      have i3 := law_is_int_eq (S := S) hi hv.2.2.1 0 (m - 1) n
      cases d with
      | tup ys =>
        by_cases hy : (2 : Int) < ((ys.length : Nat) : Int)
        · have : ¬ ys.length ≤ 2 := by omega
          simp [F.law_is_rule, e1, e2, isTupD, hy, isRuleB, isPutB, this]
        · have hp : ∀ x ∈ ys, x.pure = true := fun x hx => pure_mem (by simpa using hv.2.2.2.1) hx
          have hle : ys.length ≤ 2 := by omega
          have key := lc_map (c := cfgAt P (n + 1)) (elt := .call "_law_is_int" [.var 3, .cst (.int 0), .bin .sub (.var 2) (.cst (.int 1))]) (tg := .name 3) (ρ := [some (.tup [a, b, c, .tup ys]), some (.int m), some (.int s), none]) (S := S) (xs := ys)
            (b := fun x => [some (.tup [a, b, c, .tup ys]), some (.int m), some (.int s), some x]) (g := fun x => .bl (isIntB x 0 (s - 1))) (fun x _ => by simp) (fun x hx => by simp [law_is_int_eq hi (hp x hx)]) (le_size (by omega))
          cases c1 : isIntB a 0 (m - 1) with
          | false => simp [F.law_is_rule, e1, e2, isTupD, hy, isRuleB, i1, c1]
          | true =>
          cases c2 : isIntB b 0 (s - 1) with
          | false => simp [F.law_is_rule, e1, e2, isTupD, hy, isRuleB, i1, i2, c1, c2]
          | true =>
          cases c3 : isIntB c 0 (m - 1) with
          | false => simp [F.law_is_rule, e1, e2, isTupD, hy, isRuleB, i1, i2, i3, c1, c2, c3]
          | true => simp [F.law_is_rule, e1, e2, isTupD, hy, isRuleB, isPutB, i1, i2, i3, c1, c2, c3, key, hle]
      | _ => simp [F.law_is_rule, e1, e2, isTupD, isRuleB, isPutB]
    · simp [F.law_is_rule, e1, isTupD, hl, isRule_no (m := m) (s := s) (isTup_len (k := 4) hl)]
  | _ => first | (simp [F.law_is_rule, e1, isTupD, isRuleB]; done)
theorem eq_lsts {xs ys : List D} (hx : ∀ x ∈ xs, x.keyable = true) (hy : ∀ x ∈ ys, x.keyable = true) (ox : okP (.tup xs) = true) (oy : okP (.tup ys) = true) (px : pureL xs = true) (py : pureL ys = true) (S : Sto) : ∃ b, cop .eq (.lst xs) (.lst ys) S = some b ∧ (b = true ↔ xs = ys) := by
  have h1 := lst_okP ox
  have h2 := lst_okP oy
  have k1 : keyableL xs = true := by rw [keyableL_eq, List.all_eq_true]; exact hx
  have k2 : keyableL ys = true := by rw [keyableL_eq, List.all_eq_true]; exact hy
  refine ⟨eqD (.lst xs) (.lst ys), ?_, ?_⟩
  · simp only [cop, eqC, see_lst, px, py, if_true, h1, h2, Bool.and_self]
  · have := eqDL_key xs ys k1 k2
    simpa only [eqD, D.toP, PyData.eqv] using this
theorem law_is_office_eq (h : Has P "_law_is_office" F.law_is_office) (hr : Has P "_law_is_rule" F.law_is_rule) (hi : Has P "_law_is_int" F.law_is_int) {v : D} (hv : v.pure = true) (n : Nat) : callF P (n + 3) "_law_is_office" [v] S = .ok (.bl (isOfficeB v)) S := by
  rw [call_fn h (n + 2) rfl]
  have e1 := isi_tuple hv S
  cases v with
  | tup xs =>
    by_cases hl : ((xs.length : Nat) : Int) = 3
    · obtain ⟨m, s, r, rfl⟩ := len3 hl
      simp only [pure_tup, pureL_cons, pureL_nil, Bool.and_eq_true] at hv
      have e2 := isi_tuple hv.2.2.1 S
      have i1 := law_is_int_eq (S := S) hi hv.1 1 5 (n + 1)
      have i2 := law_is_int_eq (S := S) hi hv.2.1 1 6 (n + 1)
      cases c1 : isIntB m 1 5 with
      | false =>
        have : isOfficeB (.tup [m, s, r]) = false := by cases r <;> simp [isOfficeB, c1]
        simp [F.law_is_office, e1, isTupD, i1, c1, this]
      | true =>
      cases c2 : isIntB s 1 6 with
      | false =>
        have : isOfficeB (.tup [m, s, r]) = false := by cases r <;> simp [isOfficeB, c1, c2]
        simp [F.law_is_office, e1, isTupD, i1, i2, c1, c2, this]
      | true =>
      cases r with
      | tup rs =>
        by_cases hy : (60 : Int) < ((rs.length : Nat) : Int)
        · have : ¬ rs.length ≤ 60 := by omega
          simp [F.law_is_office, e1, e2, isTupD, i1, i2, c1, c2, hy, isOfficeB, this]
        · have hle : rs.length ≤ 60 := by omega
          obtain ⟨mi, rfl, _, _⟩ := isInt_form c1
          obtain ⟨si, rfl, _, _⟩ := isInt_form c2
          have hp : ∀ x ∈ rs, x.pure = true := fun x hx => pure_mem (by simpa using hv.2.2.1) hx
          have key := lc_map (c := cfgAt P (n + 2)) (elt := .call "_law_is_rule" [.var 1, .idx (.var 0) (.cst (.int 0)), .idx (.var 0) (.cst (.int 1))]) (tg := .name 1) (ρ := [some (.tup [.int mi, .int si, .tup rs]), none]) (S := S) (xs := rs)
            (b := fun x => [some (.tup [.int mi, .int si, .tup rs]), some x]) (g := fun x => .bl (isRuleB x mi si)) (fun x _ => by simp) (fun x hx => by simp [law_is_rule_eq hr hi (hp x hx)]) (le_size (by omega))
          cases c4 : rs.all fun r => isRuleB r mi si with
          | false => simp [F.law_is_office, e1, e2, isTupD, i1, i2, c1, c2, hy, key, c4, isOfficeB, toI]
          | true =>
            have hall : ∀ r ∈ rs, isRuleB r mi si = true := fun r h => List.all_eq_true.mp c4 r h
            have hkey : ∀ r ∈ rs, r.keyable = true := fun r h => rule_keyable (hall r h)
            have halk : ∀ x ∈ rs, ∀ y ∈ rs, alikeD x y = true := fun x hx y hy => rule_alikes (hall x hx) (hall y hy)
            have hmem : ∀ y, y ∈ dedup [] rs ↔ y ∈ rs := fun y => by rw [dedup_memK rs [] (fun x h => by cases h) hkey y]; simp
            have hd : ∀ r ∈ dedup [] rs, isRuleB r mi si = true := fun r h => hall r ((hmem r).mp h)
            have hs : ∀ r ∈ sortD (dedup [] rs), isRuleB r mi si = true := fun r h => hd r ((sortD_perm _).mem_iff.mp h)
            have w1 := p1_set (S := S) (a := .tup rs) rfl (setable_rules hall (by omega))
            have w2 := p1_sortedSet (S := S) (sortable_rules hd) (rules_okP hd)
            obtain ⟨b3, w3, q3⟩ := eq_lsts (S := S) hkey (fun r h => rule_keyable (hs r h)) (rules_okP hall) (rules_okP hs) (rules_pure hall) (rules_pure hs)
            obtain rfl : b3 = risingB rs := by
              rw [Bool.eq_iff_iff, q3, eq_comm, sorted_iff hkey halk]
            simp [F.law_is_office, e1, e2, isTupD, i1, i2, c1, c2, hy, key, c4, isOfficeB, toI, w1, w2, w3, hle]
      | _ => simp [F.law_is_office, e1, e2, isTupD, i1, i2, c1, c2, isOfficeB]
    · have : isOfficeB (.tup xs) = false := isOffice_no (isTup_len (k := 3) hl)
      simp [F.law_is_office, e1, isTupD, hl, this]
  | _ => first | (simp [F.law_is_office, e1, isTupD, isOfficeB]; done)
end DL
set_option Elab.async false
set_option linter.all false
set_option maxRecDepth 100000
set_option maxHeartbeats 4000000
/-! PL8: texts of values -/
namespace DL
open PySem PySem.PyData
variable {P : Prg} {S : Sto}
theorem from_len : ∀ (ts : List Str) (k : Nat) (acc : Str), (textFrom k acc ts).length ≤ acc.length + piled ts
  | [], k, acc => Nat.le_add_right _ _
  | t :: ts, k, acc => by
    have ih := from_len ts (k + 1) (acc ++ (if k > 0 then ", " else "" : String) ++ t)
    have e1 : ((if k > 0 then ", " else "" : String) : Str).length ≤ 2 := by split <;> decide
    rw [strLen_append, strLen_append] at ih
    rw [piled_cons]
    show (textFrom (k + 1) _ ts).length ≤ _
    omega
theorem list_text_len (ts : List Str) : (listText ts).length ≤ 2 + piled ts := by
  unfold listText
  have := from_len ts 0 "["
  have e1 : (("[" : String) : Str).length = 1 := rfl
  have e2 : (("]" : String) : Str).length = 1 := rfl
  rw [strLen_append]
  omega
theorem tup_text_len (ts : List Str) : (tupleText ts).length ≤ 3 + piled ts := by
  unfold tupleText
  have e1 : (("(" : String) : Str).length = 1 := rfl
  have e3 : (((if ts.length == 1 then ",)" else ")" : String) : Str)).length ≤ 2 := by split <;> decide
  rw [strLen_append, strLen_append, e1]
  by_cases h : ts = []
  · subst h
    have : (Str.join ", " ([] : List Str)).length = 0 := rfl
    omega
  · have := join_length_add ts h
    omega
mutual
theorem shown_len : ∀ (d : D), d.pure = true → d.toP.showable = true → d.toP.canLay0 = true → d.toP.shown.length ≤ d.wt
  | .non, _, _, _ => by simp only [D.toP, shown, D.wt]; decide
  | .bl b, _, _, _ => by cases b <;> simp only [D.toP, shown, D.wt] <;> decide
  | .int i, _, hs, _ => by
    simp only [D.toP, showable, decide_eq_true_eq] at hs
    simp only [D.toP, shown, D.wt]
    exact PyProof.Rows.int_text_len_1921 hs
  | .str x, _, _, hl => by
    simp only [D.toP, canLay0, strOk] at hl
    simp only [D.toP, shown, D.wt]
    have := PySem.StrLaws.reprText_len x fun c hc => by
      rw [Array.all_eq_true_iff_forall_mem] at hl
      have := hl c (by simpa using hc)
      simp only [decide_eq_true_eq] at this
      omega
    omega
  | .tup xs, hp, hs, hl => by
    simp only [D.toP, shown, D.wt]
    have := shownL_len xs (by simpa only [D.pure] using hp) (by simpa only [D.toP, showable] using hs) (by simpa only [D.toP, canLay0] using hl)
    have := tup_text_len (shownAll (toPL xs))
    omega
  | .lst xs, hp, hs, hl => by
    simp only [D.toP, shown, D.wt]
    have := shownL_len xs (by simpa only [D.pure] using hp) (by simpa only [D.toP, showable] using hs) (by simpa only [D.toP, canLay0] using hl)
    have := list_text_len (shownAll (toPL xs))
    omega
theorem shownL_len : ∀ (xs : List D), pureL xs = true → showableAll (toPL xs) = true → canLayAll0 (toPL xs) = true → piled (shownAll (toPL xs)) ≤ wtL xs
  | [], _, _, _ => by simp [toPL, shownAll, piled]
  | x :: xs, hp, hs, hl => by
    simp only [pureL, Bool.and_eq_true] at hp
    simp only [toPL, showableAll, Bool.and_eq_true] at hs
    simp only [toPL, canLayAll0, Bool.and_eq_true] at hl
    have h1 := shown_len x hp.1 hs.1 hl.1
    have h2 := shownL_len xs hp.2 hs.2 hl.2
    simp only [toPL, shownAll, wtL, piled_cons]
    omega
end
theorem sizeLine_is : sizeLine = 16777216 := by unfold sizeLine; decide
theorem Ok.text {b k : Nat} {d : D} (h : Ok b k d) (hb : b ≤ 16000000) (hk : k ≤ 60) : textD d = some d.toP.shown := by
  have h1 := shown_len d h.pure h.show_ h.lay
  have h2 : d.toP.shown.length ≤ sizeLine := by rw [sizeLine_is]; have := h.wt; omega
  have h3 : d.toP.depth ≤ 60 := Nat.le_trans h.dep hk
  simp only [textD, h.pure, h.show_, okP, h.lay, h2, h3, decide_true, Bool.and_self, if_true]
theorem repr_ok {b k : Nat} {d : D} (h : Ok b k d) (hb : b ≤ 16000000) (hk : k ≤ 60) (S : Sto) : p1 .repr d S = .ok (.str d.toP.shown) S := by
  simp only [p1, see_pure S h.pure, h.text hb hk]
theorem ok_bl (b : Bool) : Ok 2000 0 (.bl b) := ok_of (by cases b <;> decide +kernel)
@[simp] theorem cop_eqS (a b : Str) (S : Sto) : cop .eq (.str a) (.str b) S = some (decide (a = b)) := (rfl)
@[simp] theorem cop_neS (a b : Str) (S : Sto) : cop .ne (.str a) (.str b) S = some (!decide (a = b)) := (rfl)
namespace F
def law_is_right : Fn := { name := "_law_is_right", names := ["value", "before"], pars := 1, body := [
    .asg (.name 1) (.prim .repr (.var 0)),
    .ret (.and (.cmp .eq (.prim .repr (.call "is_office" [.var 0])) (.prim .repr (.call "_law_is_office" [.var 0]))) (.cmp .eq (.prim .repr (.var 0)) (.var 1)))] }
end F
theorem law_is_right_eq (h : Has P "_law_is_right" F.law_is_right) (ho : Offices P) (hl : Has P "_law_is_office" F.law_is_office) (hr : Has P "_law_is_rule" F.law_is_rule) (hi : Has P "_law_is_int" F.law_is_int) {b k : Nat} {v : D} (hv : Ok b k v) (hb : b ≤ 16000000) (hk : k ≤ 60) (n : Nat) :
    callF P (n + 5) "_law_is_right" [v] S = .ok (.bl true) S := by
  rw [call_fn h (n + 4) rfl]
  have e1 := repr_ok hv hb hk S
  have e2 := is_office_eq (S := S) ho hv.pure n
  have e3 := law_is_office_eq (S := S) hl hr hi hv.pure (n + 1)
  have e4 := repr_ok (ok_bl (isOfficeB v)) (by decide) (by decide) S
  simp [F.law_is_right, e1, e2, e3, e4]
end DL
set_option Elab.async false
set_option linter.all false
set_option maxRecDepth 100000
set_option maxHeartbeats 4000000
/-! PL9: values bent -/
namespace DL
open PySem PySem.PyData
variable {P : Prg} {S : Sto}
namespace F
def law_bent : Fn := { name := "_law_bent", names := ["pot", "value", "at", "some"], pars := 2, body := [
    .ifs (.and (.isi (.var 1) "tuple") (.and (.cmp .ne (.var 1) (.tup [])) (.cmp .gt (.call "_law_take" [.var 0, .cst (.int 5)]) (.cst (.int 0))))) [.asg (.name 2) (.call "_law_take" [.var 0, .prim .len (.var 1)]), .ret (.bin .add (.bin .add (.sl (.var 1) .nil (.var 2)) (.tup [.call "_law_bent" [.var 0, .idx (.var 1) (.var 2)]])) (.sl (.var 1) (.bin .add (.var 2) (.cst (.int 1))) .nil))] [],
    .ifs (.isi (.var 1) "tuple") [.ret (.call "_law_of" [.var 0, .lst [.prim .list (.var 1), .sl (.var 1) (.cst (.int 1)) .nil, .sl (.var 1) .nil (.neg (.cst (.int 1))), .bin .add (.var 1) (.sl (.var 1) (.neg (.cst (.int 1))) .nil), .rev (.var 1), .tup [], .cst .non]])] [],
    .ifs (.isi (.var 1) "bool") [.ret (.call "_law_of" [.var 0, .lst [.not (.var 1), .prim .int (.var 1), .cst .non]])] [],
    .ifs (.isi (.var 1) "int") [.ret (.call "_law_of" [.var 0, .lst [.bin .add (.var 1) (.cst (.int 1)), .bin .sub (.var 1) (.cst (.int 1)), .neg (.var 1), .prim .str (.var 1), .cst .non, .cmp .eq (.var 1) (.cst (.int 1)), .tup [.var 1]]])] [],
    .ifs (.isi (.var 1) "str") [.asg (.name 3) (.lst [.bin .add (.var 1) (.cst (.str "a")), .sl (.var 1) .nil (.neg (.cst (.int 1))), .upper (.var 1), .lst [.var 1], .cst (.str "a"), .cst .non, .cst (.int 0), .cst (.str ""), .bin .add (.cst (.str "b")) (.var 1), .bin .add (.var 1) (.cst (.str "/"))]), .ret (.call "_law_of" [.var 0, .var 3])] [],
    .ret (.call "_law_odd" [.var 0])] }
end F
mutual
/-- numbers of middling size alone, and tuples -/
def sm : D → Bool
  | .int i => decide (i.natAbs < 2 ^ 1000)
  | .tup xs => smL xs
  | _ => false
def smL : List D → Bool
  | [] => true
  | x :: xs => sm x && smL xs
end
theorem smL_eq : ∀ xs : List D, smL xs = xs.all sm
  | [] => rfl
  | x :: xs => by simp [smL, smL_eq xs]
structure Base (k : Nat) (d : D) : Prop where
  pure : d.pure = true
  show_ : d.toP.showable = true
  lay : d.toP.canLay0 = true
  dep : d.toP.depth ≤ k
theorem Base.mono {k k' : Nat} {d : D} (h : Base k d) (hk : k ≤ k') : Base k' d := ⟨h.pure, h.show_, h.lay, Nat.le_trans h.dep hk⟩
theorem Ok.base {b k : Nat} {d : D} (h : Ok b k d) : Base k d := ⟨h.pure, h.show_, h.lay, h.dep⟩
theorem small_log {i : Int} (h : i.natAbs < 2 ^ 1001) : i.natAbs.log2 < 1920 := by
  by_cases h0 : i.natAbs = 0
  · rw [h0]; decide
  · have := (Nat.log2_lt h0).mpr h
    omega
theorem pow_1000 : (2 : Nat) ^ 1001 = 2 * 2 ^ 1000 := by rw [Nat.pow_succ]; omega
theorem one_1000 : 1 ≤ (2 : Nat) ^ 1000 := Nat.one_le_two_pow
theorem base_int {i : Int} (h : i.natAbs < 2 ^ 1001) : Base 0 (.int i) := ⟨rfl, by simp only [D.toP, showable, decide_eq_true_eq]; exact small_log h, by simp only [D.toP, canLay0], by simp only [D.toP, depth]; omega⟩
theorem baseL {k : Nat} {xs : List D} (h : ∀ x ∈ xs, Base k x) : pureL xs = true ∧ showableAll (toPL xs) = true ∧ canLayAll0 (toPL xs) = true ∧ depthAll (toPL xs) ≤ k := by
  induction xs with
  | nil => simp [toPL, showableAll, canLayAll0, depthAll]
  | cons x xs ih =>
    have a := h x (List.mem_cons_self ..)
    obtain ⟨b1, b2, b3, b4⟩ := ih fun y hy => h y (List.mem_cons_of_mem _ hy)
    have := a.dep
    simp only [pureL, toPL, showableAll, canLayAll0, depthAll, a.pure, a.show_, a.lay, b1, b2, b3, Bool.and_self, true_and]
    omega
theorem ok_tup {b k : Nat} {xs : List D} (h : ∀ x ∈ xs, Base k x) (hb : 3 + wtL xs ≤ b) : Ok b (k + 1) (.tup xs) := by
  obtain ⟨b1, b2, b3, b4⟩ := baseL h
  exact ⟨b1, by simpa only [D.toP, showable] using b2, by simpa only [D.toP, canLay0] using b3, by simp only [D.toP, depth]; omega, by simpa only [D.wt] using hb⟩
theorem ok_lst {b k : Nat} {xs : List D} (h : ∀ x ∈ xs, Base k x) (hb : 3 + wtL xs ≤ b) : Ok b (k + 1) (.lst xs) := by
  obtain ⟨b1, b2, b3, b4⟩ := baseL h
  exact ⟨b1, by simpa only [D.toP, showable] using b2, by simpa only [D.toP, canLay0] using b3, by simp only [D.toP, depth]; omega, by simpa only [D.wt] using hb⟩
mutual
theorem sm_base : ∀ (d : D), sm d = true → Base d.toP.depth d
  | .int i, h => by
    simp only [sm, decide_eq_true_eq] at h
    have := base_int (i := i) (by rw [pow_1000]; have := one_1000; omega)
    exact ⟨this.pure, this.show_, this.lay, Nat.le_refl _⟩
  | .tup xs, h => by
    obtain ⟨b1, b2, b3⟩ := smL_base xs (by simpa only [sm] using h)
    exact ⟨b1, by simpa only [D.toP, showable] using b2, by simpa only [D.toP, canLay0] using b3, Nat.le_refl _⟩
theorem smL_base : ∀ (xs : List D), smL xs = true → pureL xs = true ∧ showableAll (toPL xs) = true ∧ canLayAll0 (toPL xs) = true
  | [], _ => by simp [toPL, showableAll, canLayAll0]
  | x :: xs, h => by
    simp only [smL, Bool.and_eq_true] at h
    have a := sm_base x h.1
    obtain ⟨b1, b2, b3⟩ := smL_base xs h.2
    simp only [pureL, toPL, showableAll, canLayAll0, a.pure, a.show_, a.lay, b1, b2, b3, Bool.and_self, true_and]
end
theorem depth_mem : ∀ {xs : List D} {x : D}, x ∈ xs → x.toP.depth ≤ depthAll (toPL xs)
  | y :: xs, x, h => by
    simp only [toPL, depthAll]
    rcases List.mem_cons.mp h with rfl | h
    · exact Nat.le_max_left _ _
    · exact Nat.le_trans (depth_mem h) (Nat.le_max_right _ _)
theorem sm_mem {xs : List D} (h : sm (.tup xs) = true) {x : D} (hx : x ∈ xs) : sm x = true := by
  simp only [sm, smL_eq] at h
  exact List.all_eq_true.mp h x hx
theorem wtL_append : ∀ xs ys : List D, wtL (xs ++ ys) = wtL xs + wtL ys
  | [], ys => by simp [wtL]
  | x :: xs, ys => by simp only [List.cons_append, wtL, wtL_append xs ys]; omega
theorem wtL_sub {xs ys : List D} (h : ys.Sublist xs) : wtL ys ≤ wtL xs := by
  induction h with
  | slnil => exact Nat.le_refl _
  | cons a _ ih => simp only [wtL]; omega
  | cons_cons a _ ih => simp only [wtL]; omega
theorem wtL_rev (xs : List D) : wtL xs.reverse = wtL xs := by
  induction xs with
  | nil => rfl
  | cons x xs ih => rw [List.reverse_cons, wtL_append, ih]; simp only [wtL]; omega
theorem cut_sub {α : Type} (xs : List α) (l h : Option Int) : (cutL xs l h).Sublist xs := (List.take_sublist _ _).trans (List.drop_sublist _ _)
theorem wt_mem : ∀ {xs : List D} {x : D}, x ∈ xs → x.wt ≤ wtL xs
  | y :: xs, x, h => by
    simp only [wtL]
    rcases List.mem_cons.mp h with rfl | h
    · omega
    · have := wt_mem h; omega
theorem ok_non (b k : Nat) (hb : 1921 ≤ b) (hk : 1 ≤ k) : Ok b k .non := (ok_of (b := 1921) (k := 1) (by decide +kernel)).mono hb hk
/-- what a tuple is bent to at once -/
def bentT (xs : List D) : List D := [.lst xs, .tup xs.tail, .tup (cutL xs none (some (-1))), .tup (xs ++ cutL xs (some (-1)) none), .tup xs.reverse, .tup [], .non]
theorem bentT_ok {k : Nat} {xs : List D} (h : ∀ x ∈ xs, Base k x) : ∀ d ∈ bentT xs, Ok (2 * (3 + wtL xs) + 24000) (k + 1) d := by
  intro d hd
  have s1 := wtL_sub (List.tail_sublist xs)
  have s2 := wtL_sub (cut_sub xs none (some (-1)))
  have s3 := wtL_sub (cut_sub xs (some (-1)) none)
  simp only [bentT, List.mem_cons, List.not_mem_nil, or_false] at hd
  rcases hd with rfl | rfl | rfl | rfl | rfl | rfl | rfl
  · exact ok_lst h (by omega)
  · exact ok_tup (fun x hx => h x (List.mem_of_mem_tail hx)) (by omega)
  · exact ok_tup (fun x hx => h x ((cut_sub ..).mem hx)) (by omega)
  · refine ok_tup (fun x hx => ?_) (by rw [wtL_append]; omega)
    rcases List.mem_append.mp hx with hx | hx
    · exact h x hx
    · exact h x ((cut_sub ..).mem hx)
  · exact ok_tup (fun x hx => h x (List.mem_reverse.mp hx)) (by rw [wtL_rev]; omega)
  · exact ok_tup (fun x hx => by cases hx) (by simp only [wtL]; omega)
  · exact ok_non _ _ (by omega) (by omega)
theorem strOk_of (s : String) : strOk (Str.ofString s) = true := by
  rw [Str.ofString_eq_toList]
  unfold strOk
  rw [Array.all_eq_true_iff_forall_mem]
  intro c hc
  simp only [List.mem_toArray, List.mem_map] at hc
  obtain ⟨ch, _, rfl⟩ := hc
  have h := ch.valid
  simp only [decide_eq_true_eq]
  show ch.val.toNat < 0x110000
  rcases h with h | h
  · exact Nat.lt_trans h (by decide)
  · exact h.2
/-- what a number is bent to -/
def bentI (i : Int) : List D := [.int (i + 1), .int (i - 1), .int (-i), .str (toString i), .non, .bl (decide (i = 1)), .tup [.int i]]
theorem bentI_ok {i : Int} (h : i.natAbs < 2 ^ 1000) : ∀ d ∈ bentI i, Ok 24000 2 d := by
  intro d hd
  have h1 := one_1000
  have h2 := pow_1000
  have big : i.natAbs < 2 ^ 1001 := by omega
  have nums : ∀ j : Int, j.natAbs < 2 ^ 1001 → Ok 24000 2 (.int j) := fun j hj => by
    have := base_int hj
    exact ⟨this.pure, this.show_, this.lay, Nat.le_trans this.dep (by decide), by simp only [D.wt]; omega⟩
  simp only [bentI, List.mem_cons, List.not_mem_nil, or_false] at hd
  rcases hd with rfl | rfl | rfl | rfl | rfl | rfl | rfl
  · exact nums _ (by omega)
  · exact nums _ (by omega)
  · exact nums _ (by omega)
  · have hl := PyProof.Rows.int_text_len_1921 (small_log big)
    exact ⟨rfl, by simp only [D.toP, showable], by simpa only [D.toP, canLay0] using strOk_of _, by simp only [D.toP, depth]; omega, by simp only [D.wt]; omega⟩
  · exact ok_non _ _ (by omega) (by omega)
  · exact (ok_bl _).mono (by omega) (by omega)
  · exact ok_tup (k := 1) (fun x hx => by rw [List.mem_singleton.mp hx]; exact (base_int big).mono (by decide)) (by simp only [wtL, D.wt]; omega)
theorem cut_from' {α : Type} (xs : List α) (k : Nat) : cutL xs (some ((k : Int) + 1)) none = xs.drop (k + 1) := cut_from xs (k + 1)
theorem revD_tup (xs : List D) (S : Sto) : revD (.tup xs) S = .ok (.tup xs.reverse) S := rfl
theorem tup_ne_nil {x : D} {xs : List D} (hp : pureL (x :: xs) = true) (ho : okP (.tup (x :: xs)) = true) (S : Sto) : cop .ne (.tup (x :: xs)) (.tup []) S = some true := by
  have : okP (.tup []) = true := by decide +kernel
  have e : eqD (.tup (x :: xs)) (.tup []) = false := by simp only [eqD, D.toP, toPL, PyData.eqv, PyData.eqvAll]
  simp only [cop, eqC, see_tup, hp, if_true, pureL_nil, ho, this, Bool.and_self, e, Option.map_some, Bool.not_false]
theorem nil_ne_nil (S : Sto) : cop .ne (.tup []) (.tup []) S = some false := by
  have : okP (.tup []) = true := by decide +kernel
  have e : eqD (.tup []) (.tup []) = true := by simp only [eqD, D.toP, toPL, PyData.eqv, PyData.eqvAll]
  simp only [cop, eqC, see_tup, if_true, pureL_nil, this, Bool.and_self, e, Option.map_some, Bool.not_true]
theorem isi_ii (i : Int) (S : Sto) : isiR "tuple" (.int i) S = .ok (.bl false) S ∧ isiR "bool" (.int i) S = .ok (.bl false) S ∧ isiR "int" (.int i) S = .ok (.bl true) S := by
  simp [isiR, tyOf, isiB]
theorem isi_tt (xs : List D) (S : Sto) : isiR "tuple" (.tup xs) S = .ok (.bl true) S := by simp [isiR, tyOf, isiB]
theorem p1_str {i : Int} (h : i.natAbs.log2 < 1920) (S : Sto) : p1 .str (.int i) S = .ok (.str (toString i)) S := by simp only [p1, h, if_true]
/-- how a tuple is bent at once -/
theorem bent_at {p c k : Nat} (h : Draws P) {xs : List D} (hb : ∀ x ∈ xs, Base k x) (hl : xs.length ≤ 500000) (hp : PotS S p c) (hc : c < 2 ^ 39) (n : Nat) :
    ∃ d S', leave S.length (callF P (n + 2) "_law_of" [.ref p, .lst (bentT xs)] S) = .ok d S' ∧ Ok (2 * (3 + wtL xs) + 24000) (k + 1) d ∧ PotS S' p (c + 1) ∧ Only1 S S' p := by
  have hall := bentT_ok hb
  obtain ⟨d, S', hd, e, a, o⟩ := draw_of (xs := bentT xs) h hp (by omega) (by simp [bentT]) (by rw [pureL_eq, List.all_eq_true]; exact fun x hx => (hall x hx).pure) (by simp [bentT]) n
  exact ⟨d, S', e, hall d hd, a, o⟩
theorem len_wt : ∀ xs : List D, 2 * xs.length ≤ wtL xs
  | [] => by simp [wtL]
  | x :: xs => by have := len_wt xs; simp only [wtL, List.length_cons]; omega
theorem bent_int (h : Draws P) (hf : Has P "_law_bent" F.law_bent) {p c : Nat} {i : Int} (hi : i.natAbs < 2 ^ 1000) (hp : PotS S p c) (hc : c < 2 ^ 39) (n : Nat) :
    ∃ d S', leave S.length (callF P (n + 3) "_law_bent" [.ref p, .int i] S) = .ok d S' ∧ Ok 24000 2 d ∧ PotS S' p (c + 1) ∧ Only1 S S' p := by
  have hall := bentI_ok hi
  have hlog := small_log (i := i) (by have := pow_1000; omega)
  obtain ⟨d, S', hd, e, a, o⟩ := draw_of (xs := bentI i) h hp (by omega) (by simp [bentI]) (by rw [pureL_eq, List.all_eq_true]; exact fun x hx => (hall x hx).pure) (by simp [bentI]) n
  refine ⟨d, S', ?_, hall d hd, a, o⟩
  rw [call_fn hf (n + 2) rfl]
  obtain ⟨j1, j2, j3⟩ := isi_ii i S
  have e2 : leave S.length (.ok d S') = .ok d S' := leave_len o.len (hall d hd).pure
  unfold bentI at e
  have p1s := p1_str hlog S
  obtain ⟨z, hz⟩ : ∃ z : Str, z = Str.ofString (toString i) := ⟨_, rfl⟩
  rw [← hz] at e p1s
  simp [F.law_bent, j1, j2, j3, p1s, le_size, e, e2]
theorem bent_nil (h : Draws P) (hf : Has P "_law_bent" F.law_bent) {p c : Nat} (hp : PotS S p c) (hc : c < 2 ^ 39) (n : Nat) :
    ∃ d S', leave S.length (callF P (n + 3) "_law_bent" [.ref p, .tup []] S) = .ok d S' ∧ Ok 24006 1 d ∧ PotS S' p (c + 1) ∧ Only1 S S' p := by
  obtain ⟨d, S', e, hd, a, o⟩ := bent_at (k := 0) (xs := []) h (fun x hx => by cases hx) (by simp) hp hc n
  refine ⟨d, S', ?_, hd.mono (by simp [wtL]) (by omega), a, o⟩
  rw [call_fn hf (n + 2) rfl]
  have e2 : leave S.length (.ok d S') = .ok d S' := leave_len o.len hd.pure
  unfold bentT at e
  have cn : ∀ l h : Option Int, cutL ([] : List D) l h = [] := fun l h => by simp [cutL]
  simp only [List.tail_nil, cn, List.append_nil, List.reverse_nil] at e
  simp [F.law_bent, isi_tt, nil_ne_nil, le_size, e, e2, cn, bop_addT, revD_tup]
theorem draw_bent (h : Draws P) (hf : Has P "_law_bent" F.law_bent) {p : Nat} (n : Nat) : ∀ (k : Nat) (v : D) (S : Sto) (c : Nat), sm v = true → v.toP.depth ≤ k → k ≤ 50 → v.wt ≤ 900000 → PotS S p c → c + 2 * k < 2 ^ 38 →
    ∃ d S', leave S.length (callF P (n + k + 3) "_law_bent" [.ref p, v] S) = .ok d S' ∧ Ok (2 * v.wt + 24000) (v.toP.depth + 2) d ∧ PotS S' p (c + 2 * k + 2) ∧ Only1 S S' p := by
  intro k
  induction k with
  | zero =>
    intro v S c hs hd hk hw hp hc
    cases v with
    | int i =>
      obtain ⟨d, S', e, h1, h2, h3⟩ := bent_int h hf (by simpa only [sm, decide_eq_true_eq] using hs) hp (by omega) n
      exact ⟨d, S', e, h1.mono (by omega) (by omega), h2.mono (by omega), h3⟩
    | tup xs => simp only [D.toP, depth] at hd; omega
    | _ => simp [sm] at hs
  | succ k ih =>
    intro v S c hs hd hk hw hp hc
    cases v with
    | int i =>
      obtain ⟨d, S', e, h1, h2, h3⟩ := bent_int h hf (by simpa only [sm, decide_eq_true_eq] using hs) hp (by omega) (n + (k + 1))
      exact ⟨d, S', e, h1.mono (by omega) (by omega), h2.mono (by omega), h3⟩
    | tup xs =>
      cases xs with
      | nil =>
        obtain ⟨d, S', e, h1, h2, h3⟩ := bent_nil h hf hp (by omega) (n + (k + 1))
        exact ⟨d, S', e, h1.mono (by simp only [D.wt, wtL]; omega) (by omega), h2.mono (by omega), h3⟩
      | cons x xs =>
        obtain ⟨ys, hys⟩ : ∃ ys, ys = x :: xs := ⟨_, rfl⟩
        have hB : ∀ y ∈ ys, Base (depthAll (toPL ys)) y := fun y hy =>
          (sm_base y (sm_mem (xs := ys) (by rw [hys]; exact hs) hy)).mono (depth_mem hy)
        have hbase := sm_base _ hs
        have hpu : pureL (x :: xs) = true := hbase.pure
        have hok : okP (.tup (x :: xs)) = true := by
          have := hbase.dep
          simp only [okP, hbase.lay, Bool.true_and, decide_eq_true_eq]
          omega
        have hne := tup_ne_nil hpu hok S
        obtain ⟨t, S1, e1, a1, b1, p1', o1⟩ := draw (u := 5) h hp (by omega) (by omega) (by omega) (n + k + 2)
        have hlen := len_wt (x :: xs)
        simp only [D.wt] at hw
        by_cases ht : 0 < t
        · obtain ⟨at_, S2, e2, a2, b2, p2', o2⟩ := draw (u := ((x :: xs).length : Int)) h p1' (by omega) (by simp only [List.length_cons]; omega) (by omega) (n + k + 2)
          obtain ⟨i, rfl⟩ : ∃ i : Nat, at_ = (i : Int) := ⟨at_.toNat, by omega⟩
          have hi : i < (x :: xs).length := by omega
          have hm : (x :: xs)[i] ∈ x :: xs := List.getElem_mem hi
          have hwm := wt_mem hm
          have hdm := depth_mem hm
          simp only [D.toP, depth] at hd
          obtain ⟨d, S3, e3, h3, p3', o3⟩ := ih (x :: xs)[i] S2 (c + 1 + 1) (sm_mem (xs := x :: xs) hs hm) (by omega) (by omega) (by omega) p2' (by omega)
          have ix := indexD_tup (List.getElem?_eq_getElem hi) S2
          have oA := (o1.trans o2).trans o3
          have split : wtL (x :: xs) = wtL ((x :: xs).take i) + ((x :: xs)[i].wt + 2 + wtL ((x :: xs).drop (i + 1))) := by
            have e : (x :: xs) = (x :: xs).take i ++ ((x :: xs)[i] :: (x :: xs).drop (i + 1)) := by
              rw [← List.drop_eq_getElem_cons hi, List.take_append_drop]
            conv => lhs; rw [e]
            rw [wtL_append]
            simp only [wtL]
          have hres : Ok (2 * (3 + wtL (x :: xs)) + 24000) (depthAll (toPL (x :: xs)) + 3) (.tup ((x :: xs).take i ++ [d] ++ (x :: xs).drop (i + 1))) := by
            refine ok_tup (k := depthAll (toPL (x :: xs)) + 2) (fun y hy => ?_) ?_
            · rcases List.mem_append.mp hy with hy | hy
              · rcases List.mem_append.mp hy with hy | hy
                · have := List.mem_of_mem_take hy
                  refine (sm_base y (sm_mem (xs := x :: xs) hs this)).mono ?_
                  have := depth_mem this
                  omega
                · rw [List.mem_singleton.mp hy]
                  exact h3.base.mono (by omega)
              · have := List.mem_of_mem_drop hy
                refine (sm_base y (sm_mem (xs := x :: xs) hs this)).mono ?_
                have := depth_mem this
                omega
            · have := h3.wt
              rw [wtL_append, wtL_append]
              simp only [wtL] at split ⊢
              omega
          refine ⟨.tup ((x :: xs).take i ++ [d] ++ (x :: xs).drop (i + 1)), S3, ?_, hres.mono (by simp only [D.wt]; omega) (by simp only [D.toP, depth]; omega), p3'.mono (by omega), oA⟩
          have eR : leave S.length (.ok (D.tup ((x :: xs).take i ++ [d] ++ (x :: xs).drop (i + 1))) S3) = .ok (.tup ((x :: xs).take i ++ [d] ++ (x :: xs).drop (i + 1))) S3 := leave_len oA.len hres.pure
          have ht1 : ((x :: xs).take i).length ≤ 500000 := by rw [List.length_take]; omega
          have ht2 : ((x :: xs).drop (i + 1)).length ≤ 450000 := by rw [List.length_drop]; omega
          have q1 := bop_addT (xs := (x :: xs).take i) (ys := [d]) (by simp only [List.length_singleton]; omega) S3
          have q2 := bop_addT (xs := (x :: xs).take i ++ [d]) (ys := (x :: xs).drop (i + 1)) (by rw [List.length_append, List.length_singleton]; omega) S3
          have c1 := cut_to (x :: xs) i
          have c2 := cut_from' (x :: xs) i
          have j1 := isi_tt (x :: xs) S
          have z1 : p1 .len (.tup (x :: xs)) S1 = .ok (.int ((x :: xs).length : Int)) S1 := p1_lenT _ _
          rw [call_fn hf (n + (k + 1) + 2) rfl]
          rw [show n + k + 2 + 1 = n + (k + 1) + 2 by omega] at e1 e2
          rw [show n + k + 3 = n + (k + 1) + 2 by omega] at e3
          obtain ⟨ws, hws⟩ : ∃ ws, ws = x :: xs := ⟨_, rfl⟩
          obtain ⟨w, hw2⟩ : ∃ w, w = (x :: xs)[i] := ⟨_, rfl⟩
          rw [← hw2] at ix e3
          rw [← hws] at e2 ix q1 q2 c1 c2 j1 z1 eR hne ⊢
          simp only [List.append_assoc, List.singleton_append] at q2 eR ⊢
          simp [F.law_bent, j1, hne, e1, ht, z1, e2, c1, c2, ix, e3, q1, q2, eR, le_size]
        · obtain ⟨d, S2, e2, h2, p2', o2⟩ := bent_at (k := depthAll (toPL (x :: xs))) (xs := x :: xs) h (fun y hy => by have := hB y (by rw [hys]; exact hy); rwa [hys] at this) (by omega) p1' (by omega) (n + k + 1)
          have oA := o1.trans o2
          refine ⟨d, S2, ?_, ?_, p2'.mono (by omega), oA⟩
          · have eR : leave S.length (.ok d S2) = .ok d S2 := leave_len oA.len h2.pure
            have j1 := isi_tt (x :: xs) S
            have j2 := isi_tt (x :: xs) S1
            rw [call_fn hf (n + (k + 1) + 2) rfl]
            rw [show n + k + 2 + 1 = n + (k + 1) + 2 by omega] at e1
            rw [show n + k + 1 + 2 = n + (k + 1) + 2 by omega] at e2
            obtain ⟨ws, hws⟩ : ∃ ws, ws = x :: xs := ⟨_, rfl⟩
            rw [← hws] at e2 j1 j2 hne hlen hw ⊢
            have hsub := (cut_sub ws (some (-1)) none).length_le
            have q1 := bop_addT (xs := ws) (ys := cutL ws (some (-1)) none) (by omega) S1
            unfold bentT at e2
            simp [F.law_bent, j1, j2, hne, e1, ht, cut_from1, q1, revD_tup, e2, eR, le_size]
          · exact h2.mono (by simp only [D.wt]; omega) (by simp only [D.toP, depth]; omega)
    | _ => simp [sm] at hs
end DL
set_option Elab.async false
set_option linter.all false
set_option maxRecDepth 100000
set_option maxHeartbeats 4000000
/-! PL10: the pot; rules_for; cells -/
namespace DL
open PySem PySem.PyData
variable {P : Prg} {S : Sto}
namespace F
def rules_for : Fn := { name := "rules_for", names := ["office", "mood", "slip", "number", "rule"], pars := 3, body := [
    .ret (.prim .tuple (.lc (.var 3) (.tup [.name 3, .name 4]) [3, 4] (.ienum (.idx (.var 0) (.cst (.int 2)))) [.and (.cmp .eq (.idx (.var 4) (.cst (.int 0))) (.var 1)) (.cmp .eq (.idx (.var 4) (.cst (.int 1))) (.var 2))]))] }
end F
def matchB (mood slip : Int) : D → Bool
  | .tup (.int a :: .int b :: _) => decide (a = mood) && decide (b = slip)
  | _ => false
/-- the places of the rules that fit -/
def fitL (rs : List D) (mood slip : Int) : List D := ((List.range rs.length).filter fun i => matchB mood slip (rs.getD i .non)).map fun i : Nat => D.int (i : Int)
theorem enum_from : ∀ (k : Nat) (rs : List D), enumD k rs = (List.range rs.length).map fun i : Nat => D.tup [.int ((k + i : Nat) : Int), rs.getD i .non]
  | k, [] => rfl
  | k, r :: rs => by
    rw [enumD, enum_from (k + 1) rs, List.length_cons, List.range_succ_eq_map, List.map_cons, List.map_map]
    congr 1
    refine List.map_congr_left fun i _ => ?_
    simp only [Function.comp_def, List.getD_cons_succ]
    congr 4
    omega
theorem enum_eq (rs : List D) : enumD 0 rs = (List.range rs.length).map fun i : Nat => D.tup [.int (i : Int), rs.getD i .non] := by
  rw [enum_from]
  simp
theorem lc_filter {c : Cfg} {elt q : E} {tg : Tg} {ρ : Env} {S : Sto} {b : D → Env} {f : D → Bool} {g : D → D} {xs : List D} (hb : ∀ x ∈ xs, bindT tg x ρ = some (b x)) (hq : ∀ x ∈ xs, evE c q (b x) S = .ok (.bl (f x)) S) (he : ∀ x ∈ xs, evE c elt (b x) S = .ok (g x) S) (hl : xs.length ≤ 1000000) :
    lcRun c elt tg [q] ρ (.fixed xs) S = .ok ((xs.filter f).map g) S := by
  refine (compL_pure (q := f) hb (fun x hx => ?_) (fun x hx _ => he x hx) (by simpa using le_size hl)).trans (by simp)
  have h1 := hq x hx
  have h2 : evC c [q] (b x) S = (evE c q (b x) S).bind fun x S1 => match truth S1 x with
    | some true => evC c [] (b x) S1
    | some false => .ok false S1
    | Option.none => .bad := by simp only [evC] <;> rfl
  rw [h2, h1]
  cases f x <;> simp
theorem rule_at {m s : Int} {r : D} (h : isRuleB r m s = true) : ∃ a b t, r = .tup (.int a :: .int b :: t) := by
  obtain ⟨a, b, c, xs, rfl, _⟩ := isRule_form h
  exact ⟨a, b, _, rfl⟩
def fstI : D → D
  | .tup (x :: _) => x
  | _ => .non
def sndI : D → D
  | .tup (_ :: y :: _) => y
  | _ => .non
theorem getD_mem {rs : List D} {i : Nat} (h : i < rs.length) : rs.getD i .non ∈ rs := by
  rw [List.getD_eq_getElem?_getD, List.getElem?_eq_getElem h]
  exact List.getElem_mem h
theorem rules_for_eq (h : Has P "rules_for" F.rules_for) {m s : Int} {rs : List D} (hr : ∀ r ∈ rs, isRuleB r m s = true) (hl : rs.length ≤ 100000) (mood slip : Int) (n : Nat) :
    callF P (n + 1) "rules_for" [.tup [.int m, .int s, .tup rs], .int mood, .int slip] S = .ok (.tup (fitL rs mood slip)) S := by
  rw [call_fn h n rfl]
  have key := lc_filter (c := cfgAt P n) (elt := .var 3) (tg := .tup [.name 3, .name 4]) (q := .and (.cmp .eq (.idx (.var 4) (.cst (.int 0))) (.var 1)) (.cmp .eq (.idx (.var 4) (.cst (.int 1))) (.var 2)))
    (ρ := [some (.tup [.int m, .int s, .tup rs]), some (.int mood), some (.int slip), none, none]) (S := S) (xs := enumD 0 rs)
    (b := fun x => [some (.tup [.int m, .int s, .tup rs]), some (.int mood), some (.int slip), some (fstI x), some (sndI x)]) (f := fun x => matchB mood slip (sndI x)) (g := fstI)
    (fun x hx => by
      rw [enum_eq] at hx
      obtain ⟨i, hi, rfl⟩ := List.mem_map.mp hx
      simp [fstI, sndI])
    (fun x hx => by
      rw [enum_eq] at hx
      obtain ⟨i, hi, rfl⟩ := List.mem_map.mp hx
      obtain ⟨a, b, t, e⟩ := rule_at (hr _ (getD_mem (List.mem_range.mp hi)))
      simp only [fstI, sndI, e, matchB]
      by_cases q : a = mood
      · simp [q]
      · simp [q])
    (fun x hx => by simp) (by rw [enum_eq, List.length_map, List.length_range]; omega)
  have e : ((enumD 0 rs).filter fun x => matchB mood slip (sndI x)).map fstI = fitL rs mood slip := by
    rw [enum_eq, List.filter_map, List.map_map]
    rfl
  rw [e] at key
  simp [F.rules_for, key]
theorem fit_ok (rs : List D) (mood slip : Int) (hl : rs.length ≤ 5000) : Ok 10000000 1 (.tup (fitL rs mood slip)) := by
  have hlen : (fitL rs mood slip).length ≤ rs.length := by
    unfold fitL
    rw [List.length_map]
    exact Nat.le_trans (List.length_filter_le _ _) (by rw [List.length_range]; exact Nat.le_refl _)
  refine ok_tup (k := 0) (fun x hx => ?_) ?_
  · unfold fitL at hx
    obtain ⟨i, hi, rfl⟩ := List.mem_map.mp hx
    have h1 := List.mem_range.mp (List.mem_filter.mp hi |>.1)
    refine base_int ?_
    have := one_1000
    have : (2 : Nat) ^ 1001 = 2 ^ 20 * 2 ^ 981 := by rw [← Nat.pow_add]
    have : 1 ≤ (2 : Nat) ^ 981 := Nat.one_le_two_pow
    have : (2 : Nat) ^ 20 * 1 ≤ 2 ^ 20 * 2 ^ 981 := Nat.mul_le_mul_left _ this
    omega
  · have hw : ∀ ns : List Nat, wtL (ns.map fun i : Nat => D.int (i : Int)) = 1923 * ns.length := by
      intro ns
      induction ns with
      | nil => rfl
      | cons i ns ih => simp only [List.map_cons, wtL, D.wt, ih, List.length_cons]; omega
    have : wtL (fitL rs mood slip) = 1923 * (fitL rs mood slip).length := by
      unfold fitL
      rw [hw, List.length_map]
    omega
/-! the pot made -/
theorem pot_lit : bop .pow (.int 10) (.int 60) S = .ok (.int (10 ^ 60)) S := by rfl
theorem pow_lit (b e : Int) (v : Int) (h : 0 ≤ e ∧ (Builtin.Int.intBits b : Int) * e ≤ 2 ^ 27) (hv : b ^ e.toNat = v) (S : Sto) : bop .pow (.int b) (.int e) S = .ok (.int v) S := by
  simp only [bop, bopInt, bopI, h, and_self, if_true, hv]
def PotNums (r1 r2 r3 r4 r5 : Int) : Prop := (0 ≤ r1 ∧ r1 < 2 ^ 30) ∧ (0 ≤ r2 ∧ r2 < 2 ^ 30) ∧ (0 ≤ r3 ∧ r3 < 2 ^ 30) ∧ (0 ≤ r4 ∧ r4 < 2 ^ 30) ∧ (0 ≤ r5 ∧ r5 < 2 ^ 30)
theorem intsOf_map : ∀ ns : List Int, intsOf (ns.map .int) = some ns
  | [] => rfl
  | n :: ns => by simp [intsOf, intsOf_map ns]
theorem abs_eq (i : Int) (S : Sto) : p1 .abs (.int i) S = .ok (.int (if i < 0 then -i else i)) S := rfl
theorem int_bl (b : Bool) (S : Sto) : p1 .int (.bl b) S = .ok (.int (if b then 1 else 0)) S := rfl
theorem sum_lst (ns : List Int) (S : Sto) : p1 .sum (.lst (ns.map .int)) S = .ok (.int ns.sum) S := by
  simp only [p1, listOf_lst, intsOf_map]
theorem sl_scr (ns : List Int) (l h : Option Int) (S : Sto) : sliceD (.scr ns) l h S = .ok (.lst (cutL (ns.map .int) l h)) S := rfl
theorem indexD_scr {ns : List Int} {i : Nat} {v : Int} (h : ns[i]? = some v) (S : Sto) : indexD (.scr ns) (.int (i : Int)) S = .ok (.int v) S := by
  have : (ns.map D.int)[i]? = some (.int v) := by rw [List.getElem?_map, h]; rfl
  simp only [indexD, seqOf, L2.atI_nat this]
theorem make_pot {r1 r2 r3 r4 r5 : Int} (h : Has P "_law_pot" (F.pot r1 r2 r3 r4 r5)) (hr : PotNums r1 r2 r3 r4 r5) (ns : List Int) (pl : Nat) (hpl : pl < 64) (n : Nat) :
    ∃ a b : Int, callF P (n + 1) "_law_pot" [.scr ns, .int (pl : Int)] S = .ok (.ref S.length) (S ++ [.lst [.int a, .int b, .int 0]]) ∧ 0 ≤ a ∧ 0 ≤ b ∧ b < 2 ^ 62 := by
  obtain ⟨⟨_, _⟩, ⟨_, _⟩, ⟨_, _⟩, ⟨_, _⟩, ⟨_, _⟩⟩ := hr
  rw [call_fn h n rfl]
  have lenS : p1 .len (.scr ns) S = .ok (.int (ns.length : Int)) S := by simp [p1]
  -- the cell
  obtain ⟨cell, ec⟩ : ∃ cell : Int, evE (cfgAt P n) (.ite (.cmp .lt (.var 1) (.prim .len (.var 0))) (.idx (.var 0) (.var 1)) (.bin .add (.bin .add (.bin .mod (.prim .sum (.sl (.var 0) .nil (.cst (.int 1)))) (.cst (.int 1000003))) (.bin .mul (.cst (.int r1)) (.var 1))) (.cst (.int r2)))) [some (.scr ns), some (.int (pl : Int)), none, none, none] S = .ok (.int cell) S := by
    by_cases hp : (pl : Int) < (ns.length : Int)
    · have hlt : pl < ns.length := by omega
      exact ⟨ns[pl], by simp [lenS, hlt, indexD_scr (List.getElem?_eq_getElem hlt)]⟩
    · have hc : cutL (ns.map D.int) none (some 1) = (ns.take 1).map D.int := by
        have := cut_to (ns.map D.int) 1
        rw [List.map_take]
        exact this
      have hlt : ¬ pl < ns.length := by omega
      have w1 := bop_modI (i := (ns.take 1).sum) (j := 1000003) (by decide) S
      have w2 := bop_mulI (i := r1) (j := (pl : Int)) (.inl ⟨by omega, by omega⟩) S
      have w3 := sum_lst (ns.take 1) S
      rw [← hc] at w3
      refine ⟨(ns.take 1).sum % 1000003 + r1 * pl + r2, ?_⟩
      simp [lenS, hlt, sl_scr, w3, w1, w2]
  have q1 := pow_lit 10 60 (10 ^ 60) (by decide) (by decide) S
  have q2 := pow_lit (10 ^ 60) 5 ((10 ^ 60) ^ 5) (by decide) (by decide) S
  have q3 := pow_lit 10 18 (10 ^ 18) (by decide) (by decide) S
  have ab := abs_eq cell S
  obtain ⟨u, hu⟩ : ∃ u : Int, u = if cell < 0 then -cell else cell := ⟨_, rfl⟩
  rw [← hu] at ab
  obtain ⟨t, ht⟩ : ∃ t : Int, t = (10 ^ 60) ^ 5 := ⟨_, rfl⟩
  have t0 : 0 < t := by rw [ht]; decide
  rw [← ht] at q2
  have w4 := bop_modI (i := u) t0 S
  obtain ⟨x, hx⟩ : ∃ x : Int, x = u % t := ⟨_, rfl⟩
  rw [← hx] at w4
  have x0 : 0 ≤ x := by rw [hx]; exact Int.emod_nonneg _ (by omega)
  obtain ⟨y, hy⟩ : ∃ y : Int, y = if decide ((10 : Int) ^ 18 ≤ u) = true then 1 else 0 := ⟨_, rfl⟩
  have y0 : y = 0 ∨ y = 1 := by rw [hy]; split <;> simp
  have w5 := int_bl (decide ((10 : Int) ^ 18 ≤ u)) S
  rw [← hy] at w5
  have w6 := bop_mulI (i := x) (j := y) (.inr ⟨by omega, by omega⟩) S
  have w7 := bop_modI (i := cell) (j := 2305843009213693951) (by decide) S
  obtain ⟨z, hz⟩ : ∃ z : Int, z = cell % 2305843009213693951 := ⟨_, rfl⟩
  rw [← hz] at w7
  have z0 : 0 ≤ z := by rw [hz]; exact Int.emod_nonneg _ (by decide)
  have w8 := bop_mulI (i := z) (j := r3) (.inr ⟨by omega, by omega⟩) S
  have w9 := bop_mulI (i := r4) (j := (pl : Int)) (.inr ⟨by omega, by omega⟩) S
  have w10 := bop_mulI (i := r4 * pl) (j := (pl : Int)) (.inr ⟨by omega, by omega⟩) S
  obtain ⟨m, hm⟩ : ∃ m : Int, m = z * r3 + r4 * pl * pl + r5 := ⟨_, rfl⟩
  have w11 := bop_modI (i := m) (j := 2305843009213693921) (by decide) S
  have m0 : 0 ≤ m % 2305843009213693921 := Int.emod_nonneg _ (by decide)
  have m1 : m % 2305843009213693921 < 2305843009213693921 := Int.emod_lt_of_pos _ (by decide)
  refine ⟨x * y, m % 2305843009213693921, ?_, by rcases y0 with h | h <;> rw [h] <;> omega, m0, by omega⟩
  have hlast : evSs (cfgAt P n) [.asg (.name 3) (.bin .mul (.bin .mod (.prim .int (.prim .abs (.var 2))) (.bin .pow (.bin .pow (.cst (.int 10)) (.cst (.int 60))) (.cst (.int 5)))) (.prim .int (.cmp .ge (.prim .abs (.var 2)) (.bin .pow (.cst (.int 10)) (.cst (.int 18)))))),
      .asg (.name 4) (.bin .mod (.prim .int (.var 2)) (.cst (.int 2305843009213693951))),
      .ret (.thaw (.lst [.var 3, .bin .mod (.prim .int (.bin .add (.bin .add (.bin .mul (.var 4) (.cst (.int r3))) (.bin .mul (.bin .mul (.cst (.int r4)) (.var 1)) (.var 1))) (.cst (.int r5)))) (.cst (.int 2305843009213693921)), .cst (.int 0)]))]
      [some (.scr ns), some (.int (pl : Int)), some (.int cell), none, none] S = .ret (.ref S.length) (S ++ [.lst [.int (x * y), .int (m % 2305843009213693921), .int 0]]) := by
    obtain ⟨c18, h18⟩ : ∃ c : Int, c = 10 ^ 18 := ⟨_, rfl⟩
    obtain ⟨c60, h60⟩ : ∃ c : Int, c = 10 ^ 60 := ⟨_, rfl⟩
    rw [← h18] at q3 w5
    rw [← h60] at q1 q2
    simp [ab, p1_intI, q1, q2, q3, w4, w5, w6, w7, w8, w9, w10, ← hm, w11, le_size]
  show fin (evSs (cfgAt P n) (.asg (.name 2) _ :: _) [some (.scr ns), some (.int (pl : Int)), none, none, none] S) = _
  rw [q_cons, s_asg, ec, ofRes_ok, bindT_name, nextO_some, Out.seq_next]
  exact congrArg fin hlast
end DL
set_option Elab.async false
set_option linter.all false
set_option maxRecDepth 100000
set_option maxHeartbeats 4000000
/-! PL11: offices as values; cells -/
namespace DL
open PySem PySem.PyData
variable {P : Prg} {S : Sto}
def offD (m s : Int) (rs : List D) : D := .tup [.int m, .int s, .tup rs]
structure OffOk (m s : Int) (rs : List D) : Prop where
  m1 : 1 ≤ m
  m2 : m ≤ 100
  s1 : 1 ≤ s
  s2 : s ≤ 100
  few : rs.length ≤ 62
  all : ∀ r ∈ rs, isRuleB r m s = true
  up : risingB rs = true
theorem two7 {i : Int} (h : -1000 ≤ i) (h2 : i ≤ 1000) : i.natAbs < 2 ^ 1000 := by
  have : (2 : Nat) ^ 1000 = 2 ^ 20 * 2 ^ 980 := by rw [← Nat.pow_add]
  have : 1 ≤ (2 : Nat) ^ 980 := Nat.one_le_two_pow
  have : (2 : Nat) ^ 20 * 1 ≤ 2 ^ 20 * 2 ^ 980 := Nat.mul_le_mul_left _ this
  omega
theorem sm_int {i : Int} (h : -1000 ≤ i) (h2 : i ≤ 1000) : sm (.int i) = true := by
  simp only [sm, decide_eq_true_eq]
  exact two7 h h2
theorem smL_ints {ns : List Int} (h : ∀ i ∈ ns, -1000 ≤ i ∧ i ≤ 1000) : smL (ns.map .int) = true := by
  rw [smL_eq, List.all_eq_true]
  intro x hx
  obtain ⟨i, hi, rfl⟩ := List.mem_map.mp hx
  exact sm_int (h i hi).1 (h i hi).2
theorem wtL_ints (ns : List Int) : wtL (ns.map D.int) = 1923 * ns.length := by
  induction ns with
  | nil => rfl
  | cons i ns ih => simp only [List.map_cons, wtL, D.wt, ih, List.length_cons]; omega
theorem rule_sm {m s : Int} {r : D} (hm : m ≤ 100) (hs : s ≤ 100) (h : isRuleB r m s = true) : sm r = true ∧ r.wt ≤ 9625 := by
  obtain ⟨a, b, c, xs, rfl, o⟩ := isRule_form h
  have h1 := o.a0; have h2 := o.a1; have h3 := o.b0; have h4 := o.b1; have h5 := o.c0; have h6 := o.c1; have h7 := o.few
  have i1 := sm_int (i := a) (by omega) (by omega)
  have i2 := sm_int (i := b) (by omega) (by omega)
  have i3 := sm_int (i := c) (by omega) (by omega)
  have i4 := smL_ints (ns := xs) fun i hi => by have := o.put i hi; omega
  refine ⟨?_, ?_⟩
  · simp only [ruleD, sm, smL] at i1 i2 i3 i4 ⊢
    simp only [i1, i2, i3, i4, Bool.and_self]
  · simp only [ruleD, D.wt, wtL, wtL_ints]
    omega
theorem rules_wt {m s : Int} (hm : m ≤ 100) (hs : s ≤ 100) : ∀ {rs : List D}, (∀ r ∈ rs, isRuleB r m s = true) → smL rs = true ∧ wtL rs ≤ 9627 * rs.length
  | [], _ => by simp [smL, wtL]
  | r :: rs, h => by
    obtain ⟨h1, h2⟩ := rule_sm hm hs (h r (List.mem_cons_self ..))
    obtain ⟨h3, h4⟩ := rules_wt hm hs fun r hr => h r (List.mem_cons_of_mem _ hr)
    simp only [smL, wtL, h1, h3, Bool.and_self, List.length_cons, true_and]
    omega
theorem rules_dep {k : Nat} : ∀ {rs : List D}, (∀ r ∈ rs, r.toP.depth ≤ k) → PyData.depthAll (toPL rs) ≤ k
  | [], _ => by simp [toPL, depthAll]
  | r :: rs, h => by
    have h1 := h r (List.mem_cons_self ..)
    have h2 := rules_dep fun r hr => h r (List.mem_cons_of_mem _ hr)
    simp only [toPL, depthAll]
    omega
theorem OffOk.sm {m s : Int} {rs : List D} (o : OffOk m s rs) : DL.sm (offD m s rs) = true ∧ (offD m s rs).wt ≤ 700000 ∧ (offD m s rs).toP.depth ≤ 4 := by
  have h1 := o.m1; have h2 := o.m2; have h3 := o.s1; have h4 := o.s2; have h5 := o.few
  have i1 := sm_int (i := m) (by omega) (by omega)
  have i2 := sm_int (i := s) (by omega) (by omega)
  obtain ⟨i3, i4⟩ := rules_wt o.m2 o.s2 o.all
  refine ⟨?_, ?_, ?_⟩
  · simp only [offD, DL.sm, smL] at i1 i2 ⊢
    simp only [i1, i2, i3, Bool.and_self]
  · simp only [offD, D.wt, wtL]
    omega
  · have := rules_dep (fun r hr => (rule_dep (o.all r hr)).2)
    simp only [offD, D.toP, toPL, depth, depthAll]
    omega
theorem OffOk.ok {m s : Int} {rs : List D} (o : OffOk m s rs) : Ok 700000 4 (offD m s rs) := by
  obtain ⟨h1, h2, h3⟩ := o.sm
  have := sm_base _ h1
  exact ⟨this.pure, this.show_, this.lay, h3, h2⟩
theorem OffOk.office {m s : Int} {rs : List D} (o : OffOk m s rs) (hm : m ≤ 5) (hs : s ≤ 6) (hl : rs.length ≤ 60) : isOfficeB (offD m s rs) = true := by
  have h1 := o.m1; have h3 := o.s1
  have h5 : (rs.all fun r => isRuleB r m s) = true := List.all_eq_true.mpr o.all
  simp only [isOfficeB, offD, toI, h5, o.up, hl, isIntB, Bool.and_eq_true, decide_eq_true_eq, and_true, decide_true]
  omega
theorem cop_eq2 (a b c d : Int) (S : Sto) : cop .eq (.tup [.int a, .int b]) (.tup [.int c, .int d]) S = some (decide (a = c) && decide (b = d)) := by
  have ok : ∀ x y : Int, okP (.tup [.int x, .int y]) = true := fun x y => by
    simp only [okP, D.toP, toPL, canLay0, canLayAll0, depth, depthAll, Bool.and_self, Bool.true_and, decide_eq_true_eq]
    omega
  have e : eqD (.tup [.int a, .int b]) (.tup [.int c, .int d]) = (decide (a = c) && decide (b = d)) := by
    simp only [eqD, D.toP, toPL, eqv, eqvAll, Bool.and_true]
    rfl
  simp only [cop, eqC, see_tup, pureL_cons, pureL_nil, D.pure, Bool.and_self, if_true, ok, e]
/-- the cells that are looked at -/
theorem cells_eq {fx : Str} {nms : List Str} (h : Has P fx (F.cellsOf fx nms)) (hnm : nms.length = 2) (ns : List Int) (l : Int) (h1 : 1 ≤ l) (h2 : l ≤ 64) (hn : ns.length ≤ 63) (n : Nat) :
    ∃ c : Nat, callF P (n + 1) fx [.scr ns, .int l] S = .ok (.lst ((List.range c).map fun i : Nat => D.int (i : Int))) S ∧ c ≤ 64 := by
  rw [call_fn h n rfl]
  have lenS : p1 .len (.scr ns) S = .ok (.int (ns.length : Int)) S := by simp [p1]
  obtain ⟨x, hx⟩ : ∃ x : Int, x = if (ns.length : Int) < l then (ns.length : Int) else l := ⟨_, rfl⟩
  obtain ⟨y, hy⟩ : ∃ y : Int, y = if x > 1 then x else 1 := ⟨_, rfl⟩
  have y0 : 0 ≤ y ∧ y ≤ 64 := by
    rw [hy]; split
    · constructor
      · omega
      · rw [hx]; split <;> omega
    · omega
  have m1 := minR_int S l (ns.length : Int)
  have m2 := maxR_int S 1 x
  rw [← hx] at m1
  rw [← hy] at m2
  have r := irg_nat y (by omega) y0.1 S
  have hlen : ((List.range y.toNat).map fun k : Nat => D.int (k : Int)).length ≤ 2 ^ 24 := by
    rw [List.length_map, List.length_range]; omega
  refine ⟨y.toNat, ?_, by omega⟩
  have rg : rgsD false (.fixed ((List.range y.toNat).map fun k : Nat => D.int (k : Int))) S = .ok (.lst ((List.range y.toNat).map fun k : Nat => D.int (k : Int))) S := by
    simp only [rgsD, hlen, if_true, Bool.false_eq_true, if_false]
  have hz : (F.cellsOf fx nms).names.length - [D.scr ns, D.int l].length = 0 := by
    show nms.length - 2 = 0
    omega
  rw [hz]
  show fin (evSs (cfgAt P n) [_] [some (.scr ns), some (.int l)] S) = _
  simp only [q_cons, s_ret, e_rgs, i_r1, e_max2, e_min2, e_cst, e_var, e_prim, List.getElem?_cons_zero, List.getElem?_cons_succ, Res.bind_ok, lenS, m1, m2, r, rg, ofRes_ok, Out.seq_ret, fin_ret]
end DL
set_option Elab.async false
set_option linter.all false
set_option maxRecDepth 100000
set_option maxHeartbeats 4000000
/-! PL12: comprehensions and loops, shorter; rows of numbers; watchers -/
namespace DL
open PySem PySem.PyData
variable {P : Prg} {S : Sto}
theorem compL_M {tg : Tg} {cond : Env → Sto → Res Bool} {elt : Env → Sto → Res D} {ρ : Env} {q : D → Bool} {g : D → D} : ∀ {xs acc : List D}, (∀ x ∈ xs, ∃ ρ', bindT tg x ρ = some ρ' ∧ cond ρ' S = .ok (q x) S ∧ (q x = true → elt ρ' S = .ok (g x) S)) → acc.length + xs.length ≤ sizeLine →
    compL tg cond elt ρ acc xs S = .ok (acc.reverse ++ (xs.filter q).map g) S
  | [], acc, _, _ => by simp [compL]
  | x :: xs, acc, h, hl => by
    obtain ⟨ρ', h1, h2, h3⟩ := h x (List.mem_cons_self ..)
    have ih := fun acc h' => compL_M (xs := xs) (acc := acc) (fun y hy => h y (List.mem_cons_of_mem _ hy)) h'
    rw [List.length_cons] at hl
    simp only [compL, compTurn, h1, h2, noexc, Res.bind_ok]
    cases hq : q x with
    | true =>
      have h4 : acc.length < sizeLine := by omega
      simp only [if_true, h3 hq, Res.bind_ok, h4, List.filter_cons, hq, List.map_cons]
      rw [ih (g x :: acc) (by rw [List.length_cons]; omega)]
      simp
    | false =>
      simp only [Bool.false_eq_true, if_false, List.filter_cons, hq]
      rw [ih acc (by omega)]
/-- [g(x) for x in xs] -/
theorem lcM {c : Cfg} {elt : E} {tg : Tg} {ρ : Env} {xs : List D} (g : D → D) (h : ∀ x ∈ xs, ∃ ρ', bindT tg x ρ = some ρ' ∧ evE c elt ρ' S = .ok (g x) S) (hl : xs.length ≤ 1000000) : lcRun c elt tg [] ρ (.fixed xs) S = .ok (xs.map g) S := by
  have := compL_M (tg := tg) (cond := evC c []) (elt := evE c elt) (ρ := ρ) (q := fun _ => true) (g := g) (xs := xs) (acc := []) (S := S) (fun x hx => by
    obtain ⟨ρ', h1, h2⟩ := h x hx
    exact ⟨ρ', h1, by simp, fun _ => h2⟩) (by simpa using le_size hl)
  rw [List.filter_eq_self.mpr (fun x _ => rfl)] at this
  exact this
/-- [g(x) for x in xs if q(x)] -/
theorem lcF {c : Cfg} {elt e : E} {tg : Tg} {ρ : Env} {xs : List D} (q : D → Bool) (g : D → D) (h : ∀ x ∈ xs, ∃ ρ', bindT tg x ρ = some ρ' ∧ evE c e ρ' S = .ok (.bl (q x)) S ∧ (q x = true → evE c elt ρ' S = .ok (g x) S)) (hl : xs.length ≤ 1000000) :
    lcRun c elt tg [e] ρ (.fixed xs) S = .ok ((xs.filter q).map g) S := by
  have := compL_M (tg := tg) (cond := evC c [e]) (elt := evE c elt) (ρ := ρ) (q := q) (g := g) (xs := xs) (acc := []) (S := S) (fun x hx => by
    obtain ⟨ρ', h1, h2, h3⟩ := h x hx
    refine ⟨ρ', h1, ?_, h3⟩
    have h4 : evC c [e] ρ' S = (evE c e ρ' S).bind fun x S1 => match truth S1 x with
      | some true => evC c [] ρ' S1
      | some false => .ok false S1
      | Option.none => .bad := by simp only [evC] <;> rfl
    rw [h4, h2]
    cases q x <;> simp) (by simpa using le_size hl)
  exact this
/-- a loop that may return -/
theorem loop_ret {tg : Tg} {body : Env → Sto → Out} {d : D} {p : D → Bool} {F : Option D → Env} : ∀ {xs : List D} {o : Option D}, (∀ o x, x ∈ xs → ∃ ρ', bindT tg x (F o) = some ρ' ∧ body ρ' S = if p x then .next (F (some x)) S else .ret d S) →
    (xs.all p = true → ∃ o', loopL tg body xs (F o) S = .next (F o') S) ∧ (xs.all p = false → loopL tg body xs (F o) S = .ret d S)
  | [], o, _ => ⟨fun _ => ⟨o, rfl⟩, fun h => by simp at h⟩
  | x :: xs, o, h => by
    obtain ⟨ρ', h1, h2⟩ := h o x (List.mem_cons_self ..)
    obtain ⟨i1, i2⟩ := loop_ret (xs := xs) (o := some x) fun o y hy => h o y (List.mem_cons_of_mem _ hy)
    simp only [loopL, h1, h2, List.all_cons]
    cases hp : p x with
    | true =>
      simp only [if_true, Bool.true_and]
      exact ⟨i1, i2⟩
    | false => simp
theorem for_ret {c : Cfg} {tg : Tg} {b : List Stm} {d : D} (p : D → Bool) (F : Option D → Env) {xs : List D} {o : Option D} (h : ∀ o x, x ∈ xs → ∃ ρ', bindT tg x (F o) = some ρ' ∧ evSs c b ρ' S = if p x then .next (F (some x)) S else .ret d S) :
    (xs.all p = true → ∃ o', forRun c tg b (.fixed xs) (F o) S = .next (F o') S) ∧ (xs.all p = false → forRun c tg b (.fixed xs) (F o) S = .ret d S) := loop_ret h
@[simp] theorem isTupD_tup (xs : List D) : isTupD (.tup xs) = true := rfl
/-- all of them (left as it is by simp) -/
def allB (f : D → Bool) (xs : List D) : Bool := xs.all f
@[simp high] theorem p1_allB (f : D → Bool) (xs : List D) (S : Sto) : p1 .all (.lst (xs.map fun x => D.bl (f x))) S = .ok (.bl (allB f xs)) S := p1_all f xs S
theorem allB_mem {f : D → Bool} {xs : List D} (h : allB f xs = true) : ∀ x ∈ xs, f x = true := List.all_eq_true.mp h
theorem allB_of {f : D → Bool} {xs : List D} (h : ∀ x ∈ xs, f x = true) : allB f xs = true := List.all_eq_true.mpr h
theorem allB_no {f : D → Bool} {xs : List D} (h : allB f xs = false) : ∃ x ∈ xs, f x = false := by
  have : xs.all f = false := h
  simpa using this
theorem allB_and (p q : D → Bool) : ∀ xs : List D, allB (fun x => p x && q x) xs = (allB p xs && allB q xs)
  | [] => rfl
  | x :: xs => by
    have ih := allB_and p q xs
    unfold allB at ih ⊢
    simp only [List.all_cons, ih]
    cases p x <;> cases q x <;> simp
theorem allB_congr {p q : D → Bool} : ∀ {xs : List D}, (∀ x ∈ xs, p x = q x) → allB p xs = allB q xs
  | [], _ => rfl
  | x :: xs, h => by
    have ih := allB_congr (xs := xs) fun y hy => h y (List.mem_cons_of_mem _ hy)
    unfold allB at ih ⊢
    simp only [List.all_cons, ih, h x (List.mem_cons_self ..)]
/-! rows of numbers -/
theorem ltD_int (i j : Int) : ltD (.int i) (.int j) = decide (i < j) := by
  have h : ∀ a b : Int, PyProof.Rows.lexLt PyProof.Rows.itemOrd [.inl a] [.inl b] = (decide (a < b) || (decide (a = b) && false)) := by
    intro a b
    unfold PyProof.Rows.lexLt
    simp [PyProof.Rows.lexLt, PyProof.Rows.itemLt]
    try rfl
  have := h i j
  simp only [Bool.and_false, Bool.or_false] at this
  exact this
theorem rising_ints (h : Has P "is_rising" F.is_rising) (ns : List Int) (hl : ns.length ≤ 1000000) (n : Nat) : callF P (n + 1) "is_rising" [.tup (ns.map .int)] S = .ok (.bl (risingB (ns.map .int))) S :=
  is_rising_eq h (fun x hx y hy => by
    obtain ⟨i, _, rfl⟩ := List.mem_map.mp hx
    obtain ⟨j, _, rfl⟩ := List.mem_map.mp hy
    simp [ltD_int]) (by simpa using hl) n
def intsB (k : Int) : D → Bool
  | .tup xs => allB (fun x => isIntB x 0 (k - 1)) xs
  | _ => false
def risB : D → Bool
  | .tup xs => risingB xs
  | _ => false
def lenB (k : Int) : D → Bool
  | .tup xs => decide ((xs.length : Int) = k)
  | _ => false
/-- is_watcher's look -/
def isWatcherB (m : Int) (v : D) : Bool := match v with
  | .tup [.tup rows, bad] => decide (1 ≤ (rows.length : Int)) && decide ((rows.length : Int) ≤ 4) && allB (fun r => lenB m r && intsB rows.length r) rows && (intsB rows.length bad && risB bad)
  | _ => false
namespace F
def check_office (r : Stm) : Fn := { name := "check_office", names := ["value"], pars := 1, body := [
    .ifs (.not (.call "is_office" [.var 0])) [r] []] }
def is_row : Fn := { name := "is_row", names := ["value", "most", "one"], pars := 2, body := [
    .ret (.and (.isi (.var 0) "tuple") (.and (.prim .all (.lc (.call "is_integer" [.var 2, .cst (.int 0), .bin .sub (.var 1) (.cst (.int 1))]) (.name 2) [2] (.iseq (.var 0)) [])) (.call "is_rising" [.var 0])))] }
def check_moods (r : Stm) : Fn := { name := "check_moods", names := ["office", "value"], pars := 2, body := [
    .ifs (.not (.call "is_row" [.var 1, .idx (.var 0) (.cst (.int 0))])) [r] []] }
def check_mood (r : Stm) : Fn := { name := "check_mood", names := ["office", "value"], pars := 2, body := [
    .ifs (.not (.call "is_integer" [.var 1, .cst (.int 0), .bin .sub (.idx (.var 0) (.cst (.int 0))) (.cst (.int 1))])) [r] []] }
def is_watcher : Fn := { name := "is_watcher", names := ["office", "value", "many", "row", "state"], pars := 2, body := [
    .expr (.call "check_office" [.var 0]),
    .ifs (.or (.not (.call "is_tuple" [.var 1, .glb "PAIR", .glb "PAIR"])) (.not (.call "is_tuple" [.idx (.var 1) (.cst (.int 0)), .cst (.int 1), .glb "MOST_STATES"]))) [.ret (.cst (.bl false))] [],
    .asg (.name 2) (.prim .len (.idx (.var 1) (.cst (.int 0)))),
    .ifs (.not (.prim .all (.lc (.call "is_tuple" [.var 3, .idx (.var 0) (.cst (.int 0)), .idx (.var 0) (.cst (.int 0))]) (.name 3) [3] (.iseq (.idx (.var 1) (.cst (.int 0)))) []))) [.ret (.cst (.bl false))] [],
    .ifs (.not (.prim .all (.lc (.prim .all (.lc (.call "is_integer" [.var 4, .cst (.int 0), .bin .sub (.var 2) (.cst (.int 1))]) (.name 4) [4] (.iseq (.var 3)) [])) (.name 3) [3] (.iseq (.idx (.var 1) (.cst (.int 0)))) []))) [.ret (.cst (.bl false))] [],
    .ifs (.or (.not (.isi (.idx (.var 1) (.cst (.int 1))) "tuple")) (.not (.prim .all (.lc (.call "is_integer" [.var 4, .cst (.int 0), .bin .sub (.var 2) (.cst (.int 1))]) (.name 4) [4] (.iseq (.idx (.var 1) (.cst (.int 1)))) [])))) [.ret (.cst (.bl false))] [],
    .ret (.call "is_rising" [.idx (.var 1) (.cst (.int 1))])] }
end F
theorem check_office_ok {r : Stm} (h : Has P "check_office" (F.check_office r)) (ho : Offices P) {v : D} (hv : v.pure = true) (e : isOfficeB v = true) (n : Nat) : callF P (n + 5) "check_office" [v] S = .ok .non S := by
  rw [call_fn h (n + 4) rfl]
  have e1 := is_office_eq (S := S) ho hv n
  simp [F.check_office, e1, e]
theorem isTup2 {v : D} (h : isTupB v 2 2 = true) : ∃ a b, v = .tup [a, b] := by
  cases v with
  | tup xs =>
    simp only [isTupB, Bool.and_eq_true, decide_eq_true_eq] at h
    match xs, h with
    | [a, b], _ => exact ⟨a, b, rfl⟩
    | [], h | [_], h => simp at h
    | _ :: _ :: _ :: _, h => simp only [List.length_cons] at h; omega
  | _ => simp [isTupB] at h
theorem isTupB_iff {v : D} {lo hi : Int} : isTupB v lo hi = true ↔ ∃ xs, v = .tup xs ∧ lo ≤ (xs.length : Int) ∧ (xs.length : Int) ≤ hi := by
  cases v with
  | tup xs => simp [isTupB]
  | _ => simp [isTupB]
theorem isTup_lenB (r : D) (m : Int) : isTupB r m m = lenB m r := by
  cases r with
  | tup xs =>
    simp only [isTupB, lenB]
    rw [Bool.eq_iff_iff]
    simp only [Bool.and_eq_true, decide_eq_true_eq]
    omega
  | _ => rfl
theorem isWatcher_no {v : D} {m : Int} (h : isTupB v 2 2 = false) : isWatcherB m v = false := by
  cases v with
  | tup xs =>
    match xs, h with
    | [_, _], h => simp [isTupB] at h
    | [], _ | [_], _ | _ :: _ :: _ :: _, _ => simp [isWatcherB]
  | _ => rfl
end DL
set_option Elab.async false
set_option linter.all false
set_option maxRecDepth 100000
set_option maxHeartbeats 4000000
/-! PL13: watchers' looks -/
namespace DL
open PySem PySem.PyData
variable {P : Prg} {S : Sto}
/-- what the looks of watchers need -/
structure Watchers (P : Prg) : Prop where
  offs : Offices P
  chk : ∃ r, Has P "check_office" (F.check_office r)
  is_ : Has P "is_watcher" F.is_watcher
  pair : P.glb "PAIR" = some (.int 2)
  states : P.glb "MOST_STATES" = some (.int 4)
theorem all_lenB {rows : List D} {m : Int} (h : allB (lenB m) rows = true) : ∀ r ∈ rows, ∃ xs, r = .tup xs ∧ (xs.length : Int) = m := fun r hr => by
  have := allB_mem h r hr
  cases r with
  | tup xs => exact ⟨xs, rfl, by simpa [lenB] using this⟩
  | _ => simp [lenB] at this
theorem is_watcher_eq (h : Watchers P) {m s : Int} {rs : List D} (o : isOfficeB (offD m s rs) = true) (op : (offD m s rs).pure = true) (hm : m ≤ 1000) {v : D} (hv : v.pure = true) (hw : v.wt ≤ 1900000) (n : Nat) : callF P (n + 6) "is_watcher" [offD m s rs, v] S = .ok (.bl (isWatcherB m v)) S := by
  rw [call_fn h.is_ (n + 5) rfl]
  obtain ⟨r, hr⟩ := h.chk
  have e0 := check_office_ok (S := S) hr h.offs op o n
  have e1 := is_tuple_eq (S := S) h.offs.tuple hv 2 2 (n + 4)
  unfold offD at e0 ⊢
  cases ht : isTupB v 2 2 with
  | false => simp [F.is_watcher, e0, e1, ht, h.pair, isWatcher_no ht]
  | true =>
    obtain ⟨a, b, rfl⟩ := isTup2 ht
    simp only [pure_tup, pureL_cons, pureL_nil, Bool.and_eq_true] at hv
    have e2 := is_tuple_eq (S := S) h.offs.tuple hv.1 1 4 (n + 4)
    cases c1 : isTupB a 1 4 with
    | false =>
      have : isWatcherB m (.tup [a, b]) = false := by
        cases a with
        | tup rows =>
          simp only [isTupB] at c1
          simp only [isWatcherB, c1, Bool.false_and]
        | _ => rfl
      simp [F.is_watcher, e0, e1, ht, h.pair, h.states, e2, c1, this]
    | true =>
    obtain ⟨rows, rfl, l1, l2⟩ := isTupB_iff.mp c1
    have c1' := c1
    simp only [isTupB] at c1'
    have hp : ∀ r ∈ rows, r.pure = true := fun r h => pure_mem (by simpa using hv.1) h
    have k0 : p1 .len (.tup rows) S = .ok (.int (rows.length : Int)) S := by simp [p1]
    have e3 := isi_tuple hv.2.1 S
    simp [F.is_watcher, e0, e1, ht, h.pair, h.states, e2, c1, k0]
    rw [lcM (g := fun r => .bl (lenB m r)) (fun x hx => ⟨_, rfl, by simp [is_tuple_eq h.offs.tuple (hp x hx), isTup_lenB]⟩) (by omega)]
    simp
    cases c2 : allB (lenB m) rows with
    | false =>
      have : isWatcherB m (.tup [.tup rows, b]) = false := by
        simp only [isWatcherB, allB_and, c1', c2, Bool.false_and, Bool.true_and]
      simp [this, c2]
    | true =>
    have hrow := all_lenB c2
    simp [c2]
    rw [lcM (g := fun r => .bl (intsB rows.length r)) (fun x hx => ⟨_, rfl, by
      obtain ⟨xs, rfl, hl⟩ := hrow x hx
      have hpx : ∀ y ∈ xs, y.pure = true := fun y hy => pure_mem (by simpa using hp _ hx) hy
      simp
      rw [lcM (g := fun y => .bl (isIntB y 0 (rows.length - 1))) (fun y hy => ⟨_, rfl, by simp [is_integer_eq h.offs.int h.offs.whole (hpx y hy)]⟩) (by omega)]
      simp [intsB]⟩) (by omega)]
    simp
    cases c3 : allB (intsB rows.length) rows with
    | false =>
      have : isWatcherB m (.tup [.tup rows, b]) = false := by
        simp only [isWatcherB, allB_and, c1', c2, c3, Bool.false_and, Bool.true_and, Bool.and_false]
      simp [this, c3]
    | true =>
    simp [e3, c3]
    cases b with
    | tup bs =>
      have hpb : ∀ y ∈ bs, y.pure = true := fun y hy => pure_mem (by simpa using hv.2.1) hy
      have hbl : bs.length ≤ 1000000 := by
        have := len_wt bs
        simp only [D.wt, wtL] at hw
        omega
      simp [isTupD]
      rw [lcM (g := fun y => .bl (isIntB y 0 (rows.length - 1))) (fun y hy => ⟨_, rfl, by simp [is_integer_eq h.offs.int h.offs.whole (hpb y hy)]⟩) hbl]
      simp
      have wb : isWatcherB m (.tup [.tup rows, .tup bs]) = (allB (fun y => isIntB y 0 (rows.length - 1)) bs && risingB bs) := by
        show (_ && allB (fun r => lenB m r && intsB rows.length r) rows && (allB _ bs && risingB bs)) = _
        rw [c1', allB_and, c2, c3]
        simp
      rw [wb]
      cases c4 : allB (fun y => isIntB y 0 (rows.length - 1)) bs with
      | false => simp [c4]
      | true =>
        obtain ⟨ns, rfl, _⟩ := ints_form c4
        have e5 := rising_ints (S := S) h.offs.rising ns (by simpa using hbl) (n + 4)
        simp [c4, e5]
    | _ =>
      simp [isTupD, isWatcherB, intsB, risB]
/-! a law's own look -/
namespace F
def law_is_watcher : Fn := { name := "_law_is_watcher", names := ["office", "value", "many", "row", "one"], pars := 2, body := [
    .ifs (.or (.not (.isi (.var 1) "tuple")) (.cmp .ne (.prim .len (.var 1)) (.cst (.int 2)))) [.ret (.cst (.bl false))] [],
    .ifs (.or (.not (.isi (.idx (.var 1) (.cst (.int 0))) "tuple")) (.not (.chain .le .le (.cst (.int 1)) (.prim .len (.idx (.var 1) (.cst (.int 0)))) (.cst (.int 4))))) [.ret (.cst (.bl false))] [],
    .asg (.name 2) (.prim .len (.idx (.var 1) (.cst (.int 0)))),
    .for (.name 3) (.iseq (.idx (.var 1) (.cst (.int 0)))) [.ifs (.or (.not (.isi (.var 3) "tuple")) (.cmp .ne (.prim .len (.var 3)) (.idx (.var 0) (.cst (.int 0))))) [.ret (.cst (.bl false))] [], .ifs (.not (.prim .all (.lc (.call "_law_is_int" [.var 4, .cst (.int 0), .bin .sub (.var 2) (.cst (.int 1))]) (.name 4) [4] (.iseq (.var 3)) []))) [.ret (.cst (.bl false))] []],
    .ifs (.or (.not (.isi (.idx (.var 1) (.cst (.int 1))) "tuple")) (.not (.prim .all (.lc (.call "_law_is_int" [.var 4, .cst (.int 0), .bin .sub (.var 2) (.cst (.int 1))]) (.name 4) [4] (.iseq (.idx (.var 1) (.cst (.int 1)))) [])))) [.ret (.cst (.bl false))] [],
    .ret (.cmp .eq (.prim .list (.idx (.var 1) (.cst (.int 1)))) (.prim .sorted (.prim .set (.idx (.var 1) (.cst (.int 1))))))] }
end F
theorem tup_cases (v : D) : (∃ xs, v = .tup xs) ∨ isTupD v = false := by
  cases v <;> first | exact .inl ⟨_, rfl⟩ | exact .inr rfl
/-- list(xs) == sorted(set(xs)) of whole numbers: whether they ascend -/
theorem rising_law (ns : List Int) (hl : ns.length < 4000) (S : Sto) :
    p1 .set (.tup (ns.map .int)) S = .ok (.set (dedup [] (ns.map .int))) S ∧ p1 .sorted (.set (dedup [] (ns.map .int))) S = .ok (.lst (sortD (dedup [] (ns.map .int)))) S ∧
      cop .eq (.lst (ns.map .int)) (.lst (sortD (dedup [] (ns.map .int)))) S = some (risingB (ns.map .int)) := by
  have hk : ∀ x ∈ ns.map D.int, x.keyable = true := fun x hx => by obtain ⟨i, _, rfl⟩ := List.mem_map.mp hx; rfl
  have hp : ∀ x ∈ ns.map D.int, x.pure = true := fun x hx => by obtain ⟨i, _, rfl⟩ := List.mem_map.mp hx; rfl
  have hm : ∀ y, y ∈ dedup [] (ns.map D.int) ↔ y ∈ ns.map D.int := fun y => by rw [dedup_memK _ [] (fun x h => by cases h) hk y]; simp
  have hi : ∀ x ∈ dedup [] (ns.map D.int), ∃ i : Int, x = .int i := fun x hx => by
    obtain ⟨i, _, rfl⟩ := List.mem_map.mp ((hm x).mp hx)
    exact ⟨i, rfl⟩
  have hs : ∀ x ∈ sortD (dedup [] (ns.map D.int)), ∃ i : Int, x = .int i := fun x hx => hi x ((sortD_perm _).mem_iff.mp hx)
  have ha : ∀ x ∈ ns.map D.int, ∀ y ∈ ns.map D.int, alikeD x y = true := fun x hx y hy => by
    obtain ⟨i, _, rfl⟩ := List.mem_map.mp hx
    obtain ⟨j, _, rfl⟩ := List.mem_map.mp hy
    simp [alikeD, D.toP, PySem.W.alike]
  have okI : ∀ {xs : List D}, (∀ x ∈ xs, ∃ i : Int, x = .int i) → okP (.tup xs) = true ∧ pureL xs = true := fun {xs} h => ⟨tup_okP (k := 0) (fun r hr => by
    obtain ⟨i, rfl⟩ := h r hr
    simp [D.toP, PyData.canLay0, PyData.depth]) (by decide), by
    rw [pureL_eq, List.all_eq_true]
    intro x hx
    obtain ⟨i, rfl⟩ := h x hx
    rfl⟩
  refine ⟨p1_set rfl ?_, p1_sortedSet ?_ (okI hi).1, ?_⟩
  · rw [setable, Bool.or_eq_true]
    right
    simp only [Bool.and_eq_true, List.all_eq_true, decide_eq_true_eq, List.length_map]
    refine ⟨fun x hx => ?_, hl⟩
    obtain ⟨i, _, rfl⟩ := List.mem_map.mp hx
    rfl
  · simp only [sortable, Bool.and_eq_true, Bool.or_eq_true, List.all_eq_true]
    refine ⟨fun x hx y hy => ha x ((hm x).mp hx) y ((hm y).mp hy), .inr fun x hx => ?_⟩
    obtain ⟨i, rfl⟩ := hi x hx
    rfl
  · obtain ⟨b, e, q⟩ := eq_lsts (S := S) hk (fun x hx => by obtain ⟨i, rfl⟩ := hs x hx; rfl) (okI (xs := ns.map .int) fun x hx => by obtain ⟨i, _, rfl⟩ := List.mem_map.mp hx; exact ⟨i, rfl⟩).1 (okI hs).1 (okI (xs := ns.map .int) fun x hx => by obtain ⟨i, _, rfl⟩ := List.mem_map.mp hx; exact ⟨i, rfl⟩).2 (okI hs).2
    rw [e]
    congr 1
    rw [Bool.eq_iff_iff, q, eq_comm, sorted_iff hk ha]
theorem law_is_watcher_eq (h : Has P "_law_is_watcher" F.law_is_watcher) (hi : Has P "_law_is_int" F.law_is_int) {m s : Int} {rs : List D} {v : D} (hv : v.pure = true) (hw : v.wt ≤ 1900000) (n : Nat) : callF P (n + 2) "_law_is_watcher" [offD m s rs, v] S = .ok (.bl (isWatcherB m v)) S := by
  rw [call_fn h (n + 1) rfl]
  have e1 := isi_tuple hv S
  unfold offD
  rcases tup_cases v with ⟨vs, rfl⟩ | hn
  rotate_left
  · have : isWatcherB m v = false := by cases v <;> first | rfl | cases hn
    simp [F.law_is_watcher, e1, hn, this]
  by_cases hl : ((vs.length : Nat) : Int) = 2
  rotate_left
  · have : isWatcherB m (.tup vs) = false := isWatcher_no (isTup_len (k := 2) hl)
    simp [F.law_is_watcher, e1, hl, this]
  obtain ⟨a, b, rfl⟩ : ∃ a b, vs = [a, b] := by
    match vs, hl with
    | [a, b], _ => exact ⟨a, b, rfl⟩
    | [], h | [_], h => simp at h
    | _ :: _ :: _ :: _, h => simp only [List.length_cons] at h; omega
  simp only [pure_tup, pureL_cons, pureL_nil, Bool.and_eq_true] at hv
  have e2 := isi_tuple hv.1 S
  rcases tup_cases a with ⟨rows, rfl⟩ | hn
  rotate_left
  · have : isWatcherB m (.tup [a, b]) = false := by cases a <;> first | rfl | cases hn
    simp [F.law_is_watcher, e1, e2, hn, this]
  have k0 : p1 .len (.tup rows) S = .ok (.int (rows.length : Int)) S := by simp [p1]
  by_cases l1 : 1 ≤ (rows.length : Int)
  rotate_left
  · have : isWatcherB m (.tup [.tup rows, b]) = false := by simp only [isWatcherB, l1, decide_false, Bool.false_and]
    simp [F.law_is_watcher, e1, e2, k0, l1, this]
  by_cases l2 : (rows.length : Int) ≤ 4
  rotate_left
  · have : isWatcherB m (.tup [.tup rows, b]) = false := by simp only [isWatcherB, l2, decide_false, Bool.false_and, Bool.and_false]
    simp [F.law_is_watcher, e1, e2, k0, l1, l2, this]
  simp [F.law_is_watcher, e1, e2, k0, l1, l2]
  have hp : ∀ r ∈ rows, r.pure = true := fun r h => pure_mem (by simpa using hv.1) h
  have hlr : rows.length ≤ 4 := by omega
  have lp := for_ret (S := S) (c := cfgAt P (n + 1)) (tg := .name 3) (b := [.ifs (.or (.not (.isi (.var 3) "tuple")) (.cmp .ne (.prim .len (.var 3)) (.idx (.var 0) (.cst (.int 0))))) [.ret (.cst (.bl false))] [], .ifs (.not (.prim .all (.lc (.call "_law_is_int" [.var 4, .cst (.int 0), .bin .sub (.var 2) (.cst (.int 1))]) (.name 4) [4] (.iseq (.var 3)) []))) [.ret (.cst (.bl false))] []]) (d := .bl false)
    (fun r => lenB m r && intsB rows.length r) (fun o => [some (.tup [.int m, .int s, .tup rs]), some (.tup [.tup rows, b]), some (.int (rows.length : Int)), o, none]) (xs := rows) (o := none) (fun o x hx => ⟨_, rfl, by
      have e3 := isi_tuple (hp x hx) S
      rcases tup_cases x with ⟨xs, rfl⟩ | hn
      rotate_left
      · have : lenB m x = false := by cases x <;> first | rfl | cases hn
        simp [e3, hn, this]
      have k3 : p1 .len (.tup xs) S = .ok (.int (xs.length : Int)) S := by simp [p1]
      by_cases hl : (xs.length : Int) = m
      rotate_left
      · simp [e3, k3, hl, lenB]
      have hpx : ∀ y ∈ xs, y.pure = true := fun y hy => pure_mem (by simpa using hp _ hx) hy
      have hxl : xs.length ≤ 1000000 := by
        have h1 := len_wt xs
        have h2 := wt_mem hx
        simp only [D.wt, wtL] at hw h2
        omega
      simp [e3, k3, hl, lenB, intsB]
      rw [lcM (g := fun y => .bl (isIntB y 0 (rows.length - 1))) (fun y hy => ⟨_, rfl, by simp [law_is_int_eq hi (hpx y hy)]⟩) hxl]
      simp
      cases allB (fun y => isIntB y 0 (rows.length - 1)) xs <;> simp⟩)
  cases c2 : allB (fun r => lenB m r && intsB rows.length r) rows with
  | false =>
    have : isWatcherB m (.tup [.tup rows, b]) = false := by simp only [isWatcherB, c2, Bool.false_and, Bool.and_false]
    rw [lp.2 c2]
    simp [this]
  | true =>
  obtain ⟨o', e4⟩ := lp.1 c2
  rw [e4]
  have wb : isWatcherB m (.tup [.tup rows, b]) = (intsB rows.length b && risB b) := by
    simp only [isWatcherB, c2, l1, l2, decide_true, Bool.true_and]
  rw [wb]
  have e5 := isi_tuple hv.2.1 S
  rcases tup_cases b with ⟨bs, rfl⟩ | hn
  rotate_left
  · have : intsB rows.length b = false := by cases b <;> first | rfl | cases hn
    simp [e5, hn, this]
  have hpb : ∀ y ∈ bs, y.pure = true := fun y hy => pure_mem (by simpa using hv.2.1) hy
  have hbl : bs.length ≤ 1000000 := by
    have := len_wt bs
    simp only [D.wt, wtL] at hw
    omega
  simp [e5]
  rw [lcM (g := fun y => .bl (isIntB y 0 (rows.length - 1))) (fun y hy => ⟨_, rfl, by simp [law_is_int_eq hi (hpb y hy)]⟩) hbl]
  simp
  have ib : intsB rows.length (.tup bs) = allB (fun y => isIntB y 0 (rows.length - 1)) bs := rfl
  have rb : risB (.tup bs) = risingB bs := rfl
  rw [ib, rb]
  cases c4 : allB (fun y => isIntB y 0 (rows.length - 1)) bs with
  | false => simp [c4]
  | true =>
    obtain ⟨ns, rfl, _⟩ := ints_form c4
    have hns : ns.length < 4000 := by
      have := wtL_ints ns
      simp only [D.wt, wtL] at hw
      omega
    obtain ⟨w1, w2, w3⟩ := rising_law ns hns S
    have w4 : p1 .list (.tup (ns.map .int)) S = .ok (.lst (ns.map .int)) S := rfl
    simp [c4, w1, w2, w3, w4]
end DL
set_option Elab.async false
set_option linter.all false
set_option maxRecDepth 100000
set_option maxHeartbeats 4000000
/-! PL14: comprehensions that draw; drawn watchers; the told watchers -/
namespace DL
open PySem PySem.PyData
variable {P : Prg} {S : Sto}
theorem compL_E {tg : Tg} {cond : Env → Sto → Res Bool} {elt : Env → Sto → Res D} {ρ : Env} (I : List D → List D → Sto → Prop) : ∀ {xs acc : List D} {S : Sto}, I acc xs S →
    (∀ acc x xs T, I acc (x :: xs) T → ∃ ρ', bindT tg x ρ = some ρ' ∧ ((∃ T1 d T', cond ρ' T = .ok true T1 ∧ elt ρ' T1 = .ok d T' ∧ I (d :: acc) xs T') ∨ ∃ T', cond ρ' T = .ok false T' ∧ I acc xs T')) →
    acc.length + xs.length ≤ sizeLine → ∃ ys S', compL tg cond elt ρ acc xs S = .ok ys.reverse S' ∧ I ys [] S'
  | [], acc, S, h, _, _ => ⟨acc, S, by simp [compL], h⟩
  | x :: xs, acc, S, h, hs, hl => by
    rw [List.length_cons] at hl
    obtain ⟨ρ', h1, ⟨T1, d, T', h2, h3, h4⟩ | ⟨T', h2, h4⟩⟩ := hs acc x xs S h
    · obtain ⟨ys, S2, e, h5⟩ := compL_E I (xs := xs) (acc := d :: acc) h4 hs (by rw [List.length_cons]; omega)
      have h6 : acc.length < sizeLine := by omega
      refine ⟨ys, S2, ?_, h5⟩
      simp only [compL, compTurn, h1, h2, noexc, Res.bind_ok, if_true, h3, h6]
      exact e
    · obtain ⟨ys, S2, e, h5⟩ := compL_E I (xs := xs) (acc := acc) h4 hs (by omega)
      refine ⟨ys, S2, ?_, h5⟩
      simp only [compL, compTurn, h1, h2, noexc, Res.bind_ok, Bool.false_eq_true, if_false]
      exact e
/-- a comprehension that may change the store -/
theorem lcE {c : Cfg} {elt : E} {tg : Tg} {ifs : List E} {ρ : Env} {xs : List D} (I : List D → List D → Sto → Prop) (h0 : I [] xs S)
    (h : ∀ acc x xs T, I acc (x :: xs) T → ∃ ρ', bindT tg x ρ = some ρ' ∧ ((∃ T1 d T', evC c ifs ρ' T = .ok true T1 ∧ evE c elt ρ' T1 = .ok d T' ∧ I (d :: acc) xs T') ∨ ∃ T', evC c ifs ρ' T = .ok false T' ∧ I acc xs T')) (hl : xs.length ≤ 1000000) :
    ∃ ys S', lcRun c elt tg ifs ρ (.fixed xs) S = .ok ys.reverse S' ∧ I ys [] S' := compL_E I h0 h (by simpa using le_size hl)
theorem evC_one (c : Cfg) (e : E) (ρ : Env) (S : Sto) : evC c [e] ρ S = (evE c e ρ S).bind fun x S1 => match truth S1 x with
    | some true => .ok true S1
    | some false => .ok false S1
    | Option.none => .bad := by
  simp only [evC] <;> rfl
/-- a comprehension over a list of the store that stays as it is -/
theorem compLive_M {tg : Tg} {cond : Env → Sto → Res Bool} {elt : Env → Sto → Res D} {ρ : Env} {g : D → D} {n : Nat} {all : List D} (hn : S[n]? = some (.lst all)) (h : ∀ x ∈ all, ∃ ρ', bindT tg x ρ = some ρ' ∧ cond ρ' S = .ok true S ∧ elt ρ' S = .ok (g x) S) (hl : all.length ≤ sizeLine) :
    ∀ (k : Nat) (acc : List D), k ≤ all.length → acc.length = all.length - k → compLive tg cond elt ρ n all.length k acc S = .ok (acc.reverse ++ (all.drop (all.length - k)).map g) S
  | 0, acc, _, _ => by simp [compLive, hn]
  | k + 1, acc, hk, ha => by
    have hlt : all.length - (k + 1) < all.length := by omega
    have e1 : itemAt S n all.length (all.length - (k + 1)) = some (all[all.length - (k + 1)]) := by
      simp only [itemAt, hn, if_true, List.getElem?_eq_getElem hlt]
    obtain ⟨ρ', h1, h2, h3⟩ := h _ (List.getElem_mem hlt)
    have h4 : acc.length < sizeLine := by omega
    simp only [compLive, e1, compTurn, h1, h2, h3, noexc, Res.bind_ok, if_true, h4]
    rw [compLive_M hn h hl k _ (by omega) (by rw [List.length_cons]; omega)]
    have e2 : all.drop (all.length - (k + 1)) = all[all.length - (k + 1)] :: all.drop (all.length - k) := by
      rw [List.drop_eq_getElem_cons hlt]
      congr 2
      omega
    rw [e2]
    simp
theorem lcLive {c : Cfg} {elt : E} {tg : Tg} {ρ : Env} {n : Nat} {all : List D} (g : D → D) (hn : S[n]? = some (.lst all)) (h : ∀ x ∈ all, ∃ ρ', bindT tg x ρ = some ρ' ∧ evE c elt ρ' S = .ok (g x) S) (hl : all.length ≤ 1000000) :
    lcRun c elt tg [] ρ (.live n all.length) S = .ok (all.map g) S := by
  have := compLive_M (tg := tg) (cond := evC c []) (elt := evE c elt) (ρ := ρ) (g := g) hn (fun x hx => by
    obtain ⟨ρ', h1, h2⟩ := h x hx
    exact ⟨ρ', h1, by simp, h2⟩) (le_size hl) all.length [] (Nat.le_refl _) (by simp)
  simp only [Nat.sub_self, List.drop_zero, List.reverse_nil, List.nil_append] at this
  exact this
/-- [f(k) for k in range(m)] -/
theorem lcR {c : Cfg} {elt : E} {tg : Tg} {ρ : Env} {m : Nat} (f : Nat → D) (h : ∀ k : Nat, k < m → ∃ ρ', bindT tg (.int (k : Int)) ρ = some ρ' ∧ evE c elt ρ' S = .ok (f k) S) (hm : m ≤ 1000000) : lcRun c elt tg [] ρ (.fixed ((List.range m).map fun k : Nat => D.int (k : Int))) S = .ok ((List.range m).map f) S := by
  rw [lcM (g := fun x => match x with | .int i => f i.toNat | x => x) (fun x hx => by
    obtain ⟨k, hk, rfl⟩ := List.mem_map.mp hx
    obtain ⟨ρ', h1, h2⟩ := h k (List.mem_range.mp hk)
    exact ⟨ρ', h1, by simpa using h2⟩) (by simpa using hm), List.map_map]
  congr 1
theorem mapc (m : Nat) (x : D) : (List.range m).map (fun _ => x) = List.replicate m x := by
  rw [List.map_const']
  simp
theorem cop_innI (i : Int) (ns : List Int) (S : Sto) : cop .inn (.int i) (.tup (ns.map .int)) S = some (decide (i ∈ ns)) := by
  have h1 : pureL (ns.map D.int) = true := by
    rw [pureL_eq, List.all_eq_true]
    intro x hx
    obtain ⟨i, _, rfl⟩ := List.mem_map.mp hx
    rfl
  have h2 : okP (.tup (ns.map D.int)) = true := tup_okP (k := 0) (fun r hr => by
    obtain ⟨i, _, rfl⟩ := List.mem_map.mp hr
    simp [D.toP, PyData.canLay0, PyData.depth]) (by decide)
  have h3 : ((ns.map D.int).any fun y => eqD y (.int i)) = decide (i ∈ ns) := by
    rw [Bool.eq_iff_iff, List.any_eq_true, decide_eq_true_eq]
    constructor
    · rintro ⟨y, hy, e⟩
      obtain ⟨j, hj, rfl⟩ := List.mem_map.mp hy
      have := (eqD_key (.int j) (.int i) rfl rfl).mp e
      injection this with this
      exact this ▸ hj
    · exact fun h => ⟨.int i, List.mem_map.mpr ⟨i, h, rfl⟩, (eqD_key _ _ rfl rfl).mpr rfl⟩
  have h4 : (D.int i).pure = true := rfl
  simp only [cop, seqOf_tup, h1, h2, h4, okP_int, Bool.and_self, if_true, h3]
/-- draws by which some of a row are left -/
theorem lc_sift {p k : Nat} {u : Int} (h : Draws P) (hp : PotS S p k) (hu : 1 ≤ u) (hu2 : u < 2 ^ 60) (n : Nat) {ns : List Int} (hk : k + ns.length < 2 ^ 40) (hx : ns.length ≤ 1000000) {elt q : E} {ρ : Env} {i : Nat}
    (he : ∀ (j : Int) T, evE (cfgAt P (n + 1)) elt (ρ.set i (some (.int j))) T = .ok (.int j) T)
    (hq : ∀ (j : Int) T, evE (cfgAt P (n + 1)) q (ρ.set i (some (.int j))) T = (leave T.length (callF P (n + 1) "_law_take" [.ref p, .int u] T)).bind fun x S1 => optB (cop .eq x (.int 0) S1) S1) :
    ∃ (ms : List Int) (S' : Sto), lcRun (cfgAt P (n + 1)) elt (.name i) [q] ρ (.fixed (ns.map .int)) S = .ok (ms.map .int) S' ∧ ms.Sublist ns ∧ PotS S' p (k + ns.length) ∧ Only1 S S' p := by
  obtain ⟨ys, S', e, ms, e1, h1, h2, h3⟩ := lcE (S := S) (c := cfgAt P (n + 1)) (elt := elt) (tg := .name i) (ifs := [q]) (ρ := ρ) (xs := ns.map .int)
    (fun acc rest T => ∃ ms : List Int, acc = (ms.map D.int).reverse ∧ (∃ r : List Int, rest = r.map .int ∧ (ms ++ r).Sublist ns) ∧ PotS T p (k + (ns.length - rest.length)) ∧ Only1 S T p ∧ rest.length ≤ ns.length)
    ⟨[], rfl, ⟨ns, rfl, List.Sublist.refl _⟩, hp.mono (by simp), Only1.refl S p hp.lt, by simp⟩ (fun acc x rest T ⟨ms, e1, ⟨r, e2, h1⟩, h2, h3, h4⟩ => by
      cases r with
      | nil => cases e2
      | cons j r =>
      rw [List.map_cons] at e2
      injection e2 with e2 e3
      subst e2; subst e3
      rw [List.length_cons, List.length_map] at h4 h2
      obtain ⟨d, T', e, a1, a2, a3, a4⟩ := draw h h2 (by omega) hu hu2 n
      have ev : evC (cfgAt P (n + 1)) [q] (ρ.set i (some (.int j))) T = .ok (decide (d = 0)) T' := by
        rw [evC_one, hq, e]
        by_cases hd : d = 0 <;> simp [hd]
      refine ⟨ρ.set i (some (.int j)), by simp, ?_⟩
      have a3' : PotS T' p (k + (ns.length - r.length)) := a3.mono (by omega)
      by_cases hd : d = 0
      · left
        refine ⟨T', .int j, T', by rw [ev]; simp [hd], he j T', ms ++ [j], by rw [e1]; simp, ⟨r, rfl, by simpa using h1⟩, by simpa using a3', h3.trans a4, by simp; omega⟩
      · right
        refine ⟨T', by rw [ev]; simp [hd], ms, e1, ⟨r, rfl, ?_⟩, by simpa using a3', h3.trans a4, by simp; omega⟩
        exact ((List.Sublist.refl ms).append (List.sublist_cons_self j r)).trans h1) (by simpa using hx)
  obtain ⟨⟨r, e2, h1⟩, h2⟩ := (⟨h1, h2⟩ : _ ∧ _)
  cases r with
  | cons _ _ => cases e2
  | nil =>
  refine ⟨ms, S', ?_, by simpa using h1, by simpa using h2, h3.1⟩
  rw [e, e1, List.reverse_reverse]
end DL
set_option Elab.async false
set_option linter.all false
set_option maxRecDepth 100000
set_option maxHeartbeats 4000000
/-! PL15: the told watchers -/
namespace DL
open PySem PySem.PyData
variable {P : Prg} {S : Sto}
theorem leave_app {d : D} {T : Sto} (hd : d.pure = true) (hS : stoLow S.length S = true) : leave S.length (.ok d (S ++ T)) = .ok d S := by
  have h1 := D.low_of_pure S.length d hd
  simp only [leave, List.take_left', hS, h1, if_true]
theorem ixN_nat {n j : Nat} (h : j < n) : L2.ixN n (j : Int) = some j := by
  unfold L2.ixN
  simp
  omega
theorem setO_app {xs : List D} {j : Nat} (h : j < xs.length) (v : D) : setO (S ++ [.lst xs]) (.ref S.length) (.int (j : Int)) v = some (S ++ [.lst (xs.set j v)]) := by
  simp [setO, ixN_nat h]
def isRowB (m : Int) : D → Bool
  | .tup xs => allB (fun x => isIntB x 0 (m - 1)) xs && risingB xs
  | _ => false
theorem is_row_eq (h : Has P "is_row" F.is_row) (ho : Offices P) {v : D} (hv : v.pure = true) (hw : v.wt ≤ 1900000) (m : Int) (n : Nat) : callF P (n + 3) "is_row" [v, .int m] S = .ok (.bl (isRowB m v)) S := by
  rw [call_fn h (n + 2) rfl]
  have e1 := isi_tuple hv S
  rcases tup_cases v with ⟨xs, rfl⟩ | hn
  rotate_left
  · have : isRowB m v = false := by cases v <;> first | rfl | cases hn
    simp [F.is_row, e1, hn, this]
  have hp : ∀ y ∈ xs, y.pure = true := fun y hy => pure_mem (by simpa using hv) hy
  have hl : xs.length ≤ 1000000 := by
    have := len_wt xs
    simp only [D.wt] at hw
    omega
  simp [F.is_row, e1]
  rw [lcM (g := fun y => .bl (isIntB y 0 (m - 1))) (fun y hy => ⟨_, rfl, by simp [is_integer_eq ho.int ho.whole (hp y hy)]⟩) hl]
  simp
  have rb : isRowB m (.tup xs) = (allB (fun x => isIntB x 0 (m - 1)) xs && risingB xs) := rfl
  rw [rb]
  cases c : allB (fun x => isIntB x 0 (m - 1)) xs with
  | false => simp [c]
  | true =>
    obtain ⟨ns, rfl, _⟩ := ints_form c
    have e5 := rising_ints (S := S) ho.rising ns (by simpa using hl) (n + 1)
    simp [c, e5]
/-- what the told watchers need -/
structure Told (P : Prg) : Prop where
  w : Watchers P
  row : Has P "is_row" F.is_row
  moods : ∃ r, Has P "check_moods" (F.check_moods r)
  mood : ∃ r, Has P "check_mood" (F.check_mood r)
theorem check_moods_ok (h : Told P) {m s : Int} {rs : List D} {v : D} (hv : v.pure = true) (hw : v.wt ≤ 1900000) (e : isRowB m v = true) (n : Nat) : callF P (n + 4) "check_moods" [offD m s rs, v] S = .ok .non S := by
  obtain ⟨r, hr⟩ := h.moods
  rw [call_fn hr (n + 3) rfl]
  have e1 := is_row_eq (S := S) h.row h.w.offs hv hw m n
  unfold offD
  simp [F.check_moods, e1, e]
theorem check_mood_ok (h : Told P) {m s i : Int} {rs : List D} (h1 : 0 ≤ i) (h2 : i < m) (n : Nat) : callF P (n + 3) "check_mood" [offD m s rs, .int i] S = .ok .non S := by
  obtain ⟨r, hr⟩ := h.mood
  rw [call_fn hr (n + 2) rfl]
  have e1 := is_integer_eq (S := S) h.w.offs.int h.w.offs.whole (v := .int i) rfl 0 (m - 1) n
  have e2 : isIntB (.int i) 0 (m - 1) = true := by simp [isIntB]; omega
  unfold offD
  simp [F.check_mood, e1, e2]
namespace F
def never : Fn := { name := "never", names := ["office", "moods", "row", "mood"], pars := 2, body := [
    .expr (.call "check_office" [.var 0]),
    .expr (.call "check_moods" [.var 0, .var 1]),
    .asg (.name 2) (.prim .tuple (.lc (.prim .int (.cmp .inn (.var 3) (.var 1))) (.name 3) [3] (.irange1 (.idx (.var 0) (.cst (.int 0)))) [])),
    .ret (.tup [.tup [.var 2, .bin .mul (.tup [.cst (.int 1)]) (.idx (.var 0) (.cst (.int 0)))], .tup [.cst (.int 1)]])] }
def not_before : Fn := { name := "not_before", names := ["office", "one", "other", "row"], pars := 3, body := [
    .expr (.call "check_office" [.var 0]),
    .expr (.call "check_mood" [.var 0, .var 1]),
    .expr (.call "check_mood" [.var 0, .var 2]),
    .asg (.name 3) (.thaw (.repL (.lst [.cst (.int 0)]) (.idx (.var 0) (.cst (.int 0))))),
    .seti (.var 3) (.var 2) (.cst (.int 2)),
    .seti (.var 3) (.var 1) (.cst (.int 1)),
    .ret (.tup [.tup [.prim .tuple (.var 3), .bin .mul (.tup [.cst (.int 1)]) (.idx (.var 0) (.cst (.int 0))), .bin .mul (.tup [.cst (.int 2)]) (.idx (.var 0) (.cst (.int 0)))], .tup [.cst (.int 2)]])] }
def not_behind : Fn := { name := "not_behind", names := ["office", "one", "other", "fresh", "warned", "mood"], pars := 3, body := [
    .expr (.call "check_office" [.var 0]),
    .expr (.call "check_mood" [.var 0, .var 1]),
    .expr (.call "check_mood" [.var 0, .var 2]),
    .asg (.name 3) (.lc (.prim .int (.cmp .eq (.var 5) (.var 1))) (.name 5) [5] (.irange1 (.idx (.var 0) (.cst (.int 0)))) []),
    .asg (.name 4) (.thaw (.prim .list (.var 3))),
    .seti (.var 4) (.var 2) (.cst (.int 2)),
    .ret (.tup [.tup [.prim .tuple (.var 3), .prim .tuple (.var 4), .bin .mul (.tup [.cst (.int 2)]) (.idx (.var 0) (.cst (.int 0)))], .tup [.cst (.int 2)]])] }
end F
/-- the moods, one number each -/
def rowD (m : Nat) (f : Nat → Int) : D := .tup ((List.range m).map fun k => .int (f k))
def allD (m : Nat) (i : Int) : D := .tup (List.replicate m (.int i))
def neverD (m : Nat) (ns : List Int) : D := .tup [.tup [rowD m fun k => if (k : Int) ∈ ns then 1 else 0, allD m 1], .tup [.int 1]]
def beforeD (m i o : Nat) : D := .tup [.tup [rowD m fun k => if k = i then 1 else if k = o then 2 else 0, allD m 1, allD m 2], .tup [.int 2]]
def behindD (m i o : Nat) : D := .tup [.tup [rowD m fun k => if k = i then 1 else 0, rowD m fun k => if k = o then 2 else if k = i then 1 else 0, allD m 2], .tup [.int 2]]
theorem mulT {m : Nat} (h1 : 1 ≤ m) (h2 : m ≤ 1000) (x : D) (S : Sto) : bop .mul (.tup [x]) (.int (m : Int)) S = .ok (.tup (List.replicate m x)) S := by
  have h3 : repOkT [x].length (m : Int) = true := by simp [repOkT]; omega
  have h4 : (List.replicate m [x]).flatten = List.replicate m x := by
    clear h1 h2 h3
    induction m with
    | zero => rfl
    | succ m ih => simp [List.replicate_succ, ih]
  simp only [bop, bopMul, h3, if_true, Int.toNat_natCast, h4]
theorem mulL {m : Nat} (h1 : 1 ≤ m) (h2 : m ≤ 1000) (x : D) (S : Sto) : repLst (.lst [x]) (.int (m : Int)) S = .ok (.lst (List.replicate m x)) S := by
  have h3 : repOk [x].length (m : Int) = true := by simp [repOk]; omega
  have h4 : (List.replicate m [x]).flatten = List.replicate m x := by
    clear h1 h2 h3
    induction m with
    | zero => rfl
    | succ m ih => simp [List.replicate_succ, ih]
  simp only [repLst, listOf_lst, h3, if_true, Int.toNat_natCast, h4]
theorem irgN (m : Nat) (h : m ≤ 1000000) (S : Sto) : irgR (.int 0) (.int (m : Int)) S = .ok (.fixed ((List.range m).map fun k : Nat => .int (k : Int))) S := by
  have := irg_nat (m : Int) (by omega) (by omega) S
  simpa using this
theorem never_eq (h : Told P) (hf : Has P "never" F.never) {m : Nat} {s : Int} {rs : List D} (o : isOfficeB (offD m s rs) = true) (op : (offD m s rs).pure = true) (h1 : 1 ≤ m) (h2 : m ≤ 1000) {ns : List Int} (hw : ns.length ≤ 900) (e : isRowB m (.tup (ns.map .int)) = true) (n : Nat) :
    callF P (n + 6) "never" [offD m s rs, .tup (ns.map .int)] S = .ok (neverD m ns) S := by
  rw [call_fn hf (n + 5) rfl]
  obtain ⟨r, hr⟩ := h.w.chk
  have e0 := check_office_ok (S := S) hr h.w.offs op o n
  have hp : (D.tup (ns.map .int)).pure = true := by
    rw [pure_tup, pureL_eq, List.all_eq_true]
    intro x hx
    obtain ⟨i, _, rfl⟩ := List.mem_map.mp hx
    rfl
  have e1 := check_moods_ok (S := S) (s := s) (rs := rs) h hp (by have := wtL_ints ns; simp only [D.wt]; omega) e (n + 1)
  have e2 := irgN m (by omega) S
  unfold offD at e0 e1 ⊢
  simp [F.never, e0, e1, e2]
  rw [lcM (g := fun x => match x with | .int i => .int (if i ∈ ns then 1 else 0) | x => x) (fun x hx => by
    obtain ⟨k, _, rfl⟩ := List.mem_map.mp hx
    refine ⟨_, rfl, ?_⟩
    have c := cop_innI (k : Int) ns S
    have c2 : p1 .int (.bl (decide ((k : Int) ∈ ns))) S = .ok (.int (if (k : Int) ∈ ns then 1 else 0)) S := by
      rw [int_bl]; simp
    simp [c, c2]) (by simp; omega)]
  have t1 : ∀ xs : List D, p1 .tuple (.lst xs) S = .ok (.tup xs) S := fun xs => rfl
  have m1 := mulT h1 h2 (.int 1) S
  simp [t1, m1, le_size]
  simp [neverD, rowD, allD, Function.comp_def]
theorem row_one (m i : Nat) (hi : i < m) : (List.replicate m (D.int 0)).set i (.int 1) = (List.range m).map fun k => D.int (if k = i then 1 else 0) := by
  refine List.ext_getElem (by simp) fun k h1 h2 => ?_
  simp only [List.getElem_set, List.getElem_replicate, List.getElem_map, List.getElem_range]
  by_cases e : k = i
  · subst e; simp
  · simp [e, Ne.symm e]
theorem row_two (m i o : Nat) : ((List.replicate m (D.int 0)).set o (.int 2)).set i (.int 1) = (List.range m).map fun k => D.int (if k = i then 1 else if k = o then 2 else 0) := by
  refine List.ext_getElem (by simp) fun k h1 h2 => ?_
  simp only [List.getElem_set, List.getElem_replicate, List.getElem_map, List.getElem_range]
  by_cases e : k = i
  · subst e; simp
  · by_cases e2 : k = o
    · subst e2; simp [e, Ne.symm e]
    · simp [e, Ne.symm e, e2, Ne.symm e2]
theorem row_behind (m i o : Nat) : ((List.range m).map fun k => D.int (if k = i then 1 else 0)).set o (.int 2) = (List.range m).map fun k => D.int (if k = o then 2 else if k = i then 1 else 0) := by
  refine List.ext_getElem (by simp) fun k h1 h2 => ?_
  simp only [List.getElem_set, List.getElem_map, List.getElem_range]
  by_cases e : k = o
  · subst e; simp
  · simp [e, Ne.symm e]
theorem rowL_pure (m : Nat) (f : Nat → Int) : pureL ((List.range m).map fun k => D.int (f k)) = true := by
  rw [pureL_eq, List.all_eq_true]
  intro x hx
  obtain ⟨i, _, rfl⟩ := List.mem_map.mp hx
  rfl
theorem repL_pure (m : Nat) (i : Int) : pureL (List.replicate m (D.int i)) = true := by
  rw [pureL_eq, List.all_eq_true]
  intro x hx
  rw [List.eq_of_mem_replicate hx]
  rfl
theorem not_before_eq (h : Told P) (hf : Has P "not_before" F.not_before) {m i j : Nat} {s : Int} {rs : List D} (o : isOfficeB (offD m s rs) = true) (op : (offD m s rs).pure = true) (h1 : 1 ≤ m) (h2 : m ≤ 1000) (hi : i < m) (hj : j < m) (hS : stoLow S.length S = true) (n : Nat) :
    leave S.length (callF P (n + 6) "not_before" [offD m s rs, .int (i : Int), .int (j : Int)] S) = .ok (beforeD m i j) S := by
  rw [call_fn hf (n + 5) rfl]
  obtain ⟨r, hr⟩ := h.w.chk
  have e0 := check_office_ok (S := S) hr h.w.offs op o n
  have e1 := check_mood_ok (S := S) (m := (m : Int)) (s := s) (rs := rs) h (i := (i : Int)) (by omega) (by omega) (n + 2)
  have e2 := check_mood_ok (S := S) (m := (m : Int)) (s := s) (rs := rs) h (i := (j : Int)) (by omega) (by omega) (n + 2)
  unfold offD at e0 e1 e2 ⊢
  have l1 := mulL h1 h2 (.int 0) S
  have s1 := setO_app (S := S) (xs := List.replicate m (.int 0)) (j := j) (by simpa using hj) (.int 2)
  have s2 := setO_app (S := S) (xs := (List.replicate m (.int 0)).set j (.int 2)) (j := i) (by simpa using hi) (.int 1)
  rw [row_two] at s2
  have l2 : ∀ xs : List D, listOf (S ++ [.lst xs]) (.ref S.length) = some xs := fun xs => by simp [listOf]
  have m1 := fun T => mulT h1 h2 (.int 1) T
  have m2 := fun T => mulT h1 h2 (.int 2) T
  have e3 : evE (cfgAt P (n + 5)) (.repL (.lst [.cst (.int 0)]) (.idx (.var 0) (.cst (.int 0)))) [some (.tup [.int m, .int s, .tup rs]), some (.int i), some (.int j), Option.none] S = .ok (.lst (List.replicate m (.int 0))) S := by
    simp only [evE, evL]
    simp [le_size, l1]
  simp [F.not_before, e0, e1, e2, e3, s1, s2, p1, l2, m1, m2, le_size]
  refine (leave_app ?_ hS).trans ?_
  · simp [rowL_pure, repL_pure, D.pure]
  · rfl
theorem not_behind_eq (h : Told P) (hf : Has P "not_behind" F.not_behind) {m i j : Nat} {s : Int} {rs : List D} (o : isOfficeB (offD m s rs) = true) (op : (offD m s rs).pure = true) (h1 : 1 ≤ m) (h2 : m ≤ 1000) (hi : i < m) (hj : j < m) (hS : stoLow S.length S = true) (n : Nat) :
    leave S.length (callF P (n + 6) "not_behind" [offD m s rs, .int (i : Int), .int (j : Int)] S) = .ok (behindD m i j) S := by
  rw [call_fn hf (n + 5) rfl]
  obtain ⟨r, hr⟩ := h.w.chk
  have e0 := check_office_ok (S := S) hr h.w.offs op o n
  have e1 := check_mood_ok (S := S) (m := (m : Int)) (s := s) (rs := rs) h (i := (i : Int)) (by omega) (by omega) (n + 2)
  have e2 := check_mood_ok (S := S) (m := (m : Int)) (s := s) (rs := rs) h (i := (j : Int)) (by omega) (by omega) (n + 2)
  unfold offD at e0 e1 e2 ⊢
  have e3 := irgN m (by omega) S
  have s2 := setO_app (S := S) (xs := (List.range m).map fun k => D.int (if k = i then 1 else 0)) (j := j) (by simpa using hj) (.int 2)
  rw [row_behind] at s2
  have l2 : ∀ xs : List D, listOf (S ++ [.lst xs]) (.ref S.length) = some xs := fun xs => by simp [listOf]
  have m2 := fun T => mulT h1 h2 (.int 2) T
  simp [F.not_behind, e0, e1, e2, e3]
  rw [lcM (g := fun x => match x with | .int k => .int (if k = i then 1 else 0) | x => x) (fun x hx => by
    obtain ⟨k, _, rfl⟩ := List.mem_map.mp hx
    refine ⟨_, rfl, ?_⟩
    simp [int_bl]) (by simp; omega)]
  simp only [List.map_map, Function.comp_def, Int.natCast_inj]
  have l3 : ∀ xs T, p1 .list (.lst xs) T = .ok (.lst xs) T := fun _ _ => rfl
  simp [s2, l3, p1, l2, m2, le_size]
  refine (leave_app ?_ hS).trans ?_
  · simp [rowL_pure, repL_pure, D.pure]
  · rfl
end DL
set_option Elab.async false
set_option linter.all false
set_option maxRecDepth 100000
set_option maxHeartbeats 4000000
/-! PL16: drawn watchers -/
namespace DL
open PySem PySem.PyData
variable {P : Prg} {S : Sto}
namespace F
def law_watcher : Fn := { name := "_law_watcher", names := ["pot", "office", "many", "rows", "state", "mood"], pars := 2, body := [
    .asg (.name 2) (.bin .add (.cst (.int 1)) (.call "_law_take" [.var 0, .cst (.int 4)])),
    .asg (.name 3) (.prim .tuple (.lc (.prim .tuple (.lc (.call "_law_take" [.var 0, .var 2]) (.name 5) [5] (.irange1 (.idx (.var 1) (.cst (.int 0)))) [])) (.name 4) [4] (.irange1 (.var 2)) [])),
    .ret (.tup [.var 3, .prim .tuple (.lc (.var 4) (.name 4) [4] (.irange1 (.var 2)) [.cmp .eq (.call "_law_take" [.var 0, .cst (.int 3)]) (.cst (.int 0))])])] }
end F
def rowT (r : List Int) : D := .tup (r.map .int)
def watD (rows : List (List Int)) (bad : List Int) : D := .tup [.tup (rows.map rowT), .tup (bad.map .int)]
/-- a watcher of m moods -/
structure WatOk (m : Nat) (rows : List (List Int)) (bad : List Int) : Prop where
  k1 : 1 ≤ rows.length
  k2 : rows.length ≤ 4
  len : ∀ r ∈ rows, r.length = m
  st : ∀ r ∈ rows, ∀ i ∈ r, 0 ≤ i ∧ i < (rows.length : Int)
  bad : bad.Sublist ((List.range rows.length).map fun k : Nat => (k : Int))
theorem range_ints (m : Nat) : (List.range m).map (fun k : Nat => D.int (k : Int)) = ((List.range m).map fun k : Nat => (k : Int)).map .int := by rw [List.map_map]; rfl
theorem draw_watcher (h : Draws P) (hf : Has P "_law_watcher" F.law_watcher) {p c m : Nat} {s : Int} {rs : List D} (hp : PotS S p c) (hc : c < 2 ^ 38) (h1 : 1 ≤ m) (h2 : m ≤ 100) (n : Nat) :
    ∃ (rows : List (List Int)) (bad : List Int) (S' : Sto), leave S.length (callF P (n + 2) "_law_watcher" [.ref p, offD m s rs] S) = .ok (watD rows bad) S' ∧ WatOk m rows bad ∧ PotS S' p (c + 500) ∧ Only1 S S' p := by
  rw [call_fn hf (n + 1) rfl]
  obtain ⟨d1, S1, e1, a1, b1, p1', o1⟩ := draw (u := 4) h hp (by omega) (by omega) (by omega) n
  obtain ⟨k, rfl⟩ : ∃ k : Nat, d1 = (k : Int) := ⟨d1.toNat, by omega⟩
  have hk : k < 4 := by omega
  obtain ⟨K, hK⟩ : ∃ K : Nat, K = k + 1 := ⟨_, rfl⟩
  have hk1 : (1 + (k : Int)) = (K : Int) := by omega
  have r1 := fun T => irgN K (by omega) T
  have r2 := fun T => irgN m (by omega) T
  -- the rows
  obtain ⟨ys, S2, e2, rows, ey, g1, g2, g3, g4, g5⟩ := lcE (S := S1) (c := cfgAt P (n + 1)) (elt := .prim .tuple (.lc (.call "_law_take" [.var 0, .var 2]) (.name 5) [5] (.irange1 (.idx (.var 1) (.cst (.int 0)))) [])) (tg := .name 4) (ifs := [])
    (ρ := [some (.ref p), some (offD m s rs), some (.int (K : Int)), none, none, none]) (xs := (List.range K).map fun k : Nat => .int (k : Int))
    (fun acc rest T => ∃ rows : List (List Int), acc = (rows.map rowT).reverse ∧ (∀ r ∈ rows, r.length = m) ∧ (∀ r ∈ rows, ∀ i ∈ r, 0 ≤ i ∧ i < (K : Int)) ∧ PotS T p (c + 1 + m * rows.length) ∧ Only1 S T p ∧ rows.length + rest.length = K)
    ⟨[], rfl, fun r h => by (cases h), fun r h => by (cases h), p1'.mono (by simp), o1, by simp⟩ (fun acc x rest T ⟨rows, ea, g1, g2, g3, g4, g5⟩ => by
      rw [List.length_cons] at g5
      have hm : m * rows.length ≤ 100 * 4 := Nat.mul_le_mul h2 (by omega)
      obtain ⟨ns, T', f, l1, l2, l3, l4⟩ := lc_draws (S := T) (u := (K : Int)) (xs := (List.range m).map fun k : Nat => .int (k : Int)) h g3 (by omega) (by omega) n (by simp; omega) (by simp; omega) (elt := .call "_law_take" [.var 0, .var 2])
        (ρ := [some (.ref p), some (offD m s rs), some (.int (K : Int)), none, some x, none]) (i := 5) (b := fun y => [some (.ref p), some (offD m s rs), some (.int (K : Int)), none, some x, some y]) (fun y _ => by simp) (fun y _ T => by simp)
      simp only [List.length_map, List.length_range] at l1 l3
      refine ⟨_, rfl, .inl ⟨T, rowT ns, T', by simp, ?_, rows ++ [ns], by rw [ea]; simp, fun r hr => ?_, fun r hr => ?_, ?_, g4.trans l4, by simp; omega⟩⟩
      · have t1 : ∀ xs T, p1 .tuple (.lst xs) T = .ok (.tup xs) T := fun _ _ => rfl
        unfold offD at f ⊢
        simp [r2, f, t1, rowT]
      · rcases List.mem_append.mp hr with hr | hr
        · exact g1 r hr
        · rw [List.mem_singleton.mp hr]; exact l1
      · rcases List.mem_append.mp hr with hr | hr
        · exact g2 r hr
        · rw [List.mem_singleton.mp hr]; exact l2
      · exact l3.mono (by simp [Nat.mul_add]; omega)) (by simp; omega)
  have hl : rows.length = K := by simpa using g5
  have hm : m * rows.length ≤ 100 * 4 := Nat.mul_le_mul h2 (by omega)
  obtain ⟨bad, S3, e3, q1, q2, q3⟩ := lc_sift (S := S2) (u := 3) (i := 4) h g3 (by omega) (by omega) n (ns := (List.range K).map fun k : Nat => (k : Int)) (by simp; omega) (by simp; omega) (elt := .var 4) (q := .cmp .eq (.call "_law_take" [.var 0, .cst (.int 3)]) (.cst (.int 0)))
    (ρ := [some (.ref p), some (offD m s rs), some (.int (K : Int)), some (.tup (rows.map rowT)), none, none]) (fun j T => by simp) (fun j T => by simp)
  rw [← range_ints] at e3
  simp only [List.length_map, List.length_range] at q2
  have oA := g4.trans q3
  have t1 : ∀ xs T, p1 .tuple (.lst xs) T = .ok (.tup xs) T := fun _ _ => rfl
  have ey2 : ys.reverse = rows.map rowT := by rw [ey, List.reverse_reverse]
  rw [ey2] at e2
  have rowp : pureL (rows.map rowT) = true := by
    rw [pureL_eq, List.all_eq_true]
    intro x hx
    obtain ⟨r, _, rfl⟩ := List.mem_map.mp hx
    rw [rowT, pure_tup, pureL_eq, List.all_eq_true]
    intro y hy
    obtain ⟨i, _, rfl⟩ := List.mem_map.mp hy
    rfl
  have badp : pureL (bad.map D.int) = true := by
    rw [pureL_eq, List.all_eq_true]
    intro y hy
    obtain ⟨i, _, rfl⟩ := List.mem_map.mp hy
    rfl
  have eR : leave S.length (.ok (watD rows bad) S3) = .ok (watD rows bad) S3 := leave_len oA.len (by simp [watD, rowp, badp])
  refine ⟨rows, bad, S3, ?_, ⟨by omega, by omega, g1, by rw [hl]; exact g2, by rw [hl]; exact q1⟩, q2.mono (by omega), oA⟩
  unfold offD at e2 e3
  unfold offD
  simp [F.law_watcher, e1, hk1, r1, e2, t1, e3, le_size]
  exact eR
end DL
set_option Elab.async false
set_option linter.all false
set_option maxRecDepth 100000
set_option maxHeartbeats 4000000
/-! PL17: the laws' outer loops -/
namespace DL
open PySem PySem.PyData
variable {P : Prg} {S : Sto}
theorem pot_new {r1 r2 r3 r4 r5 : Int} (h : Has P "_law_pot" (F.pot r1 r2 r3 r4 r5)) (hr : PotNums r1 r2 r3 r4 r5) {ns : List Int} (hS : SP S) (i : Nat) (hi : i < 64) (n : Nat) :
    ∃ o : O, leaveM S.length (callF P (n + 1) "_law_pot" [.scr ns, .int (i : Int)] S) = .ok (.ref S.length) (S ++ [o]) ∧ PotS (S ++ [o]) S.length 0 ∧ SP (S ++ [o]) := by
  obtain ⟨a, b, e, h1, h2, h3⟩ := make_pot (S := S) h hr ns i hi n
  refine ⟨.lst [.int a, .int b, .int 0], ?_, ⟨a, b, 0, by simp, h1, h2, h3, by omega, by omega⟩, fun o ho => ?_⟩
  · rw [e]
    simp [leaveM, hS.low S.length, lowL, D.low]
  · rcases List.mem_append.mp ho with ho | ho
    · exact hS o ho
    · exact ⟨_, List.mem_singleton.mp ho, rfl⟩
namespace F
def lawG (fx : Str) (most laps : Int) : Fn := { name := "law", names := ["script", "place", "pot", "lap"], pars := 1, body := [
    .for (.name 1) (.iseq (.call fx [.var 0, .cst (.int most)])) [.asg (.name 2) (.callM "_law_pot" [.var 0, .var 1]), .ifs (.not (.prim .all (.lc (.call "_law_right" [.var 2]) (.name 3) [3] (.irange1 (.cst (.int laps))) []))) [.ret (.cst (.bl false))] []],
    .ret (.cst (.bl true))] }
abbrev lawA : Int → Int → Fn := lawG "_law_places"
end F
/-- what one law's round does -/
def Right (P : Prg) (N K : Nat) : Prop := ∀ (S : Sto) (p k : Nat), PotS S p k → SP S → k < 2 ^ 37 → ∃ S', leave S.length (callF P N "_law_right" [.ref p] S) = .ok (.bl true) S' ∧ PotS S' p (k + K) ∧ Only1 S S' p
theorem keepsG {fx : Str} {nms : List Str} {r1 r2 r3 r4 r5 : Int} {most laps : Nat} {N K : Nat} (h : Has P "law" (F.lawG fx most laps)) (hp : Has P fx (F.cellsOf fx nms)) (hnm : nms.length = 2) (hpot : Has P "_law_pot" (F.pot r1 r2 r3 r4 r5)) (hr : PotNums r1 r2 r3 r4 r5) (hm : 1 ≤ most) (hm2 : most ≤ 64) (hl : laps ≤ 1000) (hK : K ≤ 100000) (right : Right P (N + 1) K) : Keeps P (N + 2) := by
  intro ns hns hb
  rw [call_fn h (N + 1) rfl]
  obtain ⟨c, e1, hc⟩ := cells_eq (S := []) hp hnm ns most (by omega) (by omega) hns N
  have e8 : leave 0 (.ok (.lst ((List.range c).map fun k : Nat => D.int (k : Int))) []) = .ok (.lst ((List.range c).map fun k : Nat => D.int (k : Int))) ([] : Sto) := leave_same (S := []) (by
    rw [pure_lst, pureL_eq, List.all_eq_true]
    intro x hx
    obtain ⟨i, _, rfl⟩ := List.mem_map.mp hx
    rfl)
  have rl := fun T => irgN laps (by omega) T
  obtain ⟨ρ1, S1, e2, x1, x2, x3, e3, _, _⟩ := loopL_ex (tg := .name 1) (body := evSs (cfgAt P (N + 1)) [.asg (.name 2) (.callM "_law_pot" [.var 0, .var 1]), .ifs (.not (.prim .all (.lc (.call "_law_right" [.var 2]) (.name 3) [3] (.irange1 (.cst (.int laps))) []))) [.ret (.cst (.bl false))] []])
    (fun rest ρ T => ∃ x1 x2 x3, ρ = [some (.scr ns), x1, x2, x3] ∧ SP T ∧ ∀ x ∈ rest, ∃ i : Nat, x = .int (i : Int) ∧ i < 64) (xs := (List.range c).map fun k : Nat => D.int (k : Int)) (S := []) (ρ := [some (.scr ns), none, none, none])
    ⟨none, none, none, rfl, fun o h => (by cases h), fun x hx => by
      obtain ⟨i, hi, rfl⟩ := List.mem_map.mp hx
      exact ⟨i, rfl, by have := List.mem_range.mp hi; omega⟩⟩ (fun x xs ρ T ⟨x1, x2, x3, e, hS, h3⟩ => by
      subst e
      obtain ⟨i, rfl, hi⟩ := h3 x (List.mem_cons_self ..)
      obtain ⟨o, f1, p0, s0⟩ := pot_new (S := T) hpot hr (ns := ns) hS i hi N
      obtain ⟨ys, T', f2, g1, g2, g3, g4⟩ := lcE (S := T ++ [o]) (c := cfgAt P (N + 1)) (elt := .call "_law_right" [.var 2]) (tg := .name 3) (ifs := []) (xs := (List.range laps).map fun k : Nat => .int (k : Int))
        (ρ := [some (.scr ns), some (.int (i : Int)), some (.ref T.length), none]) (fun acc rest U => (∀ y ∈ acc, y = .bl true) ∧ PotS U T.length (K * acc.length) ∧ SP U ∧ acc.length + rest.length = laps)
        ⟨fun y h => (by cases h), by simpa using p0, s0, by simp⟩ (fun acc x rest U ⟨g1, g2, g3, g4⟩ => by
          rw [List.length_cons] at g4
          have : K * acc.length ≤ 100000 * 1000 := Nat.mul_le_mul hK (by omega)
          obtain ⟨U', f, q1, q2⟩ := right U T.length (K * acc.length) g2 g3 (by omega)
          refine ⟨_, rfl, .inl ⟨U, .bl true, U', by simp, by simp [f], fun y hy => ?_, by rw [List.length_cons, Nat.mul_add]; simpa using q1, g3.only q2 q1, by rw [List.length_cons]; omega⟩⟩
          rcases List.mem_cons.mp hy with rfl | hy
          · rfl
          · exact g1 y hy) (by simp; omega)
      have k2 : p1 .all (.lst ys.reverse) T' = .ok (.bl true) T' := by
        have e : ys.reverse = ys.reverse.map fun _ => D.bl true := by
          conv => lhs; rw [← List.map_id ys.reverse]
          exact List.map_congr_left fun y hy => g1 y (List.mem_reverse.mp hy)
        rw [e]
        have := p1_allB (fun _ => true) ys.reverse T'
        rwa [allB_of (fun _ _ => rfl)] at this
      exact ⟨[some (.scr ns), some (.int (i : Int)), x2, x3], [some (.scr ns), some (.int (i : Int)), some (.ref T.length), x3], T', by simp, .inl (by simp [f1, rl, f2, k2]), _, _, _, rfl, g3, fun y hy => h3 y (List.mem_cons_of_mem _ hy)⟩)
  subst e3
  refine ⟨S1, ?_⟩
  have e2' : forRun (cfgAt P (N + 1)) (.name 1) [.asg (.name 2) (.callM "_law_pot" [.var 0, .var 1]), .ifs (.not (.prim .all (.lc (.call "_law_right" [.var 2]) (.name 3) [3] (.irange1 (.cst (.int laps))) []))) [.ret (.cst (.bl false))] []] (.fixed ((List.range c).map fun k : Nat => D.int (k : Int))) [some (.scr ns), none, none, none] [] = _ := e2
  simp [F.lawG, e1, e8, e2']
theorem keepsA {r1 r2 r3 r4 r5 : Int} {most laps : Nat} {N K : Nat} (h : Has P "law" (F.lawA most laps)) (hp : Has P "_law_places" F.places) (hpot : Has P "_law_pot" (F.pot r1 r2 r3 r4 r5)) (hr : PotNums r1 r2 r3 r4 r5) (hm : 1 ≤ most) (hm2 : most ≤ 64) (hl : laps ≤ 1000) (hK : K ≤ 100000) (right : Right P (N + 1) K) : Keeps P (N + 2) :=
  keepsG h hp rfl hpot hr hm hm2 hl hK right
end DL
set_option Elab.async false
set_option linter.all false
set_option maxRecDepth 100000
set_option maxHeartbeats 4000000
/-! PL18: stands and runs; errors that are raised and heard -/
namespace DL
open PySem
section
variable (c : Cfg) (ρ : Env) (S : Sto)
@[simp] theorem e_fnv (x : Str) : evE c (.fnv x) ρ S = .ok (.fn x []) S := by simp only [evE]
@[simp] theorem e_isx (a : E) (x : Str) : evE c (.isx a x) ρ S = (evE c a ρ S).bind fun d S1 => isxR c.excs x d S1 := by simp only [evE]
@[simp] theorem e_val (a : E) : evE c (.val a) ρ S = (evE c a ρ S).bind fun d S1 => valR c.excs d S1 := by simp only [evE]
theorem e_heard {P : Prg} {n : Nat} (b : E) : evE (cfgAt P (n + 2)) (.heard b) ρ S = heardR P.excs (evE (cfgAt P n) b ρ S) := by simp only [evE, cfg_down2, cfg_excs]
@[simp] theorem heardR_ok (xs : List Str) (d : D) (S : Sto) : heardR xs (.ok d S) = .ok (.tup [.non, d]) S := rfl
theorem heardR_exc {xs : List Str} {x : Str} (h : x ∈ xs) (d : D) (S : Sto) : heardR xs (.exc x d S) = .ok (.tup [.err x d, .non]) S := by
  have : xs.contains x = true := by simpa using h
  simp only [heardR, this, if_true]
theorem isxR_err {xs : List Str} {y : Str} (h : y ∈ xs) (x : Str) (d : D) (S : Sto) : isxR xs x (.err y d) S = .ok (.bl (decide (y = x))) S := by
  have : xs.contains y = true := by simpa using h
  simp only [isxR, this, if_true]
@[simp] theorem isxR_non (xs : List Str) (x : Str) (S : Sto) : isxR xs x .non S = .ok (.bl false) S := rfl
theorem valR_err {xs : List Str} {y : Str} (h : y ∈ xs) (d : D) (S : Sto) : valR xs (.err y d) S = .ok d S := by
  have : xs.contains y = true := by simpa using h
  simp only [valR, this, if_true]
theorem e_callV {i : Nat} {fs : List Str} {es : List E} {x : Str} (h : ρ[i]? = some (some (.fn x []))) (hx : x ∈ fs) : evE c (.callV i fs es) ρ S = (evL c es ρ S).bind fun xs S1 => c.call x xs S1 := by
  have : fs.contains x = true := by simpa using hx
  simp only [evE, h, fnOfD, this, if_true]
@[simp] theorem l_val (a : E) (es : List E) : evL c (.val a :: es) ρ S = (evE c (.val a) ρ S).bind fun x S1 => (evL c es ρ S1).bind fun ys S2 => .ok (x :: ys) S2 := l_cons c ρ S rfl es
@[simp] theorem l_isx (a : E) (x : Str) (es : List E) : evL c (.isx a x :: es) ρ S = (evE c (.isx a x) ρ S).bind fun x S1 => (evL c es ρ S1).bind fun ys S2 => .ok (x :: ys) S2 := l_cons c ρ S rfl es
@[simp] theorem l_fnv (x : Str) (es : List E) : evL c (.fnv x :: es) ρ S = (evE c (.fnv x) ρ S).bind fun x S1 => (evL c es ρ S1).bind fun ys S2 => .ok (x :: ys) S2 := l_cons c ρ S rfl es
@[simp] theorem l_heard (a : E) (es : List E) : evL c (.heard a :: es) ρ S = (evE c (.heard a) ρ S).bind fun x S1 => (evL c es ρ S1).bind fun ys S2 => .ok (x :: ys) S2 := l_cons c ρ S rfl es
@[simp] theorem l_callV (i : Nat) (fs : List Str) (xs : List E) (es : List E) : evL c (.callV i fs xs :: es) ρ S = (evE c (.callV i fs xs) ρ S).bind fun x S1 => (evL c es ρ S1).bind fun ys S2 => .ok (x :: ys) S2 := l_cons c ρ S rfl es
end
@[simp] theorem leave_exc (x : Str) (d : D) (S : Sto) : leave S.length (.exc x d S) = .exc x d S := by
  simp only [leave, List.take_length]
  split <;> rfl
namespace F
def is_stand_of : Fn := { name := "is_stand_of", names := ["office", "value", "slip"], pars := 2, body := [
    .ifs (.or (.not (.call "is_tuple" [.var 1, .glb "PAIR", .glb "PAIR"])) (.not (.call "is_integer" [.idx (.var 1) (.cst (.int 0)), .cst (.int 0), .bin .sub (.idx (.var 0) (.cst (.int 0))) (.cst (.int 1))]))) [.ret (.cst (.bl false))] [],
    .ret (.and (.isi (.idx (.var 1) (.cst (.int 1))) "tuple") (.prim .all (.lc (.call "is_integer" [.var 2, .cst (.int 0), .bin .sub (.idx (.var 0) (.cst (.int 1))) (.cst (.int 1))]) (.name 2) [2] (.iseq (.idx (.var 1) (.cst (.int 1)))) [])))] }
def is_stand : Fn := { name := "is_stand", names := ["office", "value"], pars := 2, body := [
    .expr (.call "check_office" [.var 0]),
    .ret (.and (.call "is_stand_of" [.var 0, .var 1]) (.cmp .le (.prim .len (.idx (.var 1) (.cst (.int 1)))) (.glb "MOST_PILE")))] }
def check_stand : Fn := { name := "check_stand", names := ["office", "value"], pars := 2, body := [
    .ifs (.not (.call "is_stand" [.var 0, .var 1])) [.raise "BadStand" (.var 1)] []] }
def is_run_of : Fn := { name := "is_run_of", names := ["office", "value", "number"], pars := 2, body := [
    .ret (.and (.isi (.var 1) "tuple") (.prim .all (.lc (.call "is_integer" [.var 2, .cst (.int 0), .bin .sub (.prim .len (.idx (.var 0) (.cst (.int 2)))) (.cst (.int 1))]) (.name 2) [2] (.iseq (.var 1)) [])))] }
def is_run : Fn := { name := "is_run", names := ["office", "value"], pars := 2, body := [
    .expr (.call "check_office" [.var 0]),
    .ret (.and (.call "is_run_of" [.var 0, .var 1]) (.cmp .le (.prim .len (.var 1)) (.glb "MOST_RUN")))] }
def check_run : Fn := { name := "check_run", names := ["office", "stand", "run"], pars := 3, body := [
    .expr (.call "check_stand" [.var 0, .var 1]),
    .ifs (.not (.call "is_run" [.var 0, .var 2])) [.raise "BadRun" (.var 2)] []] }
end F
/-- what stands and runs need -/
structure StandsP (P : Prg) : Prop where
  offs : Offices P
  chk : Has P "check_office" (F.check_office (.raise "BadOffice" (.var 0)))
  of_ : Has P "is_stand_of" F.is_stand_of
  is_ : Has P "is_stand" F.is_stand
  cstand : Has P "check_stand" F.check_stand
  pair : P.glb "PAIR" = some (.int 2)
  pile : P.glb "MOST_PILE" = some (.int 200)
variable {P : Prg} {S : Sto}
theorem check_office_no (h : StandsP P) {v : D} (hv : v.pure = true) (e : isOfficeB v = false) (n : Nat) : callF P (n + 5) "check_office" [v] S = .exc "BadOffice" v S := by
  rw [call_fn h.chk (n + 4) rfl]
  have e1 := is_office_eq (S := S) h.offs hv n
  simp [F.check_office, e1, e]
def pileB (s : Int) : D → Bool
  | .tup xs => allB (fun x => isIntB x 0 (s - 1)) xs
  | _ => false
def isStandOfB (m s : Int) (v : D) : Bool := match v with
  | .tup [a, b] => isIntB a 0 (m - 1) && pileB s b
  | _ => false
theorem standOf_no {m s : Int} {v : D} (h : isTupB v 2 2 = false) : isStandOfB m s v = false := by
  cases v with
  | tup xs =>
    match xs, h with
    | [_, _], h => simp [isTupB] at h
    | [], _ | [_], _ | _ :: _ :: _ :: _, _ => simp [isStandOfB]
  | _ => rfl
theorem is_stand_of_eq (h : StandsP P) {m s : Int} {rs : List D} {v : D} (hv : v.pure = true) (hw : v.wt ≤ 16000000 / 8) (n : Nat) : callF P (n + 3) "is_stand_of" [offD m s rs, v] S = .ok (.bl (isStandOfB m s v)) S := by
  rw [call_fn h.of_ (n + 2) rfl]
  have e1 := is_tuple_eq (S := S) h.offs.tuple hv 2 2 (n + 1)
  unfold offD
  cases ht : isTupB v 2 2 with
  | false => simp [F.is_stand_of, e1, ht, h.pair, standOf_no ht]
  | true =>
    obtain ⟨a, b, rfl⟩ := isTup2 ht
    simp only [pure_tup, pureL_cons, pureL_nil, Bool.and_eq_true] at hv
    have e2 := is_integer_eq (S := S) h.offs.int h.offs.whole hv.1 0 (m - 1) n
    cases c1 : isIntB a 0 (m - 1) with
    | false =>
      have : isStandOfB m s (.tup [a, b]) = false := by simp only [isStandOfB, c1, Bool.false_and]
      simp [F.is_stand_of, e1, ht, h.pair, e2, c1, this]
    | true =>
      have e3 := isi_tuple hv.2.1 S
      rcases tup_cases b with ⟨xs, rfl⟩ | hn
      rotate_left
      · have : isStandOfB m s (.tup [a, b]) = false := by
          have : pileB s b = false := by cases b <;> first | rfl | cases hn
          simp only [isStandOfB, this, Bool.and_false]
        simp [F.is_stand_of, e1, ht, h.pair, e2, c1, e3, hn, this]
      have hp : ∀ y ∈ xs, y.pure = true := fun y hy => pure_mem (by simpa using hv.2.1) hy
      have hl : xs.length ≤ 1000000 := by
        have := len_wt xs
        simp only [D.wt, wtL] at hw
        omega
      simp [F.is_stand_of, e1, ht, h.pair, e2, c1, e3]
      rw [lcM (g := fun y => .bl (isIntB y 0 (s - 1))) (fun y hy => ⟨_, rfl, by simp [is_integer_eq h.offs.int h.offs.whole (hp y hy)]⟩) hl]
      simp
      simp only [isStandOfB, pileB, c1, Bool.true_and]
def isStandB (m s : Int) (v : D) : Bool := isStandOfB m s v && match v with
  | .tup [_, .tup xs] => decide (xs.length ≤ 200)
  | _ => false
theorem is_stand_eq (h : StandsP P) {m s : Int} {rs : List D} (o : isOfficeB (offD m s rs) = true) (op : (offD m s rs).pure = true) {v : D} (hv : v.pure = true) (hw : v.wt ≤ 16000000 / 8) (n : Nat) : callF P (n + 6) "is_stand" [offD m s rs, v] S = .ok (.bl (isStandB m s v)) S := by
  rw [call_fn h.is_ (n + 5) rfl]
  have e0 := check_office_ok (S := S) h.chk h.offs op o n
  have e1 := is_stand_of_eq (S := S) (m := m) (s := s) (rs := rs) h hv hw (n + 2)
  cases c1 : isStandOfB m s v with
  | false => simp [F.is_stand, e0, e1, c1, isStandB]
  | true =>
    have : ∃ a xs, v = .tup [a, .tup xs] := by
      unfold isStandOfB at c1
      split at c1
      · rename_i a b
        simp only [Bool.and_eq_true] at c1
        cases b with
        | tup xs => exact ⟨a, xs, rfl⟩
        | _ => cases c1.2
      · cases c1
    obtain ⟨a, xs, rfl⟩ := this
    have k0 : p1 .len (.tup xs) S = .ok (.int (xs.length : Int)) S := by simp [p1]
    simp [F.is_stand, e0, e1, c1, k0, h.pile, isStandB]
    omega
theorem check_stand_eq (h : StandsP P) {m s : Int} {rs : List D} (o : isOfficeB (offD m s rs) = true) (op : (offD m s rs).pure = true) {v : D} (hv : v.pure = true) (hw : v.wt ≤ 16000000 / 8) (n : Nat) :
    callF P (n + 7) "check_stand" [offD m s rs, v] S = if isStandB m s v then .ok .non S else .exc "BadStand" v S := by
  rw [call_fn h.cstand (n + 6) rfl]
  have e1 := is_stand_eq (S := S) h o op hv hw n
  cases c1 : isStandB m s v <;> simp [F.check_stand, e1, c1]
theorem is_stand_off (h : StandsP P) {u v : D} (hu : u.pure = true) (e : isOfficeB u = false) (n : Nat) : callF P (n + 6) "is_stand" [u, v] S = .exc "BadOffice" u S := by
  rw [call_fn h.is_ (n + 5) rfl]
  have e0 := check_office_no (S := S) h hu e n
  simp [F.is_stand, e0]
theorem check_stand_off (h : StandsP P) {u v : D} (hu : u.pure = true) (e : isOfficeB u = false) (n : Nat) : callF P (n + 7) "check_stand" [u, v] S = .exc "BadOffice" u S := by
  rw [call_fn h.cstand (n + 6) rfl]
  have e0 := is_stand_off (S := S) (v := v) h hu e n
  simp [F.check_stand, e0]
end DL
set_option Elab.async false
set_option linter.all false
set_option maxRecDepth 100000
set_option maxHeartbeats 4000000
/-! PL19: runs, one step, many steps -/
namespace DL
open PySem
namespace F
def stand_by : Fn := { name := "stand_by", names := ["office", "stand", "number", "mood", "pile", "before", "slip", "after", "put"], pars := 3, body := [
    .asg (.tup [.name 3, .name 4]) (.var 1),
    .asg (.tup [.name 5, .name 6, .name 7, .name 8]) (.idx (.idx (.var 0) (.cst (.int 2))) (.var 2)),
    .ifs (.or (.cmp .eq (.var 4) (.tup [])) (.or (.cmp .ne (.var 5) (.var 3)) (.cmp .ne (.var 6) (.idx (.var 4) (.cst (.int 0)))))) [.ret (.cst .non)] [],
    .ret (.tup [.var 7, .tup [.star (.var 8), .star (.sl (.var 4) (.cst (.int 1)) .nil)]])] }
end F
variable {P : Prg} {S : Sto}
structure RunsP (P : Prg) : Prop where
  st : StandsP P
  of_ : Has P "is_run_of" F.is_run_of
  is_ : Has P "is_run" F.is_run
  crun : Has P "check_run" F.check_run
  run : P.glb "MOST_RUN" = some (.int 5000)
def isRunB (k : Nat) : D → Bool
  | .tup xs => allB (fun x => isIntB x 0 ((k : Int) - 1)) xs && decide (xs.length ≤ 5000)
  | _ => false
theorem is_run_of_eq (h : RunsP P) {m s : Int} {rs : List D} {v : D} (hv : v.pure = true) (hl : ∀ xs, v = .tup xs → xs.length ≤ 1000000) (n : Nat) :
    callF P (n + 3) "is_run_of" [offD m s rs, v] S = .ok (.bl (pileB (rs.length : Int) v)) S := by
  rw [call_fn h.of_ (n + 2) rfl]
  have e1 := isi_tuple hv S
  unfold offD
  rcases tup_cases v with ⟨xs, rfl⟩ | hn
  rotate_left
  · have : pileB (rs.length : Int) v = false := by cases v <;> first | rfl | cases hn
    simp [F.is_run_of, e1, hn, this]
  have hp : ∀ y ∈ xs, y.pure = true := fun y hy => pure_mem (by simpa using hv) hy
  have k0 : p1 .len (.tup rs) S = .ok (.int (rs.length : Int)) S := by simp [p1]
  simp [F.is_run_of, e1]
  rw [lcM (g := fun y => .bl (isIntB y 0 ((rs.length : Int) - 1))) (fun y hy => ⟨_, rfl, by simp [k0, is_integer_eq h.st.offs.int h.st.offs.whole (hp y hy)]⟩) (hl xs rfl)]
  simp
  rfl
theorem is_run_eq (h : RunsP P) {m s : Int} {rs : List D} (o : isOfficeB (offD m s rs) = true) (op : (offD m s rs).pure = true) {v : D} (hv : v.pure = true) (hl : ∀ xs, v = .tup xs → xs.length ≤ 1000000) (n : Nat) :
    callF P (n + 6) "is_run" [offD m s rs, v] S = .ok (.bl (isRunB rs.length v)) S := by
  rw [call_fn h.is_ (n + 5) rfl]
  have e0 := check_office_ok (S := S) h.st.chk h.st.offs op o n
  have e1 := is_run_of_eq (S := S) (m := m) (s := s) (rs := rs) h hv hl (n + 2)
  rcases tup_cases v with ⟨xs, rfl⟩ | hn
  rotate_left
  · have a1 : isRunB rs.length v = false := by cases v <;> first | rfl | cases hn
    have a2 : pileB (rs.length : Int) v = false := by cases v <;> first | rfl | cases hn
    simp [F.is_run, e0, e1, a1, a2]
  have k0 : p1 .len (.tup xs) S = .ok (.int (xs.length : Int)) S := by simp [p1]
  have a1 : isRunB rs.length (.tup xs) = (pileB (rs.length : Int) (.tup xs) && decide (xs.length ≤ 5000)) := rfl
  rw [a1]
  cases c1 : pileB (rs.length : Int) (.tup xs) with
  | false => simp [F.is_run, e0, e1, c1]
  | true =>
    simp [F.is_run, e0, e1, c1, k0, h.run]
    omega
theorem check_run_eq (h : RunsP P) {m s : Int} {rs : List D} (o : isOfficeB (offD m s rs) = true) (op : (offD m s rs).pure = true) {t v : D} (ht : t.pure = true) (hw : t.wt ≤ 16000000 / 8) (hv : v.pure = true) (hl : ∀ xs, v = .tup xs → xs.length ≤ 1000000) (n : Nat) :
    callF P (n + 8) "check_run" [offD m s rs, t, v] S = if isStandB m s t then (if isRunB rs.length v then .ok .non S else .exc "BadRun" v S) else .exc "BadStand" t S := by
  rw [call_fn h.crun (n + 7) rfl]
  have e0 := check_stand_eq (S := S) h.st o op ht hw n
  have e1 := is_run_eq (S := S) h o op hv hl (n + 1)
  cases c1 : isStandB m s t with
  | false => simp [F.check_run, e0, c1]
  | true => cases c2 : isRunB rs.length v <;> simp [F.check_run, e0, c1, e1, c2]
theorem check_run_off (h : RunsP P) {u t v : D} (hu : u.pure = true) (e : isOfficeB u = false) (n : Nat) : callF P (n + 8) "check_run" [u, t, v] S = .exc "BadOffice" u S := by
  rw [call_fn h.crun (n + 7) rfl]
  have e0 := check_stand_off (S := S) (v := t) h.st hu e n
  simp [F.check_run, e0]
/-! ### a step -/
abbrev St := Int × List Int
def standD (t : St) : D := .tup [.int t.1, .tup (t.2.map .int)]
def optD : Option St → D
  | some t => standD t
  | none => .non
def stepR (r : D) (t : St) : Option St := match r, t.2 with
  | .tup [.int a, .int b, .int c, .tup put], x :: p => if a = t.1 ∧ b = x then some (c, put.map toI ++ p) else none
  | _, _ => none
theorem map_toI (xs : List Int) : (xs.map D.int).map toI = xs := by
  rw [List.map_map]
  exact List.map_id xs
theorem stepR_rule (a b c : Int) (put : List Int) (q x : Int) (p : List Int) : stepR (ruleD a b c put) (q, x :: p) = if a = q ∧ b = x then some (c, put ++ p) else none := by
  simp only [stepR, ruleD, map_toI]
theorem stepR_nil (r : D) (q : Int) : stepR r (q, []) = none := by
  unfold stepR
  split <;> first | rfl | (rename_i e; cases e)
theorem ints_okP (ns : List Int) : okP (.tup (ns.map .int)) = true := tup_okP (k := 0) (fun r hr => by
  obtain ⟨i, _, rfl⟩ := List.mem_map.mp hr
  exact ⟨by simp only [D.toP, PyData.canLay0], by simp only [D.toP, PyData.depth]; omega⟩) (by decide)
theorem eq_nilT (ns : List Int) (S : Sto) : cop .eq (.tup (ns.map .int)) (.tup []) S = some (decide (ns = [])) := by
  have key : ∀ b, cop .ne (.tup (ns.map D.int)) (.tup []) S = some (!b) → cop .eq (.tup (ns.map D.int)) (.tup []) S = some b := fun b h => by
    have h2 : (eqC S (.tup (ns.map D.int)) (.tup [])).map (!·) = some (!b) := h
    show eqC S (.tup (ns.map D.int)) (.tup []) = some b
    cases e : eqC S (.tup (ns.map D.int)) (.tup []) with
    | none => rw [e] at h2; cases h2
    | some x => rw [e] at h2; cases x <;> cases b <;> first | rfl | cases h2
  cases ns with
  | nil => exact key true (nil_ne_nil S)
  | cons i ns => exact (key false (tup_ne_nil (x := .int i) (ints_pure (i :: ns)) (ints_okP (i :: ns)) S)).trans (by simp)
theorem stand_by_eq (hf : Has P "stand_by" F.stand_by) {m s : Int} {rs : List D} {i : Nat} {r : D} (hr : rs[i]? = some r) (ok : isRuleB r m s = true) (t : St) (hl : t.2.length ≤ 100000) (n : Nat) :
    callF P (n + 1) "stand_by" [offD m s rs, standD t, .int (i : Int)] S = .ok (optD (stepR r t)) S := by
  rw [call_fn hf n rfl]
  obtain ⟨a, b, c, put, rfl, rk⟩ := isRule_form ok
  obtain ⟨q, pile⟩ := t
  have e1 := indexD_tup hr S
  have e2 := eq_nilT pile S
  have sz : 1000000 ≤ sizeLine := sizeLine_big
  unfold offD standD
  cases pile with
  | nil =>
    have e2 : cop .eq (.tup []) (.tup []) S = some true := e2
    simp [F.stand_by, bindT, bindTs, e1, ruleD, stepR_nil, optD, e2]
  | cons x p =>
    have e2 : cop .eq (.tup (.int x :: p.map .int)) (.tup []) S = some false := e2
    have e3 : indexD (.tup (.int x :: p.map .int)) (.int 0) S = .ok (.int x) S := indexD_tup (i := 0) rfl S
    have hp := rk.put
    simp only [List.length_cons] at hl
    rw [stepR_rule]
    by_cases h1 : a = q
    · by_cases h2 : b = x
      · subst h1 h2
        simp [F.stand_by, bindT, bindTs, e1, ruleD, optD, e2, e3, starR, cut_from1, standD]
        have := rk.few
        rw [if_pos (by omega)]
        simp
        rw [if_pos (by omega)]
        simp
      · simp [F.stand_by, bindT, bindTs, e1, ruleD, optD, e2, e3, h1, h2]
    · simp [F.stand_by, bindT, bindTs, e1, ruleD, optD, e2, h1]
/-! ### many steps -/
def stepAt (rs : List D) (i : Int) (t : St) : Option St := stepR (rs.getD i.toNat .non) t
def ran (rs : List D) : St → List Int → List St
  | t, [] => [t]
  | t, i :: is => match stepAt rs i t with
    | some u => t :: ran rs u is
    | none => [t]
theorem ran_ne (rs : List D) (t : St) (is : List Int) : ran rs t is ≠ [] := by
  cases is with
  | nil => simp [ran]
  | cons i is => simp only [ran]; split <;> simp
theorem ran_len (rs : List D) : ∀ (is : List Int) (t : St), (ran rs t is).length ≤ is.length + 1
  | [], t => by simp [ran]
  | i :: is, t => by
    simp only [ran]
    split
    · have := ran_len rs is ‹_›
      simp only [List.length_cons]; omega
    · simp
theorem stepR_put {m s : Int} {r : D} (ok : isRuleB r m s = true) {t u : St} (h : stepR r t = some u) : u.2.length ≤ t.2.length + 1 ∧ (0 ≤ u.1 ∧ u.1 ≤ m - 1) ∧ ((∀ i ∈ t.2, 0 ≤ i ∧ i ≤ s - 1) → ∀ i ∈ u.2, 0 ≤ i ∧ i ≤ s - 1) := by
  obtain ⟨a, b, c, put, rfl, rk⟩ := isRule_form ok
  obtain ⟨q, pile⟩ := t
  cases pile with
  | nil => rw [stepR_nil] at h; cases h
  | cons x p =>
    rw [stepR_rule] at h
    split at h
    · cases h
      have := rk.few
      refine ⟨by simp; omega, ⟨rk.c0, rk.c1⟩, fun hp i hi => ?_⟩
      rcases List.mem_append.mp hi with hi | hi
      · exact rk.put i hi
      · exact hp i (List.mem_cons_of_mem _ hi)
    · cases h
namespace F
def stands_by : Fn := { name := "stands_by", names := ["office", "stand", "run", "found", "number", "new"], pars := 3, body := [
    .asg (.name 3) (.thaw (.lst [.var 1])),
    .for (.name 4) (.iseq (.var 2)) [.asg (.name 5) (.call "stand_by" [.var 0, .idx (.var 3) (.neg (.cst (.int 1))), .var 4]), .ifs (.cmp .isNon (.var 5) (.cst .non)) [.ret (.var 3)] [], .app (.var 3) (.var 5)],
    .ret (.var 3)] }
def standsB : List Stm := [.asg (.name 5) (.call "stand_by" [.var 0, .idx (.var 3) (.neg (.cst (.int 1))), .var 4]), .ifs (.cmp .isNon (.var 5) (.cst .non)) [.ret (.var 3)] [], .app (.var 3) (.var 5)]
end F
theorem index_last {T : Sto} {q : Nat} {xs : List D} {x : D} (h : T[q]? = some (.lst (xs ++ [x]))) : indexD (.ref q) (.int (-1)) T = .ok x T := by
  have e : L2.atI (xs ++ [x]) (-1) = some x := by
    unfold L2.atI L2.ixN
    simp
    split
    · have : (-1 + ((xs.length : Int) + 1)).toNat = xs.length := by omega
      simp [this]
    · omega
  simp only [indexD, seqOf, listOf, h, e]
theorem standD_pure (t : St) : (standD t).pure = true := by
  have := ints_pure t.2
  simp [standD, this]
  rfl
theorem stands_loop (hf : Has P "stand_by" F.stand_by) {m s : Int} {rs : List D} (ok : ∀ r ∈ rs, isRuleB r m s = true) (n : Nat) {a b : Option D} : ∀ (is : List Int) (acc : List St) (t : St) (x4 x5 : Option D), (∀ i ∈ is, 0 ≤ i ∧ i < (rs.length : Int)) →
    t.2.length + is.length ≤ 90000 → acc.length + is.length ≤ 90000 →
    (forRun (cfgAt P (n + 1)) (.name 4) F.standsB (.fixed (is.map .int)) [some (offD m s rs), a, b, some (.ref S.length), x4, x5] (S ++ [.lst ((acc ++ [t]).map standD)])).seq (fun ρ1 S1 => evSs (cfgAt P (n + 1)) [.ret (.var 3)] ρ1 S1) =
      .ret (.ref S.length) (S ++ [.lst ((acc ++ ran rs t is).map standD)])
  | [], acc, t, x4, x5, _, _, _ => by
    simp [forRun, loop, loopL, ran]
  | i :: is, acc, t, x4, x5, hi, hl, ha => by
    have h0 := hi i (List.mem_cons_self ..)
    obtain ⟨k, rfl⟩ : ∃ k : Nat, i = (k : Int) := ⟨i.toNat, by omega⟩
    have hk : k < rs.length := by omega
    have hr : rs[k]? = some rs[k] := List.getElem?_eq_getElem hk
    simp only [List.length_cons] at hl ha
    have e1 := stand_by_eq (S := S ++ [.lst ((acc ++ [t]).map standD)]) hf hr (ok _ (List.getElem_mem hk)) t (by omega) n
    have e2 : indexD (.ref S.length) (.int (-1)) (S ++ [.lst ((acc ++ [t]).map standD)]) = .ok (standD t) (S ++ [.lst ((acc ++ [t]).map standD)]) := index_last (xs := acc.map standD) (by simp)
    have e3 : stepAt rs (k : Int) t = stepR rs[k] t := by simp only [stepAt, Int.toNat_natCast, List.getD, hr, Option.getD_some]
    have ih := stands_loop hf ok n (a := a) (b := b) is
    unfold forRun loop
    simp only [List.map_cons, loopL, bindT]
    have body : evSs (cfgAt P (n + 1)) F.standsB ([some (offD m s rs), a, b, some (.ref S.length), x4, x5].set 4 (some (.int (k : Int)))) (S ++ [.lst ((acc ++ [t]).map standD)]) = match stepR rs[k] t with
        | some u => .next [some (offD m s rs), a, b, some (.ref S.length), some (.int (k : Int)), some (standD u)] (S ++ [.lst ((acc ++ [t] ++ [u]).map standD)])
        | none => .ret (.ref S.length) (S ++ [.lst ((acc ++ [t]).map standD)]) := by
      have gS : (S ++ [O.lst ((acc ++ [t]).map standD)])[S.length]? = some (.lst ((acc ++ [t]).map standD)) := by simp
      have e5 := appO_at (v := optD (stepR rs[k] t)) gS (by simp; omega)
      have e6 : leave (S ++ [O.lst ((acc ++ [t]).map standD)]).length (.ok (optD (stepR rs[k] t)) (S ++ [.lst ((acc ++ [t]).map standD)])) = .ok (optD (stepR rs[k] t)) (S ++ [.lst ((acc ++ [t]).map standD)]) := leave_same (by
        cases stepR rs[k] t with
        | none => rfl
        | some u => exact standD_pure u)
      simp only [List.set_cons_succ, List.set_cons_zero, F.standsB, q_cons]
      generalize eT : S ++ [O.lst ((acc ++ [t]).map standD)] = T at gS e1 e2 e5 e6 ⊢
      cases e4 : stepR rs[k] t with
      | none =>
        rw [e4] at e1 e6
        have e1 : callF P (n + 1) "stand_by" [offD m s rs, standD t, .int (k : Int)] T = .ok .non T := e1
        simp [bindT, e2, negD, e1, isNonD]
      | some u =>
        rw [e4] at e1 e6 e5
        have e1 : callF P (n + 1) "stand_by" [offD m s rs, standD t, .int (k : Int)] T = .ok (standD u) T := e1
        have e6 : leave T.length (.ok (standD u) T) = .ok (standD u) T := e6
        have e5 : appO T (.ref S.length) (standD u) = some (T.set S.length (.lst ((acc ++ [t]).map standD ++ [standD u]))) := e5
        have e7 : isNonD (standD u) = false := rfl
        simp [bindT, e2, negD, e1, e6, e5, e7, isRefD]
        rw [← eT]
        simp
    rw [body]
    cases e4 : stepR rs[k] t with
    | none => 
      simp [ran, e3, e4]
    | some u =>
      have := (stepR_put (ok _ (List.getElem_mem hk)) e4).1
      have ih2 := ih (acc ++ [t]) u (some (.int (k : Int))) (some (standD u)) (fun i h => hi i (List.mem_cons_of_mem _ h)) (by omega) (by simp; omega)
      unfold forRun loop at ih2
      simp only [ran, e3, e4]
      rw [ih2]
      simp
end DL
set_option Elab.async false
set_option linter.all false
set_option maxRecDepth 100000
set_option maxHeartbeats 4000000
/-! PL20: stands_of, led -/
namespace DL
open PySem
variable {P : Prg} {S : Sto}
theorem mapM_self {g : D → Option D} : ∀ {xs : List D}, (∀ x ∈ xs, g x = some x) → xs.mapM g = some xs
  | [], _ => rfl
  | x :: xs, h => by
    rw [List.mapM_cons, h x (List.mem_cons_self ..), mapM_self fun y hy => h y (List.mem_cons_of_mem _ hy)]
    rfl
theorem frz_pure {b : Nat} : ∀ (f : Nat) (d : D), d.pure = true → d.toP.depth < f → frz S b f d = some d
  | 0, _, _, h => by omega
  | f + 1, .tup xs, hp, hd => by
    simp only [D.toP, PyData.depth] at hd
    simp only [frz]
    rw [mapM_self fun x hx => frz_pure f x (pure_mem (by simpa using hp) hx) (by have := depth_mem hx; omega)]
    rfl
  | f + 1, .lst xs, hp, _ => by
    have : lowL b xs = true := lowL_of_pure b xs (by simpa using hp)
    simp only [frz, this, if_true]
  | f + 1, .non, hp, _ => by simp [frz, D.low]
  | f + 1, .bl _, hp, _ => by simp [frz, D.low]
  | f + 1, .int _, hp, _ => by simp [frz, D.low]
  | f + 1, .str _, hp, _ => by simp [frz, D.low]
/-- a list that was made within is handed back -/
theorem leave_fresh {xs : List D} (hp : pureL xs = true) (hd : ∀ x ∈ xs, x.toP.depth < 49) (hS : stoLow S.length S = true) : leave S.length (.ok (.ref S.length) (S ++ [.lst xs])) = .ok (.lst xs) S := by
  have e1 : (S ++ [O.lst xs]).take S.length = S := by simp
  have e2 : frz (S ++ [O.lst xs]) S.length 50 (.ref S.length) = some (.lst xs) := by
    simp only [frz, Nat.lt_irrefl, if_false]
    have : (S ++ [O.lst xs])[S.length]? = some (.lst xs) := by simp
    rw [this]
    simp only
    rw [mapM_self fun x hx => frz_pure 49 x (pure_mem hp hx) (hd x hx)]
    rfl
  simp only [leave, e1, hS, if_true, D.low, Nat.lt_irrefl, decide_false, Bool.false_eq_true, if_false, e2]
theorem standD_dep (t : St) : (standD t).toP.depth ≤ 2 := by
  have := ints_depth t.2
  simp only [standD, D.toP, toPL, PyData.depth, PyData.depthAll]
  omega
theorem stands_pure (l : List St) : pureL (l.map standD) = true := by
  rw [pureL_eq, List.all_map, List.all_eq_true]
  intro t _
  exact standD_pure t
namespace F
def stands_of : Fn := { name := "stands_of", names := ["office", "stand", "run", "found"], pars := 3, body := [
    .expr (.call "check_run" [.var 0, .var 1, .var 2]),
    .asg (.name 3) (.call "stands_by" [.var 0, .var 1, .var 2]),
    .ifs (.cmp .le (.prim .len (.var 3)) (.prim .len (.var 2))) [.raise "Stuck" (.bin .sub (.prim .len (.var 3)) (.cst (.int 1)))] [],
    .ret (.prim .tuple (.var 3))] }
def led : Fn := { name := "led", names := ["office", "stand", "run"], pars := 3, body := [
    .ret (.idx (.call "stands_of" [.var 0, .var 1, .var 2]) (.neg (.cst (.int 1))))] }
end F
structure LedP (P : Prg) : Prop where
  r : RunsP P
  by_ : Has P "stand_by" F.stand_by
  bys : Has P "stands_by" F.stands_by
  of_ : Has P "stands_of" F.stands_of
  led : Has P "led" F.led
/-- a run of an office, by its rules' numbers -/
def runD (is : List Int) : D := .tup (is.map .int)
def RunOk (k : Nat) (is : List Int) : Prop := ∀ i ∈ is, 0 ≤ i ∧ i < (k : Int)
structure StOk (m s : Int) (t : St) : Prop where
  q0 : 0 ≤ t.1
  q1 : t.1 ≤ m - 1
  pile : ∀ i ∈ t.2, 0 ≤ i ∧ i ≤ s - 1
theorem StOk.isB {m s : Int} {t : St} (h : StOk m s t) (hl : t.2.length ≤ 200) : isStandB m s (standD t) = true := by
  have a1 : allB (fun x => isIntB x 0 (s - 1)) (t.2.map D.int) = true := ints_all h.pile
  have a2 : isIntB (.int t.1) 0 (m - 1) = true := by
    have := h.q0
    have := h.q1
    simp [isIntB]
    omega
  simp only [isStandB, isStandOfB, standD, pileB, a1, a2, Bool.and_self, Bool.true_and, List.length_map, decide_eq_true hl]
theorem RunOk.isB {k : Nat} {is : List Int} (h : RunOk k is) (hl : is.length ≤ 5000) : isRunB k (runD is) = true := by
  have a1 : allB (fun x => isIntB x 0 ((k : Int) - 1)) (is.map D.int) = true := ints_all fun i hi => by have := h i hi; omega
  simp only [isRunB, runD, a1, Bool.true_and, List.length_map, decide_eq_true hl]
theorem stands_by_eq (h : LedP P) {m s : Int} {rs : List D} (ok : ∀ r ∈ rs, isRuleB r m s = true) (t : St) {is : List Int} (hi : RunOk rs.length is) (hl : t.2.length + is.length ≤ 90000) (n : Nat) :
    callF P (n + 2) "stands_by" [offD m s rs, standD t, runD is] S = .ok (.ref S.length) (S ++ [.lst ((ran rs t is).map standD)]) := by
  rw [call_fn h.bys (n + 1) rfl]
  have lp := stands_loop (S := S) h.by_ ok n (a := some (standD t)) (b := some (runD is)) is [] t none none hi (by omega) (by simp; omega)
  have e0 : (1 : Nat) ≤ sizeLine := le_size (by decide)
  simp [F.stands_by, e0, thawD, bindT]
  simp only [List.nil_append, List.map_cons, List.map_nil] at lp
  have e1 : srcOf (S ++ [O.lst [standD t]]) (runD is) = some (.fixed (is.map .int)) := rfl
  simp [iseqR, e1]
  simp [F.standsB] at lp
  rw [lp]
  simp
theorem wt_stand (t : St) : (standD t).wt = 1921 + 2 * 2 + 3 + 3 + 1923 * t.2.length := by
  have := wtL_ints t.2
  simp only [standD, D.wt, wtL, this]
  omega
theorem stands_of_eq (h : LedP P) {m s : Int} {rs : List D} (o : isOfficeB (offD m s rs) = true) (op : (offD m s rs).pure = true) (ok : ∀ r ∈ rs, isRuleB r m s = true) {t : St} (ht : StOk m s t) (hp : t.2.length ≤ 200) {is : List Int} (hi : RunOk rs.length is) (hl : is.length ≤ 5000) (hS : stoLow S.length S = true) (n : Nat) :
    callF P (n + 9) "stands_of" [offD m s rs, standD t, runD is] S = if (ran rs t is).length ≤ is.length then .exc "Stuck" (.int (((ran rs t is).length : Int) - 1)) S else .ok (.tup ((ran rs t is).map standD)) S := by
  rw [call_fn h.of_ (n + 8) rfl]
  have e1 := check_run_eq (S := S) h.r o op (standD_pure t) (by rw [wt_stand]; omega) (v := runD is) (by simp [runD, ints_pure]) (fun xs e => by cases e; simp; omega) n
  rw [ht.isB hp, hi.isB hl] at e1
  have e2 := stands_by_eq (S := S) h ok t hi (by omega) (n + 6)
  have e3 := leave_fresh (stands_pure (ran rs t is)) (fun x hx => by obtain ⟨u, _, rfl⟩ := List.mem_map.mp hx; have := standD_dep u; omega) hS
  have k1 : p1 .len (.lst ((ran rs t is).map standD)) S = .ok (.int ((ran rs t is).length : Int)) S := by simp [p1]
  have k2 : p1 .len (runD is) S = .ok (.int (is.length : Int)) S := by simp [p1, runD]
  have k3 : p1 .tuple (.lst ((ran rs t is).map standD)) S = .ok (.tup ((ran rs t is).map standD)) S := rfl
  by_cases c : (ran rs t is).length ≤ is.length
  · have c' : ((ran rs t is).length : Int) ≤ (is.length : Int) := by omega
    simp [F.stands_of, e1, e2, e3, bindT, k1, k2, c]
  · have c' : ¬ ((ran rs t is).length : Int) ≤ (is.length : Int) := by omega
    simp [F.stands_of, e1, e2, e3, bindT, k1, k2, k3, c]
end DL
set_option Elab.async false
set_option linter.all false
set_option maxRecDepth 100000
set_option maxHeartbeats 4000000
/-! PL21: led; what is refused; the law's own steps -/
namespace DL
open PySem
variable {P : Prg} {S : Sto}
theorem index_lastT {xs : List D} {x : D} (T : Sto) : indexD (.tup (xs ++ [x])) (.int (-1)) T = .ok x T := by
  have e : L2.atI (xs ++ [x]) (-1) = some x := by
    unfold L2.atI L2.ixN
    simp
    split
    · have : (-1 + ((xs.length : Int) + 1)).toNat = xs.length := by omega
      simp [this]
    · omega
  simp only [indexD, seqOf, e]
def lastS (rs : List D) (t : St) (is : List Int) : St := (ran rs t is).getLast (ran_ne rs t is)
theorem ran_last (rs : List D) (t : St) (is : List Int) : ∃ l, ran rs t is = l ++ [lastS rs t is] := ⟨_, (List.dropLast_concat_getLast (ran_ne rs t is)).symm⟩
theorem led_eq (h : LedP P) {m s : Int} {rs : List D} (o : isOfficeB (offD m s rs) = true) (op : (offD m s rs).pure = true) (ok : ∀ r ∈ rs, isRuleB r m s = true) {t : St} (ht : StOk m s t) (hp : t.2.length ≤ 200) {is : List Int} (hi : RunOk rs.length is) (hl : is.length ≤ 5000) (hS : stoLow S.length S = true) (n : Nat) :
    callF P (n + 10) "led" [offD m s rs, standD t, runD is] S = if (ran rs t is).length ≤ is.length then .exc "Stuck" (.int (((ran rs t is).length : Int) - 1)) S else .ok (standD (lastS rs t is)) S := by
  rw [call_fn h.led (n + 9) rfl]
  have e1 := stands_of_eq (S := S) h o op ok ht hp hi hl hS n
  by_cases c : (ran rs t is).length ≤ is.length
  · rw [if_pos c] at e1 ⊢
    simp [F.led, e1]
  · rw [if_neg c] at e1 ⊢
    obtain ⟨l, el⟩ := ran_last rs t is
    have e2 : leave S.length (.ok (.tup ((ran rs t is).map standD)) S) = .ok (.tup ((ran rs t is).map standD)) S := leave_same (by simp [stands_pure])
    have e3 : indexD (.tup ((ran rs t is).map standD)) (.int (-1)) S = .ok (standD (lastS rs t is)) S := by
      rw [el, List.map_append, List.map_cons, List.map_nil]
      exact index_lastT S
    simp [F.led, e1, e2, negD, e3]
/-- what these two say to what they refuse -/
structure Refuse (P : Prg) (f : Str) (N : Nat) : Prop where
  off : ∀ (S : Sto) (u a b : D), u.pure = true → isOfficeB u = false → callF P N f [u, a, b] S = .exc "BadOffice" u S
  stand : ∀ (S : Sto) (m s : Int) (rs : List D) (v b : D), isOfficeB (offD m s rs) = true → (offD m s rs).pure = true → v.pure = true → v.wt ≤ 2000000 → isStandB m s v = false → callF P N f [offD m s rs, v, b] S = .exc "BadStand" v S
  run : ∀ (S : Sto) (m s : Int) (rs : List D) (v b : D), isOfficeB (offD m s rs) = true → (offD m s rs).pure = true → v.pure = true → v.wt ≤ 2000000 → isStandB m s v = true → b.pure = true → (∀ xs, b = .tup xs → xs.length ≤ 1000000) → isRunB rs.length b = false →
    callF P N f [offD m s rs, v, b] S = .exc "BadRun" b S
theorem check_run_stand (h : RunsP P) {m s : Int} {rs : List D} (o : isOfficeB (offD m s rs) = true) (op : (offD m s rs).pure = true) {t v : D} (ht : t.pure = true) (hw : t.wt ≤ 2000000) (e : isStandB m s t = false) (n : Nat) : callF P (n + 8) "check_run" [offD m s rs, t, v] S = .exc "BadStand" t S := by
  rw [call_fn h.crun (n + 7) rfl]
  have e0 := check_stand_eq (S := S) h.st o op ht hw n
  simp [F.check_run, e0, e]
theorem refuse_of (h : LedP P) (n : Nat) : Refuse P "stands_of" (n + 9) where
  off := fun S u a b hu e => by
    rw [call_fn h.of_ (n + 8) rfl]
    have e1 := check_run_off (S := S) (t := a) (v := b) h.r hu e n
    simp [F.stands_of, e1]
  stand := fun S m s rs v b o op hv hw e => by
    rw [call_fn h.of_ (n + 8) rfl]
    have e1 := check_run_stand (S := S) (v := b) h.r o op hv hw e n
    simp [F.stands_of, e1]
  run := fun S m s rs v b o op hv hw e hb hl e2 => by
    rw [call_fn h.of_ (n + 8) rfl]
    have e1 := check_run_eq (S := S) h.r o op hv hw hb hl n
    rw [e, e2] at e1
    simp [F.stands_of, e1]
theorem refuse_led (h : LedP P) (n : Nat) : Refuse P "led" (n + 10) where
  off := fun S u a b hu e => by
    rw [call_fn h.led (n + 9) rfl]
    have e1 := (refuse_of h n).off S u a b hu e
    simp [F.led, e1]
  stand := fun S m s rs v b o op hv hw e => by
    rw [call_fn h.led (n + 9) rfl]
    have e1 := (refuse_of h n).stand S m s rs v b o op hv hw e
    simp [F.led, e1]
  run := fun S m s rs v b o op hv hw e hb hl e2 => by
    rw [call_fn h.led (n + 9) rfl]
    have e1 := (refuse_of h n).run S m s rs v b o op hv hw e hb hl e2
    simp [F.led, e1]
/-! ### runs put together -/
theorem ran_app (rs : List D) : ∀ (is js : List Int) (t : St), (ran rs t is).length = is.length + 1 → (ran rs t (is ++ js)).length = is.length + (ran rs (lastS rs t is) js).length ∧ lastS rs t (is ++ js) = lastS rs (lastS rs t is) js
  | [], js, t, _ => by simp [ran, lastS]
  | i :: is, js, t, h => by
    simp only [ran] at h
    cases e : stepAt rs i t with
    | none => rw [e] at h; simp at h
    | some u =>
      rw [e] at h
      simp only [List.length_cons] at h
      obtain ⟨h1, h2⟩ := ran_app rs is js u (by omega)
      have l1 : lastS rs t (i :: is) = lastS rs u is := by
        simp only [lastS, ran, e]
        rw [List.getLast_cons (ran_ne rs u is)]
      have l2 : lastS rs t (i :: is ++ js) = lastS rs u (is ++ js) := by
        simp only [lastS, List.cons_append, ran, e]
        rw [List.getLast_cons (ran_ne rs u _)]
      rw [l1, l2]
      refine ⟨?_, h2⟩
      simp only [List.cons_append, ran, e, List.length_cons, h1]
      omega
theorem stepR_below {r : D} {m s : Int} (ok : isRuleB r m s = true) {t u : St} (h : stepR r t = some u) (below : List Int) : stepR r (t.1, t.2 ++ below) = some (u.1, u.2 ++ below) := by
  obtain ⟨a, b, c, put, rfl, rk⟩ := isRule_form ok
  obtain ⟨q, pile⟩ := t
  cases pile with
  | nil => rw [stepR_nil] at h; cases h
  | cons x p =>
    rw [stepR_rule] at h
    simp only [List.cons_append]
    rw [stepR_rule]
    split at h
    · rename_i hc
      cases h
      rw [if_pos hc, List.append_assoc]
    · cases h
theorem ran_below {rs : List D} {m s : Int} (ok : ∀ r ∈ rs, isRuleB r m s = true) (below : List Int) : ∀ (is : List Int) (t : St), RunOk rs.length is → (ran rs t is).length = is.length + 1 →
    (ran rs (t.1, t.2 ++ below) is).length = is.length + 1 ∧ lastS rs (t.1, t.2 ++ below) is = ((lastS rs t is).1, (lastS rs t is).2 ++ below)
  | [], t, _, _ => by simp [ran, lastS]
  | i :: is, t, hi, h => by
    simp only [ran] at h
    cases e : stepAt rs i t with
    | none => rw [e] at h; simp at h
    | some u =>
      rw [e] at h
      simp only [List.length_cons] at h
      have h0 := hi i (List.mem_cons_self ..)
      have hr : isRuleB (rs.getD i.toNat .non) m s = true := ok _ (getD_mem (by omega))
      have e2 : stepAt rs i (t.1, t.2 ++ below) = some (u.1, u.2 ++ below) := stepR_below hr e below
      obtain ⟨h1, h2⟩ := ran_below ok below is u (fun j hj => hi j (List.mem_cons_of_mem _ hj)) (by omega)
      have l1 : lastS rs t (i :: is) = lastS rs u is := by
        simp only [lastS, ran, e]
        rw [List.getLast_cons (ran_ne rs u is)]
      have l2 : lastS rs (t.1, t.2 ++ below) (i :: is) = lastS rs (u.1, u.2 ++ below) is := by
        simp only [lastS, ran, e2]
        rw [List.getLast_cons (ran_ne rs _ is)]
      rw [l1, l2]
      refine ⟨?_, h2⟩
      simp only [ran, e2, List.length_cons, h1]
theorem ran_ok {rs : List D} {m s : Int} (ok : ∀ r ∈ rs, isRuleB r m s = true) : ∀ (is : List Int) (t : St), RunOk rs.length is → StOk m s t → ∀ u ∈ ran rs t is, StOk m s u ∧ u.2.length ≤ t.2.length + is.length
  | [], t, _, ht, u, hu => by
    simp only [ran, List.mem_singleton] at hu
    subst hu
    exact ⟨ht, by simp⟩
  | i :: is, t, hi, ht, u, hu => by
    simp only [ran] at hu
    cases e : stepAt rs i t with
    | none =>
      rw [e] at hu
      rw [List.mem_singleton.mp hu]
      exact ⟨ht, by omega⟩
    | some v =>
      rw [e] at hu
      have h0 := hi i (List.mem_cons_self ..)
      have hr : isRuleB (rs.getD i.toNat .non) m s = true := ok _ (getD_mem (by omega))
      obtain ⟨g1, g2, g3⟩ := stepR_put hr e
      rcases List.mem_cons.mp hu with rfl | hu
      · exact ⟨ht, by omega⟩
      · obtain ⟨k1, k2⟩ := ran_ok ok is v (fun j hj => hi j (List.mem_cons_of_mem _ hj)) ⟨g2.1, g2.2, g3 ht.pile⟩ u hu
        exact ⟨k1, by simp only [List.length_cons]; omega⟩
end DL
set_option Elab.async false
set_option linter.all false
set_option maxRecDepth 100000
set_option maxHeartbeats 4000000
/-! PL22: the law's own stands, steps and runs -/
namespace DL
open PySem
namespace F
def law_stand : Fn := { name := "_law_stand", names := ["pot", "office", "most", "pile", "lap"], pars := 3, body := [
    .asg (.name 3) (.prim .tuple (.lc (.call "_law_take" [.var 0, .idx (.var 1) (.cst (.int 1))]) (.name 4) [4] (.irange1 (.call "_law_take" [.var 0, .bin .add (.var 2) (.cst (.int 1))])) [])),
    .ret (.tup [.call "_law_take" [.var 0, .idx (.var 1) (.cst (.int 0))], .var 3])] }
def stepsB : List Stm := [.ifs (.and (.cmp .ne (.idx (.var 1) (.cst (.int 1))) (.tup [])) (.and (.cmp .eq (.idx (.var 4) (.cst (.int 0))) (.idx (.var 1) (.cst (.int 0)))) (.cmp .eq (.idx (.var 4) (.cst (.int 1))) (.idx (.idx (.var 1) (.cst (.int 1))) (.cst (.int 0)))))) [.app (.var 2) (.tup [.var 3, .tup [.idx (.var 4) (.cst (.int 2)), .bin .add (.idx (.var 4) (.cst (.int 3))) (.sl (.idx (.var 1) (.cst (.int 1))) (.cst (.int 1)) .nil)]])] []]
def law_steps : Fn := { name := "_law_steps", names := ["office", "stand", "found", "number", "rule"], pars := 2, body := [
    .asg (.name 2) (.thaw (.lst [])),
    .for (.tup [.name 3, .name 4]) (.ienum (.idx (.var 0) (.cst (.int 2)))) stepsB,
    .ret (.var 2)] }
end F
variable {P : Prg} {S : Sto}
theorem draw_stand (h : Draws P) (hf : Has P "_law_stand" F.law_stand) {p k most : Nat} {m s : Int} {rs : List D} (hp : PotS S p k) (hk : k < 2 ^ 38) (h1 : 1 ≤ m) (h2 : m ≤ 1000) (h3 : 1 ≤ s) (h4 : s ≤ 1000) (hm : most ≤ 1000) (n : Nat) :
    ∃ (t : St) (S' : Sto), leave S.length (callF P (n + 2) "_law_stand" [.ref p, offD m s rs, .int most] S) = .ok (standD t) S' ∧ StOk m s t ∧ t.2.length ≤ most ∧ PotS S' p (k + most + 2) ∧ Only1 S S' p := by
  rw [call_fn hf (n + 1) rfl]
  obtain ⟨d, S1, f1, a1, a2, p1', o1⟩ := draw (u := (most : Int) + 1) h hp (by omega) (by omega) (by omega) n
  obtain ⟨c, rfl⟩ : ∃ c : Nat, d = (c : Int) := ⟨d.toNat, by omega⟩
  obtain ⟨ns, S2, f2, g1, g2, p2', o2⟩ := lc_draws (xs := (List.range c).map fun k : Nat => .int (k : Int)) (u := s) h p1' h3 (by omega) n (by simp; omega) (by simp; omega) (elt := .call "_law_take" [.var 0, .idx (.var 1) (.cst (.int 1))])
    (ρ := [some (.ref p), some (offD m s rs), some (.int most), none, none]) (i := 4) (b := fun y => [some (.ref p), some (offD m s rs), some (.int most), none, some y]) (fun y _ => by simp) (fun y _ S => by simp [offD])
  simp only [List.length_map, List.length_range] at g1 p2'
  obtain ⟨q, S3, f3, b1, b2, p3', o3⟩ := draw (u := m) h p2' (by omega) h1 (by omega) n
  have oA := (o1.trans o2).trans o3
  have hj := irgN c (by omega) S1
  refine ⟨(q, ns), S3, ?_, ⟨b1, by show q ≤ m - 1; omega, fun i hi => by have := g2 i hi; exact ⟨this.1, by omega⟩⟩, by show ns.length ≤ most; omega, p3'.mono (by omega), oA⟩
  have e3 : leave S.length (.ok (standD (q, ns)) S3) = .ok (standD (q, ns)) S3 := leave_len oA.len (standD_pure _)
  have e0 : (2 : Nat) ≤ sizeLine := le_size (by decide)
  unfold offD at f2 ⊢
  unfold standD at e3 ⊢
  simp [F.law_stand, f1, hj, f2, f3, e0, e3]
theorem ne_nilT (ns : List Int) (S : Sto) : cop .ne (.tup (ns.map .int)) (.tup []) S = some (!decide (ns = [])) := by
  have h : eqC S (.tup (ns.map D.int)) (.tup []) = some (decide (ns = [])) := eq_nilT ns S
  show (eqC S (.tup (ns.map D.int)) (.tup [])).map (!·) = _
  rw [h]
  rfl
def stepsF : Nat → List D → St → List (Nat × St)
  | _, [], _ => []
  | k, r :: rs, t => match stepR r t with
    | some u => (k, u) :: stepsF (k + 1) rs t
    | none => stepsF (k + 1) rs t
def pairD (x : Nat × St) : D := .tup [.int (x.1 : Int), standD x.2]
theorem pairD_pure (x : Nat × St) : (pairD x).pure = true := by
  have := standD_pure x.2
  simp [pairD, this]
  rfl
theorem pairs_pure (l : List (Nat × St)) : pureL (l.map pairD) = true := by
  rw [pureL_eq, List.all_map, List.all_eq_true]
  intro t _
  exact pairD_pure t
theorem pairD_dep (x : Nat × St) : (pairD x).toP.depth ≤ 3 := by
  have := standD_dep x.2
  simp only [pairD, D.toP, toPL, PyData.depth, PyData.depthAll]
  omega
theorem stepsF_len : ∀ (rs : List D) (k : Nat) (t : St), (stepsF k rs t).length ≤ rs.length
  | [], _, _ => by simp [stepsF]
  | r :: rs, k, t => by
    have := stepsF_len rs (k + 1) t
    simp only [stepsF]
    split <;> simp only [List.length_cons] <;> omega
theorem stepsF_mem : ∀ {rs : List D} {k : Nat} {t : St} {x : Nat × St}, x ∈ stepsF k rs t → k ≤ x.1 ∧ x.1 < k + rs.length ∧ stepR (rs.getD (x.1 - k) .non) t = some x.2
  | [], _, _, _, h => by simp [stepsF] at h
  | r :: rs, k, t, x, h => by
    simp only [stepsF] at h
    have tail : x ∈ stepsF (k + 1) rs t → k ≤ x.1 ∧ x.1 < k + (r :: rs).length ∧ stepR ((r :: rs).getD (x.1 - k) .non) t = some x.2 := fun h => by
      obtain ⟨h1, h2, h3⟩ := stepsF_mem h
      refine ⟨by omega, by simp only [List.length_cons]; omega, ?_⟩
      rw [show x.1 - k = (x.1 - (k + 1)) + 1 by omega, List.getD_cons_succ]
      exact h3
    split at h
    · rename_i u e
      rcases List.mem_cons.mp h with rfl | h
      · refine ⟨Nat.le_refl _, by simp only [List.length_cons]; omega, ?_⟩
        simpa using e
      · exact tail h
    · exact tail h
theorem stepsF_pick : ∀ (rs : List D) (k : Nat) (t : St) (i : Nat), i < rs.length → (stepsF k rs t).filter (fun x => decide (x.1 = k + i)) = match stepR (rs.getD i .non) t with
    | some u => [(k + i, u)]
    | none => []
  | [], _, _, i, h => by simp at h
  | r :: rs, k, t, 0, _ => by
    have none_ : (stepsF (k + 1) rs t).filter (fun x => decide (x.1 = k + 0)) = [] := by
      rw [List.filter_eq_nil_iff]
      intro x hx
      have := (stepsF_mem hx).1
      simp
      omega
    simp only [stepsF, List.getD_cons_zero]
    cases e : stepR r t with
    | none => simpa using none_
    | some u => 
      simp only [Nat.add_zero] at none_ ⊢
      rw [List.filter_cons, none_]
      simp
  | r :: rs, k, t, i + 1, h => by
    have ih := stepsF_pick rs (k + 1) t i (by simpa using h)
    rw [show k + 1 + i = k + (i + 1) by omega] at ih
    simp only [stepsF, List.getD_cons_succ]
    cases e : stepR r t with
    | none => exact ih
    | some u =>
      simp only
      rw [List.filter_cons, ih, if_neg (by simp)]
theorem steps_loop {m s : Int} {a : Option D} {t : St} (hl : t.2.length ≤ 100000) {c : Cfg} : ∀ (rs : List D) (k : Nat) (acc : List (Nat × St)) (x3 x4 : Option D), (∀ r ∈ rs, isRuleB r m s = true) → acc.length + rs.length ≤ 90000 →
    (forRun c (.tup [.name 3, .name 4]) F.stepsB (.fixed (enumD k rs)) [a, some (standD t), some (.ref S.length), x3, x4] (S ++ [.lst (acc.map pairD)])).seq (fun ρ1 S1 => evSs c [.ret (.var 2)] ρ1 S1) = .ret (.ref S.length) (S ++ [.lst ((acc ++ stepsF k rs t).map pairD)])
  | [], k, acc, x3, x4, _, _ => by
    simp [forRun, loop, loopL, enumD, stepsF]
  | r :: rs, k, acc, x3, x4, ok, ha => by
    simp only [List.length_cons] at ha
    have ih := steps_loop (m := m) (s := s) (a := a) hl (c := c) rs (k + 1)
    obtain ⟨ra, rb, rc, put, er, rk⟩ := isRule_form (ok r (List.mem_cons_self ..))
    have body : evSs c F.stepsB [a, some (standD t), some (.ref S.length), some (.int (k : Int)), some r] (S ++ [.lst (acc.map pairD)]) = .next [a, some (standD t), some (.ref S.length), some (.int (k : Int)), some r] (S ++ [.lst ((acc ++ (match stepR r t with
        | some u => [(k, u)]
        | none => [])).map pairD)]) := by
      have gS : (S ++ [O.lst (acc.map pairD)])[S.length]? = some (.lst (acc.map pairD)) := by simp
      obtain ⟨q, pile⟩ := t
      have e2 := ne_nilT pile (S ++ [O.lst (acc.map pairD)])
      have e0 : (2 : Nat) ≤ sizeLine := le_size (by decide)
      subst er
      unfold standD
      cases pile with
      | nil =>
        have e2 : cop .ne (.tup []) (.tup []) (S ++ [O.lst (acc.map pairD)]) = some false := e2
        simp [F.stepsB, e2, stepR_nil]
      | cons x p =>
        have e2 : cop .ne (.tup (.int x :: p.map .int)) (.tup []) (S ++ [O.lst (acc.map pairD)]) = some true := e2
        have e3 : indexD (.tup (.int x :: p.map .int)) (.int 0) (S ++ [O.lst (acc.map pairD)]) = .ok (.int x) (S ++ [O.lst (acc.map pairD)]) := indexD_tup (i := 0) rfl _
        have hfew := rk.few
        simp only [List.length_cons] at hl
        rw [stepR_rule]
        by_cases h1 : ra = q
        · by_cases h2 : rb = x
          · subst h1 h2
            have e5 := appO_at (v := pairD (k, (rc, put ++ p))) gS (by simp; omega)
            have e6 : bop .add (.tup (put.map .int)) (.tup (p.map .int)) (S ++ [O.lst (acc.map pairD)]) = .ok (.tup ((put ++ p).map .int)) (S ++ [O.lst (acc.map pairD)]) := by
              rw [bop_addT (by simp; omega), List.map_append]
            simp only [pairD, standD, List.map_append] at e5 e6
            simp [F.stepsB, e2, ruleD, e3, cut_from1, isRefD, e6, e0, e5, pairD, standD]
          · simp [F.stepsB, e2, ruleD, e3, h1, h2]
        · simp [F.stepsB, e2, ruleD, e3, h1]
    unfold forRun loop
    simp only [enumD, loopL, bindT, bindTs, Option.bind_some, List.set_cons_succ, List.set_cons_zero]
    rw [body]
    simp only
    have ih2 := ih (acc ++ (match stepR r t with
        | some u => [(k, u)]
        | none => [])) (some (.int (k : Int))) (some r) (fun r h => ok r (List.mem_cons_of_mem _ h)) (by split <;> simp <;> omega)
    unfold forRun loop at ih2
    rw [ih2]
    simp only [stepsF]
    cases stepR r t <;> simp
theorem law_steps_eq (hf : Has P "_law_steps" F.law_steps) {m s : Int} {rs : List D} (ok : ∀ r ∈ rs, isRuleB r m s = true) {t : St} (hl : t.2.length ≤ 100000) (hr : rs.length ≤ 90000) (n : Nat) :
    callF P (n + 1) "_law_steps" [offD m s rs, standD t] S = .ok (.ref S.length) (S ++ [.lst ((stepsF 0 rs t).map pairD)]) := by
  rw [call_fn hf n rfl]
  have lp := steps_loop (S := S) (m := m) (s := s) (a := some (offD m s rs)) hl (c := cfgAt P n) rs 0 [] none none ok (by simpa using hr)
  simp only [List.nil_append, List.map_nil] at lp
  have e1 : indexD (offD m s rs) (.int 2) (S ++ [O.lst []]) = .ok (.tup rs) (S ++ [O.lst []]) := indexD_tup (i := 2) rfl _
  simp [F.law_steps, thawD, e1, ienumR]
  simp at lp
  rw [lp]
  simp
theorem law_steps_leave (hf : Has P "_law_steps" F.law_steps) {m s : Int} {rs : List D} (ok : ∀ r ∈ rs, isRuleB r m s = true) {t : St} (hl : t.2.length ≤ 100000) (hr : rs.length ≤ 90000) (hS : stoLow S.length S = true) (n : Nat) :
    leave S.length (callF P (n + 1) "_law_steps" [offD m s rs, standD t] S) = .ok (.lst ((stepsF 0 rs t).map pairD)) S := by
  rw [law_steps_eq hf ok hl hr n]
  exact leave_fresh (pairs_pure _) (fun x hx => by obtain ⟨u, _, rfl⟩ := List.mem_map.mp hx; have := pairD_dep u; omega) hS
end DL
set_option Elab.async false
set_option linter.all false
set_option maxRecDepth 100000
set_option maxHeartbeats 4000000
/-! PL23: the law's own runs -/
namespace DL
open PySem
namespace F
def ranB : List Stm := [.asg (.name 5) (.lc (.var 7) (.tup [.name 6, .name 7]) [6, 7] (.iseq (.call "_law_steps" [.var 0, .idx (.var 3) (.neg (.cst (.int 1)))])) [.cmp .eq (.var 6) (.var 4)]), .ifs (.cmp .eq (.var 5) (.lst [])) [.ret (.var 3)] [], .app (.var 3) (.idx (.var 5) (.cst (.int 0)))]
def law_ran : Fn := { name := "_law_ran", names := ["office", "stand", "run", "found", "number", "some", "rule", "new"], pars := 3, body := [
    .asg (.name 3) (.thaw (.lst [.var 1])),
    .for (.name 4) (.iseq (.var 2)) ranB,
    .ret (.var 3)] }
end F
variable {P : Prg} {S : Sto}
theorem SP.snoc (h : SP S) {xs : List D} (hx : pureL xs = true) : SP (S ++ [.lst xs]) := fun o ho => by
  rcases List.mem_append.mp ho with ho | ho
  · exact h o ho
  · exact ⟨xs, List.mem_singleton.mp ho, hx⟩
theorem eq_nilL {x : D} (hx : x.pure = true) (ho : okP (.tup [x]) = true) (S : Sto) : cop .eq (.lst [x]) (.lst []) S = some false := by
  have h1 : okP (.lst []) = true := by decide +kernel
  have h2 := lst_okP ho
  have e : eqD (.lst [x]) (.lst []) = false := by simp only [eqD, D.toP, toPL, PyData.eqv, PyData.eqvAll]
  simp only [cop, eqC, see_lst, pureL_cons, pureL_nil, hx, Bool.and_self, if_true, h1, h2, e]
theorem eq_nilL0 (S : Sto) : cop .eq (.lst []) (.lst []) S = some true := by
  have h1 : okP (.lst []) = true := by decide +kernel
  have e : eqD (.lst []) (.lst []) = true := by simp only [eqD, D.toP, toPL, PyData.eqv, PyData.eqvAll]
  simp only [cop, eqC, see_lst, pureL_nil, if_true, h1, Bool.and_self, e]
theorem standD_okP (t : St) : okP (.tup [standD t]) = true := tup_okP (k := 2) (fun r hr => by
  rw [List.mem_singleton.mp hr]
  exact ⟨by simp only [standD, D.toP, toPL, PyData.canLay0, PyData.canLayAll0, ints_lay, Bool.and_true, Bool.true_and], standD_dep t⟩) (by decide)
def isNum (k : Nat) : D → Bool
  | .tup [.int j, _] => decide (j = (k : Int))
  | _ => false
def newOf : D → D
  | .tup [_, u] => u
  | _ => .non
theorem pick_map (rs : List D) (t : St) {i : Nat} (hi : i < rs.length) : ((((stepsF 0 rs t).map pairD).filter (isNum i)).map newOf) = match stepR (rs.getD i .non) t with
    | some u => [standD u]
    | none => [] := by
  have e1 : (isNum i ∘ pairD) = fun x => decide (x.1 = i) := by
    funext x
    simp only [Function.comp, pairD, isNum, Int.natCast_inj]
  have e2 : (newOf ∘ pairD) = fun x : Nat × St => standD x.2 := rfl
  have := stepsF_pick rs 0 t i hi
  simp only [Nat.zero_add] at this
  rw [List.filter_map, List.map_map, e1, e2, this]
  cases stepR (rs.getD i .non) t <;> rfl
theorem ran_loop (hf : Has P "_law_steps" F.law_steps) {m s : Int} {rs : List D} (ok : ∀ r ∈ rs, isRuleB r m s = true) (hr : rs.length ≤ 80000) (hS : SP S) (n : Nat) {a b : Option D} : ∀ (is : List Int) (acc : List St) (t : St) (x4 x5 x6 x7 : Option D), RunOk rs.length is →
    t.2.length + is.length ≤ 90000 → acc.length + is.length ≤ 90000 →
    (forRun (cfgAt P (n + 1)) (.name 4) F.ranB (.fixed (is.map .int)) [some (offD m s rs), a, b, some (.ref S.length), x4, x5, x6, x7] (S ++ [.lst ((acc ++ [t]).map standD)])).seq (fun ρ1 S1 => evSs (cfgAt P (n + 1)) [.ret (.var 3)] ρ1 S1) =
      .ret (.ref S.length) (S ++ [.lst ((acc ++ ran rs t is).map standD)])
  | [], acc, t, x4, x5, x6, x7, _, _, _ => by
    simp [forRun, loop, loopL, ran]
  | i :: is, acc, t, x4, x5, x6, x7, hi, hl, ha => by
    have h0 := hi i (List.mem_cons_self ..)
    obtain ⟨k, rfl⟩ : ∃ k : Nat, i = (k : Int) := ⟨i.toNat, by omega⟩
    have hk : k < rs.length := by omega
    simp only [List.length_cons] at hl ha
    have hT : SP (S ++ [O.lst ((acc ++ [t]).map standD)]) := hS.snoc (stands_pure _)
    have e1 := law_steps_leave (S := S ++ [.lst ((acc ++ [t]).map standD)]) hf ok (t := t) (by omega) (by omega) (hT.low _) n
    have e2 : indexD (.ref S.length) (.int (-1)) (S ++ [.lst ((acc ++ [t]).map standD)]) = .ok (standD t) (S ++ [.lst ((acc ++ [t]).map standD)]) := index_last (xs := acc.map standD) (by simp)
    have e3 : stepAt rs (k : Int) t = stepR (rs.getD k .non) t := by simp only [stepAt, Int.toNat_natCast]
    have hrk : isRuleB (rs.getD k .non) m s = true := ok _ (getD_mem hk)
    have pk := pick_map rs t hk
    generalize rs.getD k .non = r at e3 hrk pk
    have ih := ran_loop hf ok hr hS n (a := a) (b := b) is
    have body : ∃ y6 y7, evSs (cfgAt P (n + 1)) F.ranB [some (offD m s rs), a, b, some (.ref S.length), some (.int (k : Int)), x5, x6, x7] (S ++ [.lst ((acc ++ [t]).map standD)]) = match stepR r t with
        | some u => .next [some (offD m s rs), a, b, some (.ref S.length), some (.int (k : Int)), some (.lst [standD u]), y6, y7] (S ++ [.lst ((acc ++ [t] ++ [u]).map standD)])
        | none => .ret (.ref S.length) (S ++ [.lst ((acc ++ [t]).map standD)]) := by
      have gS : (S ++ [O.lst ((acc ++ [t]).map standD)])[S.length]? = some (.lst ((acc ++ [t]).map standD)) := by simp
      have e5 : ∀ u, appO (S ++ [O.lst ((acc ++ [t]).map standD)]) (.ref S.length) (standD u) = some ((S ++ [O.lst ((acc ++ [t]).map standD)]).set S.length (.lst ((acc ++ [t]).map standD ++ [standD u]))) := fun u => appO_at gS (by simp; omega)
      refine ⟨x6, x7, ?_⟩
      generalize eT : S ++ [O.lst ((acc ++ [t]).map standD)] = T at gS e1 e2 e5 ⊢
      have lc := lcF (S := T) (c := cfgAt P (n + 1)) (elt := .var 7) (e := .cmp .eq (.var 6) (.var 4)) (tg := .tup [.name 6, .name 7]) (ρ := [some (offD m s rs), a, b, some (.ref S.length), some (.int (k : Int)), x5, none, none]) (xs := (stepsF 0 rs t).map pairD)
        (q := isNum k) (g := newOf) (fun x hx => by
          obtain ⟨u, _, rfl⟩ := List.mem_map.mp hx
          refine ⟨_, rfl, ?_, fun _ => ?_⟩ <;> simp [pairD, isNum, newOf]) (by have := stepsF_len rs 0 t; simp; omega)
      rw [pk] at lc
      cases e4 : stepR r t with
      | none =>
        rw [e4] at lc
        simp [F.ranB, e2, negD, e1, iseqR, lc, eq_nilL0, wipeE]
      | some u =>
        rw [e4] at lc
        have e6 := eq_nilL (standD_pure u) (standD_okP u) T
        have e7 : indexD (.lst [standD u]) (.int 0) T = .ok (standD u) T := indexD_lst (i := 0) rfl T
        simp [F.ranB, e2, negD, e1, iseqR, lc, e6, e7, e5, isRefD, wipeE]
        rw [← eT]
        simp
    obtain ⟨y6, y7, body⟩ := body
    unfold forRun loop
    simp only [List.map_cons, loopL, bindT, List.set_cons_succ, List.set_cons_zero]
    rw [body]
    cases e4 : stepR r t with
    | none => simp [ran, e3, e4]
    | some u =>
      have := (stepR_put hrk e4).1
      have ih2 := ih (acc ++ [t]) u (some (.int (k : Int))) (some (.lst [standD u])) y6 y7 (fun i h => hi i (List.mem_cons_of_mem _ h)) (by omega) (by simp; omega)
      unfold forRun loop at ih2
      simp only [ran, e3, e4]
      rw [ih2]
      simp
theorem law_ran_leave (hf : Has P "_law_ran" F.law_ran) (hs : Has P "_law_steps" F.law_steps) {m s : Int} {rs : List D} (ok : ∀ r ∈ rs, isRuleB r m s = true) (hr : rs.length ≤ 80000) (hS : SP S) {t : St} {is : List Int} (hi : RunOk rs.length is) (hl : t.2.length + is.length ≤ 90000) (n : Nat) :
    leave S.length (callF P (n + 2) "_law_ran" [offD m s rs, standD t, runD is] S) = .ok (.lst ((ran rs t is).map standD)) S := by
  have e : callF P (n + 2) "_law_ran" [offD m s rs, standD t, runD is] S = .ok (.ref S.length) (S ++ [.lst ((ran rs t is).map standD)]) := by
    rw [call_fn hf (n + 1) rfl]
    have lp := ran_loop (S := S) hs ok hr hS n (a := some (standD t)) (b := some (runD is)) is [] t none none none none hi (by omega) (by simp; omega)
    have e0 : (1 : Nat) ≤ sizeLine := le_size (by decide)
    simp [F.law_ran, e0, thawD, bindT]
    simp only [List.nil_append, List.map_cons, List.map_nil] at lp
    have e1 : srcOf (S ++ [O.lst [standD t]]) (runD is) = some (.fixed (is.map .int)) := rfl
    simp [iseqR, e1]
    simp at lp
    rw [lp]
    simp
  rw [e]
  exact leave_fresh (stands_pure _) (fun x hx => by obtain ⟨u, _, rfl⟩ := List.mem_map.mp hx; have := standD_dep u; omega) (hS.low _)
namespace F
def runB : List Stm := [.asg (.name 6) (.call "_law_steps" [.var 1, .var 2]), .ifs (.cmp .ne (.var 6) (.lst [])) [.asg (.tup [.name 7, .name 2]) (.call "_law_of" [.var 0, .var 6]), .app (.var 4) (.var 7)] []]
def law_run : Fn := { name := "_law_run", names := ["pot", "office", "stand", "most", "found", "lap", "some", "number"], pars := 4, body := [
    .asg (.name 4) (.thaw (.lst [])),
    .for (.name 5) (.irange1 (.call "_law_take" [.var 0, .bin .add (.var 3) (.cst (.int 1))])) runB,
    .ret (.prim .tuple (.var 4))] }
end F
theorem ne_nilL (l : List (Nat × St)) (hl : l.length ≤ 90000) (S : Sto) : cop .ne (.lst (l.map pairD)) (.lst []) S = some (!decide (l = [])) := by
  have h1 : okP (.lst []) = true := by decide +kernel
  have h2 : okP (.lst (l.map pairD)) = true := lst_okP (tup_okP (k := 3) (fun r hr => by
    obtain ⟨x, _, rfl⟩ := List.mem_map.mp hr
    exact ⟨by simp only [pairD, standD, D.toP, toPL, PyData.canLay0, PyData.canLayAll0, ints_lay, Bool.and_true, Bool.true_and], pairD_dep x⟩) (by decide))
  have e : eqD (.lst (l.map pairD)) (.lst []) = decide (l = []) := by
    cases l <;> simp [eqD, D.toP, toPL, PyData.eqv, PyData.eqvAll]
  simp only [cop, eqC, see_lst, pairs_pure, pureL_nil, if_true, h1, h2, Bool.and_self, e, Option.map_some]
theorem run_snoc (rs : List D) (t : St) (is : List Int) (h : (ran rs t is).length = is.length + 1) {i : Int} {u : St} (e : stepAt rs i (lastS rs t is) = some u) : (ran rs t (is ++ [i])).length = (is ++ [i]).length + 1 ∧ lastS rs t (is ++ [i]) = u := by
  obtain ⟨h1, h2⟩ := ran_app rs is [i] t h
  refine ⟨by rw [h1]; simp [ran, e], ?_⟩
  rw [h2]
  generalize lastS rs t is = v at e
  simp [lastS, ran, e]
theorem SP.set {T : Sto} (h : SP T) {q : Nat} {xs : List D} (hx : pureL xs = true) : SP (T.set q (.lst xs)) := fun o ho => by
  rcases List.mem_or_eq_of_mem_set ho with ho | rfl
  · exact h o ho
  · exact ⟨xs, rfl, hx⟩
theorem draw_run (h : Draws P) (hf : Has P "_law_run" F.law_run) (hs : Has P "_law_steps" F.law_steps) {p k most : Nat} {m s : Int} {rs : List D} (ok : ∀ r ∈ rs, isRuleB r m s = true) (hr : rs.length ≤ 1000) (hp : PotS S p k) (hS : SP S) (hk : k < 2 ^ 38) (hm : most ≤ 1000) {t : St} (ht : StOk m s t) (hl : t.2.length ≤ 1000) (n : Nat) :
    ∃ (is : List Int) (S' : Sto), leave S.length (callF P (n + 3) "_law_run" [.ref p, offD m s rs, standD t, .int most] S) = .ok (runD is) S' ∧ RunOk rs.length is ∧ is.length ≤ most ∧ (ran rs t is).length = is.length + 1 ∧ PotS S' p (k + most + 1) ∧ Only1 S S' p := by
  have hlt := hp.lt
  rw [call_fn hf (n + 2) rfl]
  obtain ⟨d, S1, f1, a1, a2, p1', o1⟩ := draw (u := (most : Int) + 1) h (hp.app (T := [.lst []])) (by omega) (by omega) (by omega) (n + 1)
  obtain ⟨c, rfl⟩ : ∃ c : Nat, d = (c : Int) := ⟨d.toNat, by omega⟩
  have g1 : S1[S.length]? = some (.lst []) := by
    rw [o1.get (by omega)]
    simp
  have q1 : Two (S ++ [.lst []]) S1 p S.length := (Two.refl _ _ _).only o1
  have s1 : SP S1 := (hS.snoc rfl).only o1 p1'
  have loop := loopL_ex (tg := .name 5) (body := evSs (cfgAt P (n + 2)) F.runB)
    (fun rest ρ T => ∃ (is : List Int) (x5 x6 x7 : Option D), ρ = [some (.ref p), some (offD m s rs), some (standD (lastS rs t is)), some (.int most), some (.ref S.length), x5, x6, x7] ∧ T[S.length]? = some (.lst (is.map .int)) ∧ RunOk rs.length is ∧ is.length + rest.length ≤ c ∧
      (ran rs t is).length = is.length + 1 ∧ PotS T p (k + 1 + (c - rest.length)) ∧ Two (S ++ [.lst []]) T p S.length ∧ SP T)
    (xs := (List.range c).map fun k : Nat => .int (k : Int)) (ρ := [some (.ref p), some (offD m s rs), some (standD t), some (.int most), some (.ref S.length), none, none, none]) (S := S1)
    ⟨[], none, none, none, by simp [lastS, ran], by simpa using g1, fun i h => (by cases h), by simp, by simp [ran], by simpa using p1', q1, s1⟩ (fun x xs ρ T ⟨is, x5, x6, x7, eρ, gT, hi, hn, hfull, pT, qT, sT⟩ => by
      subst eρ
      rw [List.length_cons] at hn pT
      have hlast : lastS rs t is ∈ ran rs t is := List.getLast_mem _
      obtain ⟨hst, hsl⟩ := ran_ok ok is t hi ht _ hlast
      have e1 := law_steps_leave (S := T) hs ok (t := lastS rs t is) (by omega) (by omega) (sT.low _) (n + 1)
      have ll := stepsF_len rs 0 (lastS rs t is)
      have e2 := ne_nilL (stepsF 0 rs (lastS rs t is)) (by omega) T
      by_cases c0 : stepsF 0 rs (lastS rs t is) = []
      · rw [c0] at e1 e2
        have e2 : cop .ne (.lst []) (.lst []) T = some false := e2
        have e1 : leave T.length (callF P (n + 2) "_law_steps" [offD m s rs, standD (lastS rs t is)] T) = .ok (.lst []) T := e1
        refine ⟨[some (.ref p), some (offD m s rs), some (standD (lastS rs t is)), some (.int most), some (.ref S.length), some x, x6, x7], [some (.ref p), some (offD m s rs), some (standD (lastS rs t is)), some (.int most), some (.ref S.length), some x, some (.lst []), x7], T, by simp, .inl (by simp [F.runB, e1, bindT, e2]), is, some x, some (.lst []), x7, rfl, gT, hi, by omega, hfull, pT.mono (by omega), qT, sT⟩
      · obtain ⟨d, T', hd, f2, pT', oT'⟩ := draw_of (xs := (stepsF 0 rs (lastS rs t is)).map pairD) h pT (by omega) (by simpa using c0) (pairs_pure _) (by simp; omega) n
        obtain ⟨⟨j, u⟩, hx, rfl⟩ := List.mem_map.mp hd
        obtain ⟨_, b1, b2⟩ := stepsF_mem hx
        simp only [Nat.zero_add, Nat.sub_zero] at b1 b2
        have est : stepAt rs (j : Int) (lastS rs t is) = some u := by simpa only [stepAt, Int.toNat_natCast] using b2
        obtain ⟨w1, w2⟩ := run_snoc rs t is hfull est
        have gT' : T'[S.length]? = some (.lst (is.map .int)) := by rw [oT'.get (by omega)]; exact gT
        have ap := appO_at (v := .int (j : Int)) gT' (by simp; omega)
        have e2 : cop .ne (.lst ((stepsF 0 rs (lastS rs t is)).map pairD)) (.lst []) T = some true := by rw [e2]; simp [c0]
        have pd : (pairD (j, u)) = .tup [.int (j : Int), standD u] := rfl
        rw [pd] at f2
        have qT' : T'.length = S.length + 1 := by rw [oT'.len, qT.len]; simp
        refine ⟨[some (.ref p), some (offD m s rs), some (standD (lastS rs t is)), some (.int most), some (.ref S.length), some x, x6, x7], [some (.ref p), some (offD m s rs), some (standD u), some (.int most), some (.ref S.length), some x, some (.lst ((stepsF 0 rs (lastS rs t is)).map pairD)), some (.int (j : Int))], T'.set S.length (.lst (is.map .int ++ [.int (j : Int)])), by simp, .inl (by simp [F.runB, e1, bindT, bindTs, e2, f2, isRefD, ap]), is ++ [(j : Int)], some x, some (.lst ((stepsF 0 rs (lastS rs t is)).map pairD)), some (.int (j : Int)), by rw [w2], by rw [List.getElem?_set_self (by omega)]; simp, fun i hi2 => ?_, by simp; omega, w1, (pT'.keep (q := S.length) (by omega)).mono (by omega), (qT.only oT').set, (sT.only oT' pT').set ?_⟩
        · rcases List.mem_append.mp hi2 with hi2 | hi2
          · exact hi i hi2
          · rw [List.mem_singleton.mp hi2]; omega
        · have := ints_pure (is ++ [(j : Int)])
          simpa using this)
  obtain ⟨ρ1, T, eL, is, x5, x6, x7, rfl, gT, hi, hn, hfull, pT, qT, sT⟩ := loop
  simp only [List.length_nil, Nat.add_zero, Nat.sub_zero] at hn pT
  have oD := qT.drop hlt
  have hj := irgN c (by omega) S1
  have hT : T.length = S.length + 1 := by rw [qT.len]; simp
  have e9 : p1 .tuple (.ref S.length) T = .ok (runD is) T := by simp only [p1, listOf, gT, runD]
  have e10 : leave S.length (.ok (runD is) T) = .ok (runD is) (T.take S.length) := leave_take (by simp [runD, ints_pure]) (sT.take _)
  refine ⟨is, T.take S.length, ?_, hi, by omega, hfull, ?_, oD⟩
  · have lp : forRun (cfgAt P (n + 2)) (.name 5) F.runB (.fixed ((List.range c).map fun k : Nat => .int (k : Int))) [some (.ref p), some (offD m s rs), some (standD t), some (.int most), some (.ref S.length), none, none, none] S1 = _ := eL
    simp only [List.length_append, List.length_cons, List.length_nil] at f1
    simp [F.law_run, thawD, f1, hj, lp, e9, e10]
  · exact (pT.take hlt).mono (by omega)
end DL
set_option Elab.async false
set_option linter.all false
set_option maxRecDepth 100000
set_option maxHeartbeats 4000000
/-! PL24: what the law says of a run -/
namespace DL
open PySem
namespace F
def law_is_told : Fn := { name := "_law_is_told", names := ["office", "stand", "run", "due", "caught", "back", "stuck", "last"], pars := 3, body := [
    .asg (.name 3) (.call "_law_ran" [.var 0, .var 1, .var 2]),
    .asg (.tup [.name 4, .name 5]) (.heard (.call "stands_of" [.var 0, .var 1, .var 2])),
    .asg (.tup [.name 6, .name 7]) (.heard (.call "led" [.var 0, .var 1, .var 2])),
    .ifs (.cmp .le (.prim .len (.var 3)) (.prim .len (.var 2))) [.ifs (.or (.not (.isx (.var 4) "Stuck")) (.not (.isx (.var 6) "Stuck"))) [.ret (.cst (.bl false))] [], .ret (.cmp .eq (.prim .repr (.tup [.val (.var 4), .val (.var 6)])) (.prim .repr (.tup [.bin .sub (.prim .len (.var 3)) (.cst (.int 1)), .bin .sub (.prim .len (.var 3)) (.cst (.int 1))])))] [],
    .ret (.and (.cmp .isNon (.var 4) (.cst .non)) (.and (.cmp .isNon (.var 6) (.cst .non)) (.cmp .eq (.prim .repr (.tup [.var 5, .var 7])) (.prim .repr (.tup [.prim .tuple (.var 3), .idx (.var 3) (.neg (.cst (.int 1)))])))))] }
end F
variable {P : Prg} {S : Sto}
theorem standD_base {m s : Int} (hm : m ≤ 100) (hs : s ≤ 100) {t : St} (h : StOk m s t) : Base 2 (standD t) := by
  have h1 : sm (standD t) = true := by
    have a1 : sm (.int t.1) = true := sm_int (by have := h.q0; omega) (by have := h.q1; omega)
    have a2 : smL (t.2.map .int) = true := smL_ints fun i hi => by have := h.pile i hi; omega
    simp only [sm] at a1
    simp only [standD, sm, smL, a1, a2, Bool.and_self]
  exact (sm_base _ h1).mono (standD_dep t)
theorem wtL_stands {l : List St} {k : Nat} (h : ∀ u ∈ l, u.2.length ≤ k) : wtL (l.map standD) ≤ (1935 + 1923 * k) * l.length := by
  induction l with
  | nil => simp [wtL]
  | cons u l ih =>
    have h1 := h u (List.mem_cons_self ..)
    have h2 := ih fun v hv => h v (List.mem_cons_of_mem _ hv)
    have h3 := wt_stand u
    have h4 : 1923 * u.2.length ≤ 1923 * k := Nat.mul_le_mul_left _ h1
    simp only [List.map_cons, wtL, List.length_cons, Nat.mul_add]
    omega
theorem stands_ok {m s : Int} (hm : m ≤ 100) (hs : s ≤ 100) {l : List St} (h : ∀ u ∈ l, StOk m s u ∧ u.2.length ≤ 80) (hl : l.length ≤ 70) : Ok 11000000 3 (.tup (l.map standD)) := by
  refine ok_tup (k := 2) (fun x hx => ?_) ?_
  · obtain ⟨u, hu, rfl⟩ := List.mem_map.mp hx
    exact standD_base hm hs (h u hu).1
  · have := wtL_stands (k := 80) fun u hu => (h u hu).2
    have h2 : (1935 + 1923 * 80) * l.length ≤ (1935 + 1923 * 80) * 70 := Nat.mul_le_mul_left _ hl
    omega
theorem stand_ok {m s : Int} (hm : m ≤ 100) (hs : s ≤ 100) {t : St} (h : StOk m s t) (hl : t.2.length ≤ 1000) : Ok 2000000 2 (standD t) := by
  have b := standD_base hm hs h
  have w := wt_stand t
  exact ⟨b.pure, b.show_, b.lay, b.dep, by omega⟩
theorem eq_str (x : Str) (S : Sto) : cop .eq (.str x) (.str x) S = some true := by simp [cop, eqC]
theorem ne_str (x : Str) (S : Sto) : cop .ne (.str x) (.str x) S = some false := by simp [cop, eqC]
theorem index_lastL {xs : List D} {x : D} (T : Sto) : indexD (.lst (xs ++ [x])) (.int (-1)) T = .ok x T := by
  have e : L2.atI (xs ++ [x]) (-1) = some x := by
    unfold L2.atI L2.ixN
    simp
    split
    · have : (-1 + ((xs.length : Int) + 1)).toNat = xs.length := by omega
      simp [this]
    · omega
  simp only [indexD, seqOf, listOf, e]
theorem ints2_ok {v : Int} (h : -1000000 ≤ v) (h2 : v ≤ 1000000) : Ok 5000 1 (.tup [.int v, .int v]) := by
  have b : v.natAbs < 2 ^ 1001 := Nat.lt_of_le_of_lt (show v.natAbs ≤ 2 ^ 20 by omega) (Nat.pow_lt_pow_right (by decide) (by decide))
  refine ok_tup (k := 0) (fun x hx => ?_) (by simp [wtL, D.wt])
  simp at hx
  subst hx
  exact base_int b
theorem law_is_told_eq (h : LedP P) (hf : Has P "_law_is_told" F.law_is_told) (hr : Has P "_law_ran" F.law_ran) (hs : Has P "_law_steps" F.law_steps) (hx : ("Stuck" : Str) ∈ P.excs) {m s : Int} {rs : List D} (o : isOfficeB (offD m s rs) = true) (op : (offD m s rs).pure = true) (ok : ∀ r ∈ rs, isRuleB r m s = true) (hm : m ≤ 100) (hs2 : s ≤ 100) (hrl : rs.length ≤ 1000)
    {t : St} (ht : StOk m s t) (hp : t.2.length ≤ 15) {is : List Int} (hi : RunOk rs.length is) (hl : is.length ≤ 62) (hS : SP S) (n : Nat) : callF P (n + 13) "_law_is_told" [offD m s rs, standD t, runD is] S = .ok (.bl true) S := by
  rw [call_fn hf (n + 12) rfl]
  have hS1 := hS.low S.length
  have e1 := law_ran_leave (S := S) hr hs ok (by omega) hS hi (t := t) (by omega) (n + 10)
  have e2 := stands_of_eq (S := S) h o op ok ht (by omega) hi (by omega) hS1 (n + 1)
  have e3 := led_eq (S := S) h o op ok ht (by omega) hi (by omega) hS1 n
  have hran := ran_ok ok is t hi ht
  have hrlen := ran_len rs is t
  have k1 : p1 .len (.lst ((ran rs t is).map standD)) S = .ok (.int ((ran rs t is).length : Int)) S := by simp [p1]
  have k2 : p1 .len (runD is) S = .ok (.int (is.length : Int)) S := by simp [p1, runD]
  have k3 : p1 .tuple (.lst ((ran rs t is).map standD)) S = .ok (.tup ((ran rs t is).map standD)) S := rfl
  have e0 : (2 : Nat) ≤ sizeLine := le_size (by decide)
  by_cases c : (ran rs t is).length ≤ is.length
  · rw [if_pos c] at e2 e3
    have r1 := repr_ok (ints2_ok (v := ((ran rs t is).length : Int) - 1) (by omega) (by omega)) (by omega) (by omega) S
    simp [F.law_is_told, e1, bindT, bindTs, e_heard, e2, e3, heardR_exc hx, k1, k2, c, isxR_err hx, valR_err hx, e0, r1, eq_str]
  · rw [if_neg c] at e2 e3
    have e4 : leave S.length (.ok (.tup ((ran rs t is).map standD)) S) = .ok (.tup ((ran rs t is).map standD)) S := leave_same (by simp [stands_pure])
    have e5 : leave S.length (.ok (standD (lastS rs t is)) S) = .ok (standD (lastS rs t is)) S := leave_same (standD_pure _)
    have k4 : indexD (.lst ((ran rs t is).map standD)) (.int (-1)) S = .ok (standD (lastS rs t is)) S := by
      obtain ⟨l, el⟩ := ran_last rs t is
      rw [el, List.map_append, List.map_cons, List.map_nil]
      exact index_lastL S
    have hlast : lastS rs t is ∈ ran rs t is := List.getLast_mem _
    have o1 := stands_ok (m := m) (s := s) hm hs2 (l := ran rs t is) (fun u hu => ⟨(hran u hu).1, by have := (hran u hu).2; omega⟩) (by omega)
    have o2 := stand_ok hm hs2 (hran _ hlast).1 (by have := (hran _ hlast).2; omega)
    have o3 : Ok 14000000 4 (.tup [.tup ((ran rs t is).map standD), standD (lastS rs t is)]) := ok_tup (k := 3) (fun x hx => by
      simp at hx
      rcases hx with rfl | rfl
      · exact o1.base
      · exact o2.base.mono (by omega)) (by have := o1.wt; have := o2.wt; simp only [wtL]; omega)
    have r1 := repr_ok o3 (by omega) (by omega) S
    simp [F.law_is_told, e1, bindT, bindTs, e_heard, e2, e3, e4, e5, k1, k2, k3, k4, c, e0, r1, eq_str, negD, isNonD]
end DL
set_option Elab.async false
set_option linter.all false
set_option maxRecDepth 100000
set_option maxHeartbeats 4000000
/-! PL25: steps -/
namespace DL
open PySem
namespace F
def steps_from : Fn := { name := "steps_from", names := ["office", "stand", "mood", "pile", "number"], pars := 2, body := [
    .asg (.tup [.name 2, .name 3]) (.var 1),
    .ifs (.cmp .eq (.var 3) (.tup [])) [.ret (.lst [])] [],
    .ret (.lc (.tup [.var 4, .call "stand_by" [.var 0, .var 1, .var 4]]) (.name 4) [4] (.iseq (.call "rules_for" [.var 0, .var 2, .idx (.var 3) (.cst (.int 0))])) [])] }
def steps : Fn := { name := "steps", names := ["office", "stand"], pars := 2, body := [
    .expr (.call "check_stand" [.var 0, .var 1]),
    .ret (.prim .tuple (.call "steps_from" [.var 0, .var 1]))] }
end F
/-- what steps need -/
structure StepsP (P : Prg) : Prop where
  st : StandsP P
  by_ : Has P "stand_by" F.stand_by
  rf : Has P "rules_for" F.rules_for
  from_ : Has P "steps_from" F.steps_from
  steps : Has P "steps" F.steps
variable {P : Prg} {S : Sto}
theorem fit_steps {m s : Int} {q x : Int} {p : List Int} : ∀ (rs : List D) (k : Nat), (∀ r ∈ rs, isRuleB r m s = true) →
    ((List.range rs.length).filter fun i => matchB q x (rs.getD i .non)).map (fun i : Nat => D.tup [.int ((k + i : Nat) : Int), optD (stepR (rs.getD i .non) (q, x :: p))]) = (stepsF k rs (q, x :: p)).map pairD
  | [], k, _ => rfl
  | r :: rs, k, h => by
    have ih := fit_steps (q := q) (x := x) (p := p) rs (k + 1) fun r hr => h r (List.mem_cons_of_mem _ hr)
    obtain ⟨a, b, c, put, rfl, rk⟩ := isRule_form (h r (List.mem_cons_self ..))
    rw [List.length_cons, List.range_succ_eq_map, List.filter_cons]
    have e1 : (((List.range rs.length).map Nat.succ).filter fun i => matchB q x ((ruleD a b c put :: rs).getD i .non)).map (fun i : Nat => D.tup [.int ((k + i : Nat) : Int), optD (stepR ((ruleD a b c put :: rs).getD i .non) (q, x :: p))]) = (stepsF (k + 1) rs (q, x :: p)).map pairD := by
      rw [List.filter_map, List.map_map, ← ih]
      refine List.map_congr_left fun i _ => ?_
      simp only [Function.comp_def, Nat.succ_eq_add_one, List.getD_cons_succ]
      congr 4
      omega
    by_cases hc : a = q ∧ b = x
    · have e2 : matchB q x (ruleD a b c put) = true := by simp [ruleD, matchB, hc.1, hc.2]
      have e3 : stepR (ruleD a b c put) (q, x :: p) = some (c, put ++ p) := by rw [stepR_rule, if_pos hc]
      simp only [List.getD_cons_zero, e2, if_true, List.map_cons, e1, stepsF, e3, Nat.add_zero]
      rfl
    · have e2 : matchB q x (ruleD a b c put) = false := by
        simp only [ruleD, matchB]
        cases h1 : decide (a = q) <;> simp
        intro h2
        exact hc ⟨of_decide_eq_true h1, h2⟩
      have e3 : stepR (ruleD a b c put) (q, x :: p) = none := by rw [stepR_rule, if_neg hc]
      simp only [List.getD_cons_zero, e2, Bool.false_eq_true, if_false, e1, stepsF, e3]
theorem steps_from_eq (h : StepsP P) {m s : Int} {rs : List D} (ok : ∀ r ∈ rs, isRuleB r m s = true) (hr : rs.length ≤ 100000) {t : St} (hl : t.2.length ≤ 100000) (n : Nat) :
    callF P (n + 2) "steps_from" [offD m s rs, standD t] S = .ok (.lst ((stepsF 0 rs t).map pairD)) S := by
  rw [call_fn h.from_ (n + 1) rfl]
  obtain ⟨q, pile⟩ := t
  have sz : 1000000 ≤ sizeLine := sizeLine_big
  have e0 : (0 : Nat) ≤ sizeLine := by omega
  cases pile with
  | nil =>
    have e2 : cop .eq (.tup []) (.tup []) S = some true := eq_nilT [] S
    have e3 : stepsF 0 rs (q, []) = [] := by
      have : ∀ (rs : List D) (k : Nat), stepsF k rs (q, []) = [] := fun rs => by
        induction rs with
        | nil => intro k; rfl
        | cons r rs ih => intro k; simp only [stepsF, stepR_nil, ih]
      exact this rs 0
    simp [F.steps_from, standD, bindT, bindTs, e2, e3, e0]
  | cons x p =>
    have e2 : cop .eq (.tup (.int x :: p.map .int)) (.tup []) S = some false := (eq_nilT (x :: p) S).trans (by simp)
    have e3 : indexD (.tup (.int x :: p.map .int)) (.int 0) S = .ok (.int x) S := indexD_tup (i := 0) rfl S
    have e4 := rules_for_eq (S := S) h.rf ok hr q x n
    have e5 : leave S.length (.ok (.tup (fitL rs q x)) S) = .ok (.tup (fitL rs q x)) S := leave_same (by
      have : ∃ ns : List Int, fitL rs q x = ns.map .int := ⟨((List.range rs.length).filter fun i => matchB q x (rs.getD i .non)).map fun i : Nat => (i : Int), by simp [fitL, List.map_map, Function.comp_def]⟩
      obtain ⟨ns, e⟩ := this
      rw [pure_tup, e]
      exact ints_pure ns)
    have hlen : (fitL rs q x).length ≤ rs.length := by
      unfold fitL
      rw [List.length_map]
      exact Nat.le_trans (List.length_filter_le _ _) (by simp)
    have e6 := lcM (S := S) (c := cfgAt P (n + 1)) (elt := .tup [.var 4, .call "stand_by" [.var 0, .var 1, .var 4]]) (tg := .name 4) (ρ := [some (offD m s rs), some (standD (q, x :: p)), some (.int q), some (.tup (.int x :: p.map .int)), none]) (xs := fitL rs q x)
      (fun d => .tup [d, optD (stepAt rs (toI d) (q, x :: p))]) (fun d hd => by
        obtain ⟨i, hi, rfl⟩ := List.mem_map.mp hd
        have hi2 := List.mem_range.mp (List.mem_filter.mp hi).1
        have hg : rs[i]? = some (rs.getD i .non) := by rw [List.getD_eq_getElem?_getD, List.getElem?_eq_getElem hi2]; rfl
        have g1 := stand_by_eq (S := S) h.by_ hg (ok _ (getD_mem hi2)) (q, x :: p) hl n
        have g2 : leave S.length (.ok (optD (stepR (rs.getD i .non) (q, x :: p))) S) = .ok (optD (stepR (rs.getD i .non) (q, x :: p))) S := leave_same (by
          cases stepR (rs.getD i .non) (q, x :: p) with
          | none => rfl
          | some u => exact standD_pure u)
        rw [List.getD_eq_getElem?_getD] at g1 g2
        exact ⟨_, rfl, by simp [g1, g2, le_size (k := 2) (by decide), toI, stepAt]⟩) (by omega)
    have e7 : (fitL rs q x).map (fun d => D.tup [d, optD (stepAt rs (toI d) (q, x :: p))]) = (stepsF 0 rs (q, x :: p)).map pairD := by
      rw [← fit_steps rs 0 ok, fitL, List.map_map]
      refine List.map_congr_left fun i _ => ?_
      simp [toI, stepAt]
    unfold standD at e6
    unfold offD at e6 ⊢
    simp only [List.map_cons] at e6
    rw [e7] at e6
    simp [F.steps_from, standD, bindT, bindTs, e2, e3, e4, e5, iseqR, wipeE, e6]
theorem steps_eq (h : StepsP P) {m s : Int} {rs : List D} (o : isOfficeB (offD m s rs) = true) (op : (offD m s rs).pure = true) (ok : ∀ r ∈ rs, isRuleB r m s = true) (hr : rs.length ≤ 100000) {t : St} (ht : isStandB m s (standD t) = true) (hl : t.2.length ≤ 200) (n : Nat) :
    callF P (n + 8) "steps" [offD m s rs, standD t] S = .ok (.tup ((stepsF 0 rs t).map pairD)) S := by
  rw [call_fn h.steps (n + 7) rfl]
  have e1 := check_stand_eq (S := S) h.st o op (standD_pure t) (by rw [wt_stand]; omega) n
  rw [if_pos ht] at e1
  have e2 := steps_from_eq (S := S) h ok hr (t := t) (by omega) (n + 5)
  have e3 : leave S.length (.ok (.lst ((stepsF 0 rs t).map pairD)) S) = .ok (.lst ((stepsF 0 rs t).map pairD)) S := leave_same (by rw [pure_lst]; exact pairs_pure _)
  simp [F.steps, e1, e2, e3, p1, listOf]
end DL
set_option Elab.async false
set_option linter.all false
set_option maxRecDepth 100000
set_option maxHeartbeats 4000000
/-! PL26: lambdas kept in a list; looks at stands and runs of any size -/
namespace DL
open PySem
section
variable (c : Cfg) (ρ : Env) (S : Sto)
@[simp] theorem s_calls (li ci wi vi hi : Nat) (bs : List E) (ws : List Str) (vs : List E) (b : List Stm) : evS c (.calls li ci wi vi hi bs ws vs b) ρ S = if li < ρ.length then (match evL c vs (ρ.set li none) S with
    | .ok ds S1 => loopC c ci wi vi hi (evSs c b) bs ws ds (ρ.set li none) S1
    | _ => .bad) else .bad := by simp only [evS] <;> rfl
end
variable {P : Prg} {S : Sto}
theorem hearB_eq (n : Nat) (b : E) (ρ : Env) : hearB (cfgAt P (n + 2)) b ρ S = heardR P.excs (evE (cfgAt P n) b ρ S) := by simp only [hearB, cfg_down2, cfg_excs]
/-- what the loop does with an error that has been heard -/
def wordB (h w v : Nat) : List Stm := [.ifs (.or (.cmp .ne (.call "_law_word_of" [.var h]) (.lst [.var w])) (.cmp .ne (.prim .repr (.val (.var h))) (.prim .repr (.var v)))) [.ret (.cst (.bl false))] []]
theorem ne_words (w : Str) (hw : okP (.lst [.str w]) = true) (S : Sto) : cop .ne (.lst [.str w]) (.lst [.str w]) S = some false := by
  have e : eqD (.lst [.str w]) (.lst [.str w]) = true := by simp [eqD, D.toP, toPL, PyData.eqv, PyData.eqvAll]
  have p : (D.str w).pure = true := rfl
  simp only [cop, eqC, see_lst, pureL_cons, pureL_nil, p, Bool.and_self, if_true, hw, e, Option.map_some, Bool.not_true]
theorem okP_word {w : Str} (h : PyData.strOk w = true) : okP (.lst [.str w]) = true := by
  simp [okP, D.toP, toPL, PyData.canLay0, PyData.canLayAll0, PyData.depth, PyData.depthAll, h]
theorem wordB_ok {y w : Str} {v : D} {bb k : Nat} (hy : y ∈ P.excs) (hs : PyData.strOk w = true) {n : Nat} (hw : callF P (n + 1) "_law_word_of" [.err y v] S = .ok (.lst [.str w]) S) (hv : Ok bb k v) (hbb : bb ≤ 16000000) (hk : k ≤ 60)
    {ρ : Env} {h wi vi : Nat} (e1 : ρ[h]? = some (some (.err y v))) (e2 : ρ[wi]? = some (some (.str w))) (e3 : ρ[vi]? = some (some v)) : evSs (cfgAt P (n + 1)) (wordB h wi vi) ρ S = .next ρ S := by
  have e0 : (1 : Nat) ≤ sizeLine := le_size (by decide)
  have w2 := ne_words w (okP_word hs) S
  have w3 : leave S.length (.ok (.lst [.str w]) S) = .ok (.lst [.str w]) S := leave_same rfl
  have r1 := repr_ok hv hbb hk S
  simp [wordB, e1, e2, e3, hw, w3, e0, w2, valR_err hy, r1, ne_str]
/-- an item of such a list: the lambda's body, the word, the value, the error -/
abbrev CallI := E × Str × D × Str
/-- the slots aside from these are those of ρ0 -/
def Aside (is : List Nat) (ρ0 ρ : Env) : Prop := ρ.length = ρ0.length ∧ ∀ i, i ∉ is → ρ[i]? = ρ0[i]?
theorem Aside.refl (is : List Nat) (ρ : Env) : Aside is ρ ρ := ⟨rfl, fun _ _ => rfl⟩
theorem Aside.set {is : List Nat} {ρ0 ρ : Env} (h : Aside is ρ0 ρ) {i : Nat} (hi : i ∈ is) (o : Option D) : Aside is ρ0 (ρ.set i o) := ⟨by rw [List.length_set]; exact h.1, fun j hj => by
  rw [List.getElem?_set_ne (fun e => hj (by rw [← e]; exact hi))]
  exact h.2 j hj⟩
theorem loopC_all {n ci wi vi hi : Nat} {ρ0 : Env} (h1 : ci < ρ0.length) (h2 : wi < ρ0.length) (h3 : vi < ρ0.length) (h4 : hi < ρ0.length) (d1 : vi ≠ wi) (d2 : hi ≠ wi) (d3 : hi ≠ vi) : ∀ (its : List CallI) (ρ : Env), Aside [ci, wi, vi, hi] ρ0 ρ →
    (∀ it ∈ its, it.2.2.2 ∈ P.excs ∧ PyData.strOk it.2.1 = true ∧ callF P (n + 2) "_law_word_of" [.err it.2.2.2 it.2.2.1] S = .ok (.lst [.str it.2.1]) S ∧ Ok 16000000 60 it.2.2.1 ∧ ∀ ρ, Aside [ci, wi, vi, hi] ρ0 ρ → evE (cfgAt P n) it.1 ρ S = .exc it.2.2.2 it.2.2.1 S) →
    ∃ ρ', loopC (cfgAt P (n + 2)) ci wi vi hi (evSs (cfgAt P (n + 2)) (wordB hi wi vi)) (its.map (·.1)) (its.map (·.2.1)) (its.map (·.2.2.1)) ρ S = .next ρ' S ∧ Aside [ci, wi, vi, hi] ρ0 ρ'
  | [], ρ, ha, _ => ⟨ρ, by simp [loopC], ha⟩
  | it :: its, ρ, ha, h => by
    obtain ⟨a1, a0, a2, a3, a4⟩ := h it (List.mem_cons_self ..)
    have s1 := ((ha.set (i := ci) (by simp) none).set (i := wi) (by simp) (some (.str it.2.1))).set (i := vi) (by simp) (some it.2.2.1)
    have e1 := a4 _ s1
    have s2 := s1.set (i := hi) (by simp) (some (.err it.2.2.2 it.2.2.1))
    have b1 := wordB_ok (S := S) (ρ := ((((ρ.set ci none).set wi (some (.str it.2.1))).set vi (some it.2.2.1)).set hi (some (.err it.2.2.2 it.2.2.1)))) (h := hi) (wi := wi) (vi := vi) a1 a0 a2 a3 (by omega) (by omega)
      (by rw [List.getElem?_set_self (by simp [ha.1]; omega)]) (by rw [List.getElem?_set_ne d2, List.getElem?_set_ne d1, List.getElem?_set_self (by simp [ha.1]; omega)]) (by rw [List.getElem?_set_ne d3, List.getElem?_set_self (by simp [ha.1]; omega)])
    obtain ⟨ρ', f1, f2⟩ := loopC_all h1 h2 h3 h4 d1 d2 d3 its _ s2 fun it' hit => h it' (List.mem_cons_of_mem _ hit)
    refine ⟨ρ', ?_, f2⟩
    have hl : ci < ρ.length := by rw [ha.1]; exact h1
    simp only [List.map_cons, loopC, hl, if_true, hearB_eq, e1, heardR_exc a1, ofRes_ok, fstT, b1, f1]
/-! ### looks at values of any size -/
theorem is_stand_of_eq' (h : StandsP P) {m s : Int} {rs : List D} {v : D} (hv : v.pure = true) (hw : ∀ a xs, v = .tup [a, .tup xs] → xs.length ≤ 1000000) (n : Nat) : callF P (n + 3) "is_stand_of" [offD m s rs, v] S = .ok (.bl (isStandOfB m s v)) S := by
  rw [call_fn h.of_ (n + 2) rfl]
  have e1 := is_tuple_eq (S := S) h.offs.tuple hv 2 2 (n + 1)
  unfold offD
  cases ht : isTupB v 2 2 with
  | false => simp [F.is_stand_of, e1, ht, h.pair, standOf_no ht]
  | true =>
    obtain ⟨a, b, rfl⟩ := isTup2 ht
    simp only [pure_tup, pureL_cons, pureL_nil, Bool.and_eq_true] at hv
    have e2 := is_integer_eq (S := S) h.offs.int h.offs.whole hv.1 0 (m - 1) n
    cases c1 : isIntB a 0 (m - 1) with
    | false =>
      have : isStandOfB m s (.tup [a, b]) = false := by simp only [isStandOfB, c1, Bool.false_and]
      simp [F.is_stand_of, e1, ht, h.pair, e2, c1, this]
    | true =>
      have e3 := isi_tuple hv.2.1 S
      rcases tup_cases b with ⟨xs, rfl⟩ | hn
      rotate_left
      · have : isStandOfB m s (.tup [a, b]) = false := by
          have : pileB s b = false := by cases b <;> first | rfl | cases hn
          simp only [isStandOfB, this, Bool.and_false]
        simp [F.is_stand_of, e1, ht, h.pair, e2, c1, e3, hn, this]
      have hp : ∀ y ∈ xs, y.pure = true := fun y hy => pure_mem (by simpa using hv.2.1) hy
      have hl : xs.length ≤ 1000000 := hw a xs rfl
      simp [F.is_stand_of, e1, ht, h.pair, e2, c1, e3]
      rw [lcM (g := fun y => .bl (isIntB y 0 (s - 1))) (fun y hy => ⟨_, rfl, by simp [is_integer_eq h.offs.int h.offs.whole (hp y hy)]⟩) hl]
      simp
      simp only [isStandOfB, pileB, c1, Bool.true_and]
theorem is_stand_eq' (h : StandsP P) {m s : Int} {rs : List D} (o : isOfficeB (offD m s rs) = true) (op : (offD m s rs).pure = true) {v : D} (hv : v.pure = true) (hw : ∀ a xs, v = .tup [a, .tup xs] → xs.length ≤ 1000000) (n : Nat) : callF P (n + 6) "is_stand" [offD m s rs, v] S = .ok (.bl (isStandB m s v)) S := by
  rw [call_fn h.is_ (n + 5) rfl]
  have e0 := check_office_ok (S := S) h.chk h.offs op o n
  have e1 := is_stand_of_eq' (S := S) (m := m) (s := s) (rs := rs) h hv hw (n + 2)
  cases c1 : isStandOfB m s v with
  | false => simp [F.is_stand, e0, e1, c1, isStandB]
  | true =>
    have : ∃ a xs, v = .tup [a, .tup xs] := by
      unfold isStandOfB at c1
      split at c1
      · rename_i a b
        simp only [Bool.and_eq_true] at c1
        cases b with
        | tup xs => exact ⟨a, xs, rfl⟩
        | _ => cases c1.2
      · cases c1
    obtain ⟨a, xs, rfl⟩ := this
    have k0 : p1 .len (.tup xs) S = .ok (.int (xs.length : Int)) S := by simp [p1]
    simp [F.is_stand, e0, e1, c1, k0, h.pile, isStandB]
    omega
namespace F
def law_is_stand : Fn := { name := "_law_is_stand", names := ["office", "value", "slip"], pars := 2, body := [
    .ifs (.or (.not (.isi (.var 1) "tuple")) (.or (.cmp .ne (.prim .len (.var 1)) (.cst (.int 2))) (.not (.call "_law_is_int" [.idx (.var 1) (.cst (.int 0)), .cst (.int 0), .bin .sub (.idx (.var 0) (.cst (.int 0))) (.cst (.int 1))])))) [.ret (.cst (.bl false))] [],
    .ifs (.or (.not (.isi (.idx (.var 1) (.cst (.int 1))) "tuple")) (.cmp .gt (.prim .len (.idx (.var 1) (.cst (.int 1)))) (.cst (.int 200)))) [.ret (.cst (.bl false))] [],
    .ret (.prim .all (.lc (.call "_law_is_int" [.var 2, .cst (.int 0), .bin .sub (.idx (.var 0) (.cst (.int 1))) (.cst (.int 1))]) (.name 2) [2] (.iseq (.idx (.var 1) (.cst (.int 1)))) []))] }
def law_is_run : Fn := { name := "_law_is_run", names := ["office", "value", "fine", "number"], pars := 2, body := [
    .asg (.name 2) (.and (.isi (.var 1) "tuple") (.cmp .le (.prim .len (.var 1)) (.cst (.int 5000)))),
    .ret (.and (.var 2) (.prim .all (.lc (.call "_law_is_int" [.var 3, .cst (.int 0), .bin .sub (.prim .len (.idx (.var 0) (.cst (.int 2)))) (.cst (.int 1))]) (.name 3) [3] (.iseq (.var 1)) [])))] }
end F
theorem law_is_stand_eq (hf : Has P "_law_is_stand" F.law_is_stand) (hi : Has P "_law_is_int" F.law_is_int) {m s : Int} {rs : List D} {v : D} (hv : v.pure = true) (n : Nat) :
    callF P (n + 2) "_law_is_stand" [offD m s rs, v] S = .ok (.bl (isStandB m s v)) S := by
  rw [call_fn hf (n + 1) rfl]
  have e1 := isi_tuple hv S
  unfold offD
  rcases tup_cases v with ⟨xs, rfl⟩ | hn
  rotate_left
  · have : isStandB m s v = false := by cases v <;> first | rfl | cases hn
    simp [F.law_is_stand, e1, hn, this]
  have k0 : p1 .len (.tup xs) S = .ok (.int (xs.length : Int)) S := by simp [p1]
  by_cases h2 : xs.length = 2
  rotate_left
  · have : isStandB m s (.tup xs) = false := by
      match xs, h2 with
      | [], _ => rfl
      | [_], _ => rfl
      | [_, _], h => exact absurd rfl h
      | _ :: _ :: _ :: _, _ => rfl
    have h3 : ¬ ((xs.length : Int) = 2) := by omega
    simp [F.law_is_stand, e1, k0, h3, this]
  match xs, h2 with
  | [a, b], _ =>
  simp only [pure_tup, pureL_cons, pureL_nil, Bool.and_eq_true] at hv
  have i0 : indexD (.tup [a, b]) (.int 0) S = .ok a S := indexD_tup (i := 0) rfl S
  have i1 : indexD (.tup [a, b]) (.int 1) S = .ok b S := indexD_tup (i := 1) rfl S
  have k0 : p1 .len (.tup [a, b]) S = .ok (.int 2) S := by simp [p1]
  have e2 := law_is_int_eq (S := S) hi hv.1 0 (m - 1) n
  have e3 := isi_tuple hv.2.1 S
  cases c1 : isIntB a 0 (m - 1) with
  | false =>
    have : isStandB m s (.tup [a, b]) = false := by simp only [isStandB, isStandOfB, c1, Bool.false_and]
    simp [F.law_is_stand, e1, k0, i0, e2, c1, this]
  | true =>
    rcases tup_cases b with ⟨ys, rfl⟩ | hn
    rotate_left
    · have : isStandB m s (.tup [a, b]) = false := by
        have : pileB s b = false := by cases b <;> first | rfl | cases hn
        simp only [isStandB, isStandOfB, this, Bool.and_false, Bool.false_and]
      simp [F.law_is_stand, e1, k0, i0, i1, e2, c1, e3, hn, this]
    have k1 : p1 .len (.tup ys) S = .ok (.int (ys.length : Int)) S := by simp [p1]
    by_cases hl : ys.length ≤ 200
    · have hp : ∀ y ∈ ys, y.pure = true := fun y hy => pure_mem (by simpa using hv.2.1) hy
      have h3 : ¬ ((200 : Int) < (ys.length : Int)) := by omega
      have h4 : isStandB m s (.tup [a, .tup ys]) = allB (fun y => isIntB y 0 (s - 1)) ys := by simp [isStandB, isStandOfB, c1, pileB, hl]
      simp [F.law_is_stand, e1, k0, i0, i1, e2, c1, e3, k1, h3, h4]
      rw [lcM (g := fun y => .bl (isIntB y 0 (s - 1))) (fun y hy => ⟨_, rfl, by simp [law_is_int_eq hi (hp y hy)]⟩) (by omega)]
      simp
    · have h3 : (200 : Int) < (ys.length : Int) := by omega
      have h4 : isStandB m s (.tup [a, .tup ys]) = false := by simp [isStandB, hl]
      simp [F.law_is_stand, e1, k0, i0, i1, e2, c1, e3, k1, h3, h4]
theorem law_is_run_eq (hf : Has P "_law_is_run" F.law_is_run) (hi : Has P "_law_is_int" F.law_is_int) {m s : Int} {rs : List D} {v : D} (hv : v.pure = true) (n : Nat) :
    callF P (n + 2) "_law_is_run" [offD m s rs, v] S = .ok (.bl (isRunB rs.length v)) S := by
  rw [call_fn hf (n + 1) rfl]
  have e1 := isi_tuple hv S
  unfold offD
  rcases tup_cases v with ⟨xs, rfl⟩ | hn
  rotate_left
  · have : isRunB rs.length v = false := by cases v <;> first | rfl | cases hn
    simp [F.law_is_run, e1, hn, this]
  have k0 : p1 .len (.tup xs) S = .ok (.int (xs.length : Int)) S := by simp [p1]
  have k1 : p1 .len (.tup rs) S = .ok (.int (rs.length : Int)) S := by simp [p1]
  by_cases hl : xs.length ≤ 5000
  · have hp : ∀ y ∈ xs, y.pure = true := fun y hy => pure_mem (by simpa using hv) hy
    have h3 : ((xs.length : Int) ≤ 5000) := by omega
    have h4 : isRunB rs.length (.tup xs) = allB (fun y => isIntB y 0 ((rs.length : Int) - 1)) xs := by simp [isRunB, hl]
    simp [F.law_is_run, e1, k0, h3, h4]
    rw [lcM (g := fun y => .bl (isIntB y 0 ((rs.length : Int) - 1))) (fun y hy => ⟨_, rfl, by simp [k1, law_is_int_eq hi (hp y hy)]⟩) (by omega)]
    simp
  · have h3 : ¬ ((xs.length : Int) ≤ 5000) := by omega
    have h4 : isRunB rs.length (.tup xs) = false := by simp [isRunB, hl]
    simp [F.law_is_run, e1, k0, h3, h4]
namespace F
def lawB (fx : Str) (most : Int) : Fn := { name := "law", names := ["script", "place"], pars := 1, body := [
    .ret (.prim .all (.lc (.call "_law_right" [.callM "_law_pot" [.var 0, .var 1]]) (.name 1) [1] (.iseq (.call fx [.var 0, .cst (.int most)])) []))] }
end F
theorem keepsB {fx : Str} {nms : List Str} {r1 r2 r3 r4 r5 : Int} {most : Nat} {N K : Nat} (h : Has P "law" (F.lawB fx most)) (hp : Has P fx (F.cellsOf fx nms)) (hnm : nms.length = 2) (hpot : Has P "_law_pot" (F.pot r1 r2 r3 r4 r5)) (hr : PotNums r1 r2 r3 r4 r5) (hm : 1 ≤ most) (hm2 : most ≤ 64) (right : Right P (N + 1) K) : Keeps P (N + 2) := by
  intro ns hns hb
  rw [call_fn h (N + 1) rfl]
  obtain ⟨c, e1, hc⟩ := cells_eq (S := []) hp hnm ns most (by omega) (by omega) hns N
  have e8 : leave 0 (.ok (.lst ((List.range c).map fun k : Nat => D.int (k : Int))) []) = .ok (.lst ((List.range c).map fun k : Nat => D.int (k : Int))) ([] : Sto) := leave_same (S := []) (by
    rw [pure_lst, pureL_eq, List.all_eq_true]
    intro x hx
    obtain ⟨i, _, rfl⟩ := List.mem_map.mp hx
    rfl)
  obtain ⟨ys, S1, e2, g1, _, _⟩ := lcE (S := []) (c := cfgAt P (N + 1)) (elt := .call "_law_right" [.callM "_law_pot" [.var 0, .var 1]]) (tg := .name 1) (ifs := []) (xs := (List.range c).map fun k : Nat => D.int (k : Int))
    (ρ := [some (.scr ns), none]) (fun acc rest T => (∀ y ∈ acc, y = .bl true) ∧ SP T ∧ ∀ x ∈ rest, ∃ i : Nat, x = .int (i : Int) ∧ i < 64)
    ⟨fun y h => (by cases h), fun o h => (by cases h), fun x hx => by
      obtain ⟨i, hi, rfl⟩ := List.mem_map.mp hx
      exact ⟨i, rfl, by have := List.mem_range.mp hi; omega⟩⟩ (fun acc x rest T ⟨g1, hS, h3⟩ => by
      obtain ⟨i, rfl, hi⟩ := h3 x (List.mem_cons_self ..)
      obtain ⟨o, f1, p0, s0⟩ := pot_new (S := T) hpot hr (ns := ns) hS i hi N
      obtain ⟨U, f, q1, q2⟩ := right (T ++ [o]) T.length 0 p0 s0 (by decide)
      refine ⟨_, rfl, .inl ⟨T, .bl true, U, by simp, by simp at f; simp [f1, f], fun y hy => ?_, s0.only q2 q1, fun y hy => h3 y (List.mem_cons_of_mem _ hy)⟩⟩
      rcases List.mem_cons.mp hy with rfl | hy
      · rfl
      · exact g1 y hy) (by simp; omega)
  have k2 : p1 .all (.lst ys.reverse) S1 = .ok (.bl true) S1 := by
    have e : ys.reverse = ys.reverse.map fun _ => D.bl true := by
      conv => lhs; rw [← List.map_id ys.reverse]
      exact List.map_congr_left fun y hy => g1 y (List.mem_reverse.mp hy)
    rw [e]
    have := p1_allB (fun _ => true) ys.reverse S1
    rwa [allB_of (fun _ _ => rfl)] at this
  refine ⟨S1, ?_⟩
  simp [F.lawB, e1, e8, e2, k2]
end DL
set_option Elab.async false
set_option linter.all false
set_option maxRecDepth 100000
set_option maxHeartbeats 4000000
namespace K03
open DL
def f_is_tuple : Fn := { name := "is_tuple", names := ["value", "least", "most"], pars := 3, body := [
    .ret (.and (.isi (.var 0) "tuple") (.chain .le .le (.var 1) (.prim .len (.var 0)) (.var 2)))] }
def f_is_whole : Fn := { name := "is_whole", names := ["value"], pars := 1, body := [
    .ret (.and (.isi (.var 0) "int") (.not (.isi (.var 0) "bool")))] }
def f_is_integer : Fn := { name := "is_integer", names := ["value", "low", "high"], pars := 3, body := [
    .ret (.and (.call "is_whole" [.var 0]) (.chain .le .le (.var 1) (.var 0) (.var 2)))] }
def f_is_rising : Fn := { name := "is_rising", names := ["values", "one", "other"], pars := 1, body := [
    .ret (.prim .all (.lc (.cmp .lt (.var 1) (.var 2)) (.tup [.name 1, .name 2]) [1, 2] (.izip (.var 0) (.sl (.var 0) (.cst (.int 1)) .nil)) []))] }
def f_is_rule : Fn := { name := "is_rule", names := ["value", "moods", "slips", "slip"], pars := 3, body := [
    .ifs (.or (.not (.call "is_tuple" [.var 0, .glb "FOUR", .glb "FOUR"])) (.not (.call "is_integer" [.idx (.var 0) (.cst (.int 0)), .cst (.int 0), .bin .sub (.var 1) (.cst (.int 1))]))) [.ret (.cst (.bl false))] [],
    .ifs (.or (.not (.call "is_integer" [.idx (.var 0) (.cst (.int 1)), .cst (.int 0), .bin .sub (.var 2) (.cst (.int 1))])) (.not (.call "is_integer" [.idx (.var 0) (.cst (.int 2)), .cst (.int 0), .bin .sub (.var 1) (.cst (.int 1))]))) [.ret (.cst (.bl false))] [],
    .ret (.and (.call "is_tuple" [.idx (.var 0) (.glb "TRIPLE"), .cst (.int 0), .glb "MOST_PUT"]) (.prim .all (.lc (.call "is_integer" [.var 3, .cst (.int 0), .bin .sub (.var 2) (.cst (.int 1))]) (.name 3) [3] (.iseq (.idx (.var 0) (.glb "TRIPLE"))) [])))] }
def f_is_office : Fn := { name := "is_office", names := ["value", "moods", "slips", "rules", "rule"], pars := 1, body := [
    .ifs (.or (.not (.call "is_tuple" [.var 0, .glb "TRIPLE", .glb "TRIPLE"])) (.not (.call "is_integer" [.idx (.var 0) (.cst (.int 0)), .cst (.int 1), .glb "MOST_MOODS"]))) [.ret (.cst (.bl false))] [],
    .asg (.tup [.name 1, .name 2, .name 3]) (.var 0),
    .ifs (.or (.not (.call "is_integer" [.var 2, .cst (.int 1), .glb "MOST_SLIPS"])) (.not (.call "is_tuple" [.var 3, .cst (.int 0), .glb "MOST_RULES"]))) [.ret (.cst (.bl false))] [],
    .ret (.and (.prim .all (.lc (.call "is_rule" [.var 4, .var 1, .var 2]) (.name 4) [4] (.iseq (.var 3)) [])) (.call "is_rising" [.var 3]))] }
def f_check_office : Fn := { name := "check_office", names := ["value"], pars := 1, body := [
    .ifs (.not (.call "is_office" [.var 0])) [.raise "BadOffice" (.var 0)] []] }
def f_rules_for : Fn := { name := "rules_for", names := ["office", "mood", "slip", "number", "rule"], pars := 3, body := [
    .ret (.prim .tuple (.lc (.var 3) (.tup [.name 3, .name 4]) [3, 4] (.ienum (.idx (.var 0) (.cst (.int 2)))) [.and (.cmp .eq (.idx (.var 4) (.cst (.int 0))) (.var 1)) (.cmp .eq (.idx (.var 4) (.cst (.int 1))) (.var 2))]))] }
def f_is_stand_of : Fn := { name := "is_stand_of", names := ["office", "value", "slip"], pars := 2, body := [
    .ifs (.or (.not (.call "is_tuple" [.var 1, .glb "PAIR", .glb "PAIR"])) (.not (.call "is_integer" [.idx (.var 1) (.cst (.int 0)), .cst (.int 0), .bin .sub (.idx (.var 0) (.cst (.int 0))) (.cst (.int 1))]))) [.ret (.cst (.bl false))] [],
    .ret (.and (.isi (.idx (.var 1) (.cst (.int 1))) "tuple") (.prim .all (.lc (.call "is_integer" [.var 2, .cst (.int 0), .bin .sub (.idx (.var 0) (.cst (.int 1))) (.cst (.int 1))]) (.name 2) [2] (.iseq (.idx (.var 1) (.cst (.int 1)))) [])))] }
def f_is_stand : Fn := { name := "is_stand", names := ["office", "value"], pars := 2, body := [
    .expr (.call "check_office" [.var 0]),
    .ret (.and (.call "is_stand_of" [.var 0, .var 1]) (.cmp .le (.prim .len (.idx (.var 1) (.cst (.int 1)))) (.glb "MOST_PILE")))] }
def f_check_stand : Fn := { name := "check_stand", names := ["office", "value"], pars := 2, body := [
    .ifs (.not (.call "is_stand" [.var 0, .var 1])) [.raise "BadStand" (.var 1)] []] }
def f_is_run_of : Fn := { name := "is_run_of", names := ["office", "value", "number"], pars := 2, body := [
    .ret (.and (.isi (.var 1) "tuple") (.prim .all (.lc (.call "is_integer" [.var 2, .cst (.int 0), .bin .sub (.prim .len (.idx (.var 0) (.cst (.int 2)))) (.cst (.int 1))]) (.name 2) [2] (.iseq (.var 1)) [])))] }
def f_is_run : Fn := { name := "is_run", names := ["office", "value"], pars := 2, body := [
    .expr (.call "check_office" [.var 0]),
    .ret (.and (.call "is_run_of" [.var 0, .var 1]) (.cmp .le (.prim .len (.var 1)) (.glb "MOST_RUN")))] }
def f_stand_by : Fn := { name := "stand_by", names := ["office", "stand", "number", "mood", "pile", "before", "slip", "after", "put"], pars := 3, body := [
    .asg (.tup [.name 3, .name 4]) (.var 1),
    .asg (.tup [.name 5, .name 6, .name 7, .name 8]) (.idx (.idx (.var 0) (.cst (.int 2))) (.var 2)),
    .ifs (.or (.cmp .eq (.var 4) (.tup [])) (.or (.cmp .ne (.var 5) (.var 3)) (.cmp .ne (.var 6) (.idx (.var 4) (.cst (.int 0)))))) [.ret (.cst .non)] [],
    .ret (.tup [.var 7, .tup [.star (.var 8), .star (.sl (.var 4) (.cst (.int 1)) .nil)]])] }
def f_steps_from : Fn := { name := "steps_from", names := ["office", "stand", "mood", "pile", "number"], pars := 2, body := [
    .asg (.tup [.name 2, .name 3]) (.var 1),
    .ifs (.cmp .eq (.var 3) (.tup [])) [.ret (.lst [])] [],
    .ret (.lc (.tup [.var 4, .call "stand_by" [.var 0, .var 1, .var 4]]) (.name 4) [4] (.iseq (.call "rules_for" [.var 0, .var 2, .idx (.var 3) (.cst (.int 0))])) [])] }
def f_steps : Fn := { name := "steps", names := ["office", "stand"], pars := 2, body := [
    .expr (.call "check_stand" [.var 0, .var 1]),
    .ret (.prim .tuple (.call "steps_from" [.var 0, .var 1]))] }
def f_place_of : Fn := { name := "place_of", names := ["stand"], pars := 1, body := [
    .ret (.tup [.prim .len (.idx (.var 0) (.cst (.int 1))), .idx (.var 0) (.cst (.int 0)), .idx (.var 0) (.cst (.int 1))])] }
def f_near : Fn := { name := "near", names := ["office", "stand", "most", "found", "level", "lap", "later", "one", "number", "new", "many"], pars := 3, body := [
    .expr (.call "check_stand" [.var 0, .var 1]),
    .ifs (.not (.call "is_integer" [.var 2, .cst (.int 0), .glb "MOST_STEPS"])) [.raise "BadNumber" (.var 2)] [],
    .any,
    .for (.name 5) (.irange1 (.var 2)) [.asg (.name 6) (.thaw (.lst [])), .for (.name 7) (.iseq (.var 4)) [.for (.tup [.name 8, .name 9]) (.iseq (.call "steps_from" [.var 0, .var 7])) [.ifs (.cmp .notIn (.var 9) (.var 3)) [.seti (.var 3) (.var 9) (.bin .add (.var 5) (.cst (.int 1))), .app (.var 6) (.var 9)] []]], .asg (.name 4) (.var 6), .ifs (.cmp .gt (.prim .len (.var 3)) (.glb "MOST_NEAR")) [.raise "TooMany" (.glb "MOST_NEAR")] []],
    .any] }
def f_near_place : Fn := { name := "near_place", names := ["pair"], pars := 1, body := [
    .ret (.tup [.idx (.var 0) (.cst (.int 0)), .call "place_of" [.idx (.var 0) (.cst (.int 1))]])] }
def l_law_pot : Fn := { name := "_law_pot", names := ["script", "place", "cell", "own", "small"], pars := 2, body := [
    .asg (.name 2) (.ite (.cmp .lt (.var 1) (.prim .len (.var 0))) (.idx (.var 0) (.var 1)) (.bin .add (.bin .add (.bin .mod (.prim .sum (.sl (.var 0) .nil (.cst (.int 1)))) (.cst (.int 1000003))) (.bin .mul (.cst (.int 7112)) (.var 1))) (.cst (.int 5883)))),
    .asg (.name 3) (.bin .mul (.bin .mod (.prim .int (.prim .abs (.var 2))) (.bin .pow (.bin .pow (.cst (.int 10)) (.cst (.int 60))) (.cst (.int 5)))) (.prim .int (.cmp .ge (.prim .abs (.var 2)) (.bin .pow (.cst (.int 10)) (.cst (.int 18)))))),
    .asg (.name 4) (.bin .mod (.prim .int (.var 2)) (.cst (.int 2305843009213693951))),
    .ret (.thaw (.lst [.var 3, .bin .mod (.prim .int (.bin .add (.bin .add (.bin .mul (.var 4) (.cst (.int 103844))) (.bin .mul (.bin .mul (.cst (.int 8674)) (.var 1)) (.var 1))) (.cst (.int 122)))) (.cst (.int 2305843009213693921)), .cst (.int 0)]))] }
def l_law_take : Fn := { name := "_law_take", names := ["pot", "upto", "digit", "prime", "blend"], pars := 2, body := [
    .ifs (.cmp .gt (.idx (.var 0) (.cst (.int 0))) (.cst (.int 0))) [.asg (.name 2) (.bin .mod (.prim .int (.idx (.var 0) (.cst (.int 0)))) (.var 1)), .seti (.var 0) (.cst (.int 0)) (.bin .fdiv (.idx (.var 0) (.cst (.int 0))) (.var 1)), .ret (.var 2)] [],
    .seti (.var 0) (.cst (.int 2)) (.bin .add (.idx (.var 0) (.cst (.int 2))) (.cst (.int 1))),
    .asg (.name 3) (.idx (.lst [.cst (.int 2147483647), .cst (.int 2147483629), .cst (.int 2147483587), .cst (.int 2147483579), .cst (.int 2147483563)]) (.bin .mod (.prim .int (.idx (.var 0) (.cst (.int 2)))) (.cst (.int 5)))),
    .asg (.name 4) (.bin .mod (.prim .int (.bin .pow (.prim .int (.bin .add (.bin .add (.idx (.var 0) (.cst (.int 1))) (.bin .mul (.bin .mul (.cst (.int 98306)) (.idx (.var 0) (.cst (.int 2)))) (.idx (.var 0) (.cst (.int 2))))) (.cst (.int 56)))) (.cst (.int 3)))) (.var 3)),
    .asg (.name 4) (.bin .mod (.prim .int (.bin .mul (.var 4) (.bin .add (.bin .mod (.prim .int (.var 4)) (.cst (.int 10013))) (.bin .mul (.cst (.int 106)) (.idx (.var 0) (.cst (.int 2))))))) (.cst (.int 2305843009213693907))),
    .ret (.bin .mod (.prim .int (.bin .fdiv (.var 4) (.cst (.int 133)))) (.var 1))] }
def l_law_of : Fn := { name := "_law_of", names := ["pot", "some"], pars := 2, body := [
    .ret (.idx (.var 1) (.call "_law_take" [.var 0, .prim .len (.var 1)]))] }
def l_law_cells : Fn := { name := "_law_cells", names := ["script", "limit"], pars := 2, body := [
    .ret (.rgs false (.irange1 (.max2 (.cst (.int 1)) (.min2 (.var 1) (.prim .len (.var 0))))))] }
def l_law_odd : Fn := { name := "_law_odd", names := ["pot", "some"], pars := 1, body := [
    .asg (.name 1) (.lst [.cst .non, .cst (.bl true), .cst (.bl false), .cst (.int 0), .cst (.int 1), .neg (.cst (.int 1)), .cst (.int 2), .cst (.int 201), .cst (.str ""), .cst (.str "a"), .cst (.str "office"), .cst (.str "never"), .tup [], .lst [], .tup [.cst (.int 0)], .tup [.tup []], .lst [.cst (.int 1)], .tup [.cst (.bl true)]]),
    .asg (.name 1) (.bin .add (.var 1) (.lst [.tup [.cst (.str "a")], .tup [.cst (.int 0), .tup []], .tup [.cst (.int 7)], .tup [.cst (.int 0), .lst [.cst (.int 0)]], .tup [.cst (.int 1), .cst (.int 1), .tup []], .tup [.cst (.int 1), .tup [], .tup [.cst (.int 0)]], .tup [.cst .non, .tup []], .cst (.str "office 1 1"), .bin .pow (.cst (.int 10)) (.cst (.int 20))])),
    .ret (.call "_law_of" [.var 0, .var 1])] }
def l_law_is_int : Fn := { name := "_law_is_int", names := ["value", "low", "high"], pars := 3, body := [
    .ret (.and (.isi (.var 0) "int") (.and (.not (.isi (.var 0) "bool")) (.chain .le .le (.var 1) (.var 0) (.var 2))))] }
def l_law_bent : Fn := { name := "_law_bent", names := ["pot", "value", "at", "some"], pars := 2, body := [
    .ifs (.and (.isi (.var 1) "tuple") (.and (.cmp .ne (.var 1) (.tup [])) (.cmp .gt (.call "_law_take" [.var 0, .cst (.int 5)]) (.cst (.int 0))))) [.asg (.name 2) (.call "_law_take" [.var 0, .prim .len (.var 1)]), .ret (.bin .add (.bin .add (.sl (.var 1) .nil (.var 2)) (.tup [.call "_law_bent" [.var 0, .idx (.var 1) (.var 2)]])) (.sl (.var 1) (.bin .add (.var 2) (.cst (.int 1))) .nil))] [],
    .ifs (.isi (.var 1) "tuple") [.ret (.call "_law_of" [.var 0, .lst [.prim .list (.var 1), .sl (.var 1) (.cst (.int 1)) .nil, .sl (.var 1) .nil (.neg (.cst (.int 1))), .bin .add (.var 1) (.sl (.var 1) (.neg (.cst (.int 1))) .nil), .rev (.var 1), .tup [], .cst .non]])] [],
    .ifs (.isi (.var 1) "bool") [.ret (.call "_law_of" [.var 0, .lst [.not (.var 1), .prim .int (.var 1), .cst .non]])] [],
    .ifs (.isi (.var 1) "int") [.ret (.call "_law_of" [.var 0, .lst [.bin .add (.var 1) (.cst (.int 1)), .bin .sub (.var 1) (.cst (.int 1)), .neg (.var 1), .prim .str (.var 1), .cst .non, .cmp .eq (.var 1) (.cst (.int 1)), .tup [.var 1]]])] [],
    .ifs (.isi (.var 1) "str") [.asg (.name 3) (.lst [.bin .add (.var 1) (.cst (.str "a")), .sl (.var 1) .nil (.neg (.cst (.int 1))), .upper (.var 1), .lst [.var 1], .cst (.str "a"), .cst .non, .cst (.int 0), .cst (.str ""), .bin .add (.cst (.str "b")) (.var 1), .bin .add (.var 1) (.cst (.str "/"))]), .ret (.call "_law_of" [.var 0, .var 3])] [],
    .ret (.call "_law_odd" [.var 0])] }
def l_law_office : Fn := { name := "_law_office", names := ["pot", "moods", "slips", "rules", "many", "kinds", "found", "lap", "put", "turn"], pars := 4, body := [
    .asg (.tup [.name 4, .name 5, .name 6]) (.tup [.bin .add (.cst (.int 1)) (.call "_law_take" [.var 0, .var 1]), .bin .add (.cst (.int 1)) (.call "_law_take" [.var 0, .var 2]), .thaw (.lst [])]),
    .for (.name 7) (.irange1 (.call "_law_take" [.var 0, .bin .add (.var 3) (.cst (.int 1))])) [.asg (.name 8) (.prim .tuple (.lc (.call "_law_take" [.var 0, .var 5]) (.name 9) [9] (.irange1 (.call "_law_of" [.var 0, .lst [.cst (.int 0), .cst (.int 0), .cst (.int 1), .cst (.int 1), .cst (.int 2), .cst (.int 2)]])) [])), .app (.var 6) (.tup [.call "_law_take" [.var 0, .var 4], .call "_law_take" [.var 0, .var 5], .call "_law_take" [.var 0, .var 4], .var 8])],
    .ret (.tup [.var 4, .var 5, .prim .tuple (.prim .sorted (.prim .set (.var 6)))])] }
def l_law_stand : Fn := { name := "_law_stand", names := ["pot", "office", "most", "pile", "lap"], pars := 3, body := [
    .asg (.name 3) (.prim .tuple (.lc (.call "_law_take" [.var 0, .idx (.var 1) (.cst (.int 1))]) (.name 4) [4] (.irange1 (.call "_law_take" [.var 0, .bin .add (.var 2) (.cst (.int 1))])) [])),
    .ret (.tup [.call "_law_take" [.var 0, .idx (.var 1) (.cst (.int 0))], .var 3])] }
def l_law_steps : Fn := { name := "_law_steps", names := ["office", "stand", "found", "number", "rule"], pars := 2, body := [
    .asg (.name 2) (.thaw (.lst [])),
    .for (.tup [.name 3, .name 4]) (.ienum (.idx (.var 0) (.cst (.int 2)))) [.ifs (.and (.cmp .ne (.idx (.var 1) (.cst (.int 1))) (.tup [])) (.and (.cmp .eq (.idx (.var 4) (.cst (.int 0))) (.idx (.var 1) (.cst (.int 0)))) (.cmp .eq (.idx (.var 4) (.cst (.int 1))) (.idx (.idx (.var 1) (.cst (.int 1))) (.cst (.int 0)))))) [.app (.var 2) (.tup [.var 3, .tup [.idx (.var 4) (.cst (.int 2)), .bin .add (.idx (.var 4) (.cst (.int 3))) (.sl (.idx (.var 1) (.cst (.int 1))) (.cst (.int 1)) .nil)]])] []],
    .ret (.var 2)] }
def l_law_run : Fn := { name := "_law_run", names := ["pot", "office", "stand", "most", "found", "lap", "some", "number"], pars := 4, body := [
    .asg (.name 4) (.thaw (.lst [])),
    .for (.name 5) (.irange1 (.call "_law_take" [.var 0, .bin .add (.var 3) (.cst (.int 1))])) [.asg (.name 6) (.call "_law_steps" [.var 1, .var 2]), .ifs (.cmp .ne (.var 6) (.lst [])) [.asg (.tup [.name 7, .name 2]) (.call "_law_of" [.var 0, .var 6]), .app (.var 4) (.var 7)] []],
    .ret (.prim .tuple (.var 4))] }
def l_law_is_stand : Fn := { name := "_law_is_stand", names := ["office", "value", "slip"], pars := 2, body := [
    .ifs (.or (.not (.isi (.var 1) "tuple")) (.or (.cmp .ne (.prim .len (.var 1)) (.cst (.int 2))) (.not (.call "_law_is_int" [.idx (.var 1) (.cst (.int 0)), .cst (.int 0), .bin .sub (.idx (.var 0) (.cst (.int 0))) (.cst (.int 1))])))) [.ret (.cst (.bl false))] [],
    .ifs (.or (.not (.isi (.idx (.var 1) (.cst (.int 1))) "tuple")) (.cmp .gt (.prim .len (.idx (.var 1) (.cst (.int 1)))) (.cst (.int 200)))) [.ret (.cst (.bl false))] [],
    .ret (.prim .all (.lc (.call "_law_is_int" [.var 2, .cst (.int 0), .bin .sub (.idx (.var 0) (.cst (.int 1))) (.cst (.int 1))]) (.name 2) [2] (.iseq (.idx (.var 1) (.cst (.int 1)))) []))] }
def l_law_is_run : Fn := { name := "_law_is_run", names := ["office", "value", "fine", "number"], pars := 2, body := [
    .asg (.name 2) (.and (.isi (.var 1) "tuple") (.cmp .le (.prim .len (.var 1)) (.cst (.int 5000)))),
    .ret (.and (.var 2) (.prim .all (.lc (.call "_law_is_int" [.var 3, .cst (.int 0), .bin .sub (.prim .len (.idx (.var 0) (.cst (.int 2)))) (.cst (.int 1))]) (.name 3) [3] (.iseq (.var 1)) [])))] }
def l_law_is_judged : Fn := { name := "_law_is_judged", names := ["office", "value", "before", "told"], pars := 2, body := [
    .asg (.name 2) (.prim .repr (.var 1)),
    .asg (.name 3) (.tup [.call "is_stand" [.var 0, .var 1], .call "is_run" [.var 0, .var 1]]),
    .ret (.and (.cmp .eq (.prim .repr (.var 3)) (.prim .repr (.tup [.call "_law_is_stand" [.var 0, .var 1], .call "_law_is_run" [.var 0, .var 1]]))) (.cmp .eq (.prim .repr (.var 1)) (.var 2)))] }
def l_law_word_of : Fn := { name := "_law_word_of", names := ["caught", "kinds", "is_kind", "word"], pars := 1, body := [
    .asg (.name 1) (.lst [.tup [.isx (.var 0) "BadOffice", .cst (.str "office")], .tup [.isx (.var 0) "BadStand", .cst (.str "stand")]]),
    .ret (.lc (.var 3) (.tup [.name 2, .name 3]) [2, 3] (.iseq (.var 1)) [.var 2])] }
def l_law_are_refused : Fn := { name := "_law_are_refused", names := ["pot", "office", "odd", "bad", "calls", "call", "word", "value", "caught"], pars := 2, body := [
    .asg (.tup [.name 2, .name 3]) (.tup [.call "_law_of" [.var 0, .lst [.cst .non, .cst (.int 7), .tup [.cst (.int 0), .cst (.int 1), .tup []], .lst [.var 1]]], .call "_law_of" [.var 0, .lst [.cst .non, .cst (.int 0), .tup [.idx (.var 1) (.cst (.int 0)), .tup []], .tup [.cst (.int 0), .lst [.cst (.int 0)]], .tup [.cst (.int 0), .tup [.idx (.var 1) (.cst (.int 1))]]]]]),
    .calls 4 5 6 7 8 [.call "steps" [.var 2, .var 3], .call "is_stand" [.var 2, .var 3], .call "is_run" [.var 2, .var 3], .call "near" [.var 2, .var 3, .var 3], .call "steps" [.var 1, .var 3], .call "near" [.var 1, .var 3, .var 3], .call "steps" [.var 1, .tup [.cst (.int 0), .bin .mul (.tup [.cst (.int 0)]) (.cst (.int 201))]]] ["office", "office", "office", "office", "stand", "stand", "stand"] [.var 2, .var 2, .var 2, .var 2, .var 3, .var 3, .tup [.cst (.int 0), .bin .mul (.tup [.cst (.int 0)]) (.cst (.int 201))]] [.ifs (.or (.cmp .ne (.call "_law_word_of" [.var 8]) (.lst [.var 6])) (.cmp .ne (.prim .repr (.val (.var 8))) (.prim .repr (.var 7)))) [.ret (.cst (.bl false))] []],
    .ret (.cst (.bl true))] }
def l_law_right : Fn := { name := "_law_right", names := ["pot", "office", "some", "stand", "run", "values", "lap", "value"], pars := 1, body := [
    .asg (.name 1) (.call "_law_office" [.var 0, .cst (.int 5), .cst (.int 6), .cst (.int 30)]),
    .asg (.name 2) (.bin .add (.lc (.call "_law_stand" [.var 0, .var 1, .cst (.int 8)]) (.name 6) [6] (.irange1 (.cst (.int 10))) []) (.lst [.tup [.cst (.int 0), .tup []], .tup [.cst (.int 0), .bin .mul (.tup [.cst (.int 0)]) (.cst (.int 200))]])),
    .for (.name 3) (.iseq (.var 2)) [.ifs (.cmp .ne (.prim .repr (.call "steps" [.var 1, .var 3])) (.prim .repr (.prim .tuple (.call "_law_steps" [.var 1, .var 3])))) [.ret (.cst (.bl false))] []],
    .asg (.name 4) (.call "_law_run" [.var 0, .var 1, .idx (.var 2) (.cst (.int 0)), .cst (.int 20)]),
    .asg (.name 5) (.lst [.var 4, .prim .list (.var 4), .bin .add (.var 4) (.tup [.prim .len (.idx (.var 1) (.cst (.int 2)))]), .bin .add (.var 4) (.tup [.neg (.cst (.int 1))]), .bin .mul (.tup [.cst (.int 0)]) (.cst (.int 5000)), .bin .mul (.tup [.cst (.int 0)]) (.cst (.int 5001)), .tup [.cst (.int 0), .bin .mul (.tup [.cst (.int 0)]) (.cst (.int 201))], .call "_law_odd" [.var 0]]),
    .asg (.name 5) (.bin .add (.bin .add (.bin .add (.var 5) (.sl (.var 2) .nil (.cst (.int 3)))) (.lc (.call "_law_bent" [.var 0, .call "_law_of" [.var 0, .sl (.var 2) .nil (.cst (.int 10))]]) (.name 6) [6] (.irange1 (.cst (.int 10))) [])) (.lst [.call "_law_bent" [.var 0, .var 4]])),
    .ret (.and (.prim .all (.lc (.call "_law_is_judged" [.var 1, .var 7]) (.name 7) [7] (.iseq (.var 5)) [])) (.call "_law_are_refused" [.var 0, .var 1]))] }
def f_law : Fn := { name := "law", names := ["script", "place"], pars := 1, body := [
    .ret (.prim .all (.lc (.call "_law_right" [.callM "_law_pot" [.var 0, .var 1]]) (.name 1) [1] (.iseq (.call "_law_cells" [.var 0, .cst (.int 3)])) []))] }
def glbL : List (PySem.Str × D) := [("MOST_MOODS", .int 5), ("MOST_SLIPS", .int 6), ("MOST_RULES", .int 60), ("MOST_PUT", .int 2), ("TRIPLE", .int 3), ("FOUR", .int 4), ("MOST_PILE", .int 200), ("MOST_RUN", .int 5000), ("MOST_STEPS", .int 60), ("MOST_NEAR", .int 2000), ("PAIR", .int 2)]
def glb (x : PySem.Str) : Option D := glbL.lookup x
def prg : Prg := { fns := [f_is_tuple, f_is_whole, f_is_integer, f_is_rising, f_is_rule, f_is_office, f_check_office, f_rules_for, f_is_stand_of, f_is_stand, f_check_stand, f_is_run_of, f_is_run, f_stand_by, f_steps_from, f_steps, f_place_of, f_near, f_near_place, l_law_pot, l_law_take, l_law_of, l_law_cells, l_law_odd, l_law_is_int, l_law_bent, l_law_office, l_law_stand, l_law_steps, l_law_run, l_law_is_stand, l_law_is_run, l_law_is_judged, l_law_word_of, l_law_are_refused, l_law_right, f_law], glb := glb, excs := ["BadOffice", "BadStand", "BadNumber", "TooMany"], fuel := 100000, heard := true }
end K03
set_option Elab.async false
set_option linter.all false
set_option maxRecDepth 100000
set_option maxHeartbeats 4000000
/-! K03L: the plain law k03 -/
namespace K03
open PySem DL
theorem has_of {P : Prg} {x : Str} {f : Fn} (h : P.fns.find? (fun g => g.name == x) = some f) : Has P x f := h
theorem draws : Draws prg := ⟨⟨98306, 56, 10013, 106, 133, has_of (by kernel_rfl), by unfold TakeOk; decide⟩, has_of (by kernel_rfl)⟩
theorem offs : Offices prg := ⟨has_of (by kernel_rfl), has_of (by kernel_rfl), has_of (by kernel_rfl), has_of (by kernel_rfl), has_of (by kernel_rfl), has_of (by kernel_rfl), by kernel_rfl, by kernel_rfl, by kernel_rfl, by kernel_rfl, by kernel_rfl, by kernel_rfl⟩
theorem stP : StandsP prg := ⟨offs, has_of (by kernel_rfl), has_of (by kernel_rfl), has_of (by kernel_rfl), has_of (by kernel_rfl), by kernel_rfl, by kernel_rfl⟩
theorem steP : StepsP prg := ⟨stP, has_of (by kernel_rfl), has_of (by kernel_rfl), has_of (by kernel_rfl), has_of (by kernel_rfl)⟩
theorem h_is_run_of : Has prg "is_run_of" F.is_run_of := has_of (by kernel_rfl)
theorem h_is_run : Has prg "is_run" F.is_run := has_of (by kernel_rfl)
theorem g_run : prg.glb "MOST_RUN" = some (.int 5000) := by kernel_rfl
theorem h_near : Has prg "near" f_near := has_of (by kernel_rfl)
theorem h_pot : Has prg "_law_pot" (F.pot 7112 5883 103844 8674 122) := has_of (by kernel_rfl)
theorem h_office : Has prg "_law_office" F.law_office := has_of (by kernel_rfl)
theorem h_stand : Has prg "_law_stand" F.law_stand := has_of (by kernel_rfl)
theorem h_steps : Has prg "_law_steps" F.law_steps := has_of (by kernel_rfl)
theorem h_run : Has prg "_law_run" F.law_run := has_of (by kernel_rfl)
theorem h_odd : Has prg "_law_odd" F.odd := has_of (by kernel_rfl)
theorem h_bent : Has prg "_law_bent" F.law_bent := has_of (by kernel_rfl)
theorem h_isint : Has prg "_law_is_int" F.law_is_int := has_of (by kernel_rfl)
theorem h_lstand : Has prg "_law_is_stand" F.law_is_stand := has_of (by kernel_rfl)
theorem h_lrun : Has prg "_law_is_run" F.law_is_run := has_of (by kernel_rfl)
theorem h_judged : Has prg "_law_is_judged" l_law_is_judged := has_of (by kernel_rfl)
theorem h_word : Has prg "_law_word_of" l_law_word_of := has_of (by kernel_rfl)
theorem h_cells : Has prg "_law_cells" F.cells := has_of (by kernel_rfl)
theorem h_law : Has prg "law" f_law := has_of (by kernel_rfl)
variable {S : Sto}
/-! ### words -/
def fstB : D → Bool
  | .tup [.bl b, _] => b
  | _ => false
def sndD : D → D
  | .tup [_, d] => d
  | _ => .non
def kindL (y : Str) : List D := [.tup [.bl (decide (y = "BadOffice")), .str "office"], .tup [.bl (decide (y = "BadStand")), .str "stand"]]
theorem word_of_eq {y : Str} (hy : y ∈ prg.excs) (d : D) (n : Nat) : callF prg (n + 1) "_law_word_of" [.err y d] S = .ok (.lst (((kindL y).filter fstB).map sndD)) S := by
  rw [call_fn h_word n rfl]
  have e0 : (1 : Nat) ≤ sizeLine := le_size (by decide)
  have e1 : (2 : Nat) ≤ sizeLine := le_size (by decide)
  have lc := lcF (S := S) (c := cfgAt prg n) (elt := .var 3) (e := .var 2) (tg := .tup [.name 2, .name 3]) (ρ := [some (.err y d), some (.lst (kindL y)), none, none]) (xs := kindL y) (q := fstB) (g := sndD) (fun x hx => by
    simp only [kindL, List.mem_cons, List.not_mem_nil, or_false] at hx
    rcases hx with rfl | rfl <;> exact ⟨_, rfl, by simp [fstB], fun _ => by simp [sndD]⟩) (by simp [kindL])
  unfold kindL at lc ⊢
  simp [l_law_word_of, isxR_err hy, e0, e1, bindT, iseqR, wipeE, lc]
theorem words : ∀ p ∈ [(("BadOffice" : Str), ("office" : Str)), ("BadStand", "stand")], ((kindL p.1).filter fstB).map sndD = [.str p.2] := by
  intro p hp
  simp only [List.mem_cons, List.not_mem_nil, or_false] at hp
  rcases hp with rfl | rfl <;> rfl
theorem exc_in : ("BadOffice" : Str) ∈ prg.excs ∧ ("BadStand" : Str) ∈ prg.excs := by decide
/-! ### what is refused -/
theorem steps_off {u v : D} (hu : u.pure = true) (e : isOfficeB u = false) (n : Nat) : callF prg (n + 8) "steps" [u, v] S = .exc "BadOffice" u S := by
  rw [call_fn steP.steps (n + 7) rfl]
  have e0 := check_stand_off (S := S) (v := v) stP hu e n
  simp [F.steps, e0]
theorem steps_bad {m s : Int} {rs : List D} (o : isOfficeB (offD m s rs) = true) (op : (offD m s rs).pure = true) {v : D} (hv : v.pure = true) (hw : v.wt ≤ 16000000 / 8) (e : isStandB m s v = false) (n : Nat) : callF prg (n + 8) "steps" [offD m s rs, v] S = .exc "BadStand" v S := by
  rw [call_fn steP.steps (n + 7) rfl]
  have e0 := check_stand_eq (S := S) stP o op hv hw n
  simp [F.steps, e0, e]
theorem near_off {u v w : D} (hu : u.pure = true) (e : isOfficeB u = false) (n : Nat) : callF prg (n + 8) "near" [u, v, w] S = .exc "BadOffice" u S := by
  rw [call_fn h_near (n + 7) rfl]
  have e0 := check_stand_off (S := S) (v := v) stP hu e n
  simp only [f_near, q_cons]
  simp [e0]
theorem near_bad {m s : Int} {rs : List D} (o : isOfficeB (offD m s rs) = true) (op : (offD m s rs).pure = true) {v w : D} (hv : v.pure = true) (hw : v.wt ≤ 16000000 / 8) (e : isStandB m s v = false) (n : Nat) : callF prg (n + 8) "near" [offD m s rs, v, w] S = .exc "BadStand" v S := by
  rw [call_fn h_near (n + 7) rfl]
  have e0 := check_stand_eq (S := S) stP o op hv hw n
  simp only [f_near, q_cons]
  simp [e0, e]
theorem run_off {u v : D} (hu : u.pure = true) (e : isOfficeB u = false) (n : Nat) : callF prg (n + 6) "is_run" [u, v] S = .exc "BadOffice" u S := by
  rw [call_fn h_is_run (n + 5) rfl]
  have e0 := check_office_no (S := S) stP hu e n
  simp [F.is_run, e0]
theorem mul_rep {m : Nat} (h1 : 1 ≤ m) (h2 : m ≤ 10000) (x : D) (S : Sto) : bop .mul (.tup [x]) (.int (m : Int)) S = .ok (.tup (List.replicate m x)) S := by
  have e : repOkT 1 (m : Int) = true := by simp [repOkT]; omega
  have f : (List.replicate m [x]).flatten = List.replicate m x := by
    clear e h1 h2
    induction m with
    | zero => rfl
    | succ m ih => rw [List.replicate_succ, List.flatten_cons, ih, List.replicate_succ]; rfl
  simp [bop, bopMul, e, f]
/-- so many noughts -/
def zer (n : Nat) : List D := (List.replicate n (0 : Int)).map .int
theorem zer_eq (n : Nat) : List.replicate n (D.int 0) = zer n := (List.map_replicate ..).symm
theorem mul_zer {n : Nat} (h1 : 1 ≤ n) (h2 : n ≤ 10000) (S : Sto) : bop .mul (.tup [.int 0]) (.int (n : Int)) S = .ok (.tup (zer n)) S := by rw [← zer_eq]; exact mul_rep h1 h2 _ S
theorem zer_len (n : Nat) : (zer n).length = n := by simp [zer]
theorem zer_pure (n : Nat) : pureL (zer n) = true := ints_pure _
theorem zer_wt (n : Nat) : wtL (zer n) = 1923 * n := by rw [zer, wtL_ints, List.length_replicate]
theorem zer_base (n : Nat) : ∀ x ∈ zer n, Base 0 x := fun x hx => by
  obtain ⟨i, hi, rfl⟩ := List.mem_map.mp hx
  rw [List.eq_of_mem_replicate hi]
  exact base_int (by rw [pow_1000]; have := one_1000; omega)
theorem zer_ok (n : Nat) (h : n ≤ 8000) : Ok 15400000 1 (.tup (zer n)) := ok_tup (k := 0) (zer_base n) (by rw [zer_wt]; omega)
def far201 : D := .tup [.int 0, .tup (zer 201)]
theorem far_ok : Ok 500000 2 far201 := by
  refine ok_tup (k := 1) (fun x hx => ?_) (by simp only [wtL, D.wt, zer_wt]; omega)
  simp only [List.mem_cons, List.not_mem_nil, or_false] at hx
  rcases hx with rfl | rfl
  · exact (zer_base 1 _ (by simp [zer])).mono (by omega)
  · exact (zer_ok 201 (by omega)).base
theorem far_no (m s : Int) : isStandB m s far201 = false := by
  simp [far201, isStandB, zer_len]
def oddL4 (off : D) : List D := [.non, .int 7, .tup [.int 0, .int 1, .tup []], .lst [off]]
def badL2 (m s : Int) : List D := [.non, .int 0, .tup [.int m, .tup []], .tup [.int 0, .lst [.int 0]], .tup [.int 0, .tup [.int s]]]
theorem oddL4_ok {m s : Int} {rs : List D} (o : OffOk m s rs) : ∀ d ∈ oddL4 (offD m s rs), Ok 800000 8 d ∧ isOfficeB d = false := by
  intro d hd
  simp only [oddL4, List.mem_cons, List.not_mem_nil, or_false] at hd
  rcases hd with rfl | rfl | rfl | rfl
  · exact ⟨(ok_non 1921 1 (by omega) (by omega)).mono (by omega) (by omega), rfl⟩
  · exact ⟨(ok_of (b := 2000) (k := 1) (by decide +kernel)).mono (by omega) (by omega), rfl⟩
  · exact ⟨(ok_of (b := 10000) (k := 8) (by decide +kernel)).mono (by omega) (by omega), by decide +kernel⟩
  · exact ⟨(ok_lst (k := 4) (b := 800000) (fun x hx => by rw [List.mem_singleton.mp hx]; exact o.ok.base) (by have := o.ok.wt; simp only [wtL]; omega)).mono (by omega) (by omega), rfl⟩
theorem badL2_ok {m s : Int} (m1 : 1 ≤ m) (m2 : m ≤ 100) (s1 : 1 ≤ s) (s2 : s ≤ 100) : ∀ d ∈ badL2 m s, Ok 20000 3 d ∧ isStandB m s d = false := by
  intro d hd
  have bi : ∀ i : Int, 0 ≤ i → i ≤ 100 → Base 0 (.int i) := fun i h1 h2 => base_int (by have := two7 (i := i) (by omega) (by omega); rw [pow_1000]; have := one_1000; omega)
  simp only [badL2, List.mem_cons, List.not_mem_nil, or_false] at hd
  rcases hd with rfl | rfl | rfl | rfl | rfl
  · exact ⟨(ok_non 1921 1 (by omega) (by omega)).mono (by omega) (by omega), rfl⟩
  · exact ⟨(ok_of (b := 2000) (k := 1) (by decide +kernel)).mono (by omega) (by omega), rfl⟩
  · refine ⟨(ok_tup (k := 1) (b := 20000) (fun x hx => ?_) (by simp [wtL, D.wt])).mono (by omega) (by omega), by simp [isStandB, isStandOfB, isIntB]; omega⟩
    simp only [List.mem_cons, List.not_mem_nil, or_false] at hx
    rcases hx with rfl | rfl
    · exact (bi m (by omega) m2).mono (by omega)
    · exact (zer_ok 0 (by omega)).base
  · exact ⟨(ok_of (b := 10000) (k := 3) (by decide +kernel)).mono (by omega) (by omega), by simp [isStandB]⟩
  · refine ⟨(ok_tup (k := 1) (b := 20000) (fun x hx => ?_) (by simp [wtL, D.wt])).mono (by omega) (by omega), by simp [isStandB, isStandOfB, pileB, allB, isIntB]; omega⟩
    simp only [List.mem_cons, List.not_mem_nil, or_false] at hx
    rcases hx with rfl | rfl
    · exact (bi 0 (by omega) (by omega)).mono (by omega)
    · exact (ok_tup (k := 0) (b := 20000) (fun y hy => by rw [List.mem_singleton.mp hy]; exact bi s (by omega) s2) (by simp [wtL, D.wt])).base
def farE : E := .tup [.cst (.int 0), .bin .mul (.tup [.cst (.int 0)]) (.cst (.int 201))]
def refusedF : Fn := { name := "_law_are_refused", names := ["pot", "office", "odd", "bad", "calls", "call", "word", "value", "caught"], pars := 2, body := [
    .asg (.tup [.name 2, .name 3]) (.tup [.call "_law_of" [.var 0, .lst [.cst .non, .cst (.int 7), .tup [.cst (.int 0), .cst (.int 1), .tup []], .lst [.var 1]]], .call "_law_of" [.var 0, .lst [.cst .non, .cst (.int 0), .tup [.idx (.var 1) (.cst (.int 0)), .tup []], .tup [.cst (.int 0), .lst [.cst (.int 0)]], .tup [.cst (.int 0), .tup [.idx (.var 1) (.cst (.int 1))]]]]]),
    .calls 4 5 6 7 8 [.call "steps" [.var 2, .var 3], .call "is_stand" [.var 2, .var 3], .call "is_run" [.var 2, .var 3], .call "near" [.var 2, .var 3, .var 3], .call "steps" [.var 1, .var 3], .call "near" [.var 1, .var 3, .var 3], .call "steps" [.var 1, farE]] ["office", "office", "office", "office", "stand", "stand", "stand"] [.var 2, .var 2, .var 2, .var 2, .var 3, .var 3, farE] (wordB 8 6 7),
    .ret (.cst (.bl true))] }
theorem h_refused : Has prg "_law_are_refused" refusedF := has_of (by kernel_rfl)
theorem farE_eq (c : Cfg) (ρ : DL.Env) (S : Sto) : evE c farE ρ S = .ok far201 S := by
  have e1 : (1 : Nat) ≤ sizeLine := le_size (by decide)
  have e2 : (2 : Nat) ≤ sizeLine := le_size (by decide)
  have k := mul_zer (n := 201) (by decide) (by decide) S
  have k : bop .mul (.tup [.int 0]) (.int 201) S = .ok (.tup (zer 201)) S := k
  simp [farE, e1, k, e2, far201]
theorem lfar (c : Cfg) (ρ : DL.Env) (S : Sto) : evL c [farE] ρ S = .ok [far201] S := by
  rw [l_cons _ _ _ (by rfl), farE_eq]
  simp
theorem refused_ok {p k : Nat} {m s : Int} {rs : List D} (o : OffOk m s rs) (ob : isOfficeB (offD m s rs) = true) (hp : PotS S p k) (hk : k < 2 ^ 38) (n : Nat) :
    ∃ S', leave S.length (callF prg (n + 12) "_law_are_refused" [.ref p, offD m s rs] S) = .ok (.bl true) S' ∧ PotS S' p (k + 2) ∧ Only1 S S' p := by
  have op := o.ok.pure
  rw [call_fn h_refused (n + 11) rfl]
  have pu1 : pureL (oddL4 (offD m s rs)) = true := by simp only [oddL4, pureL_cons, pureL_nil, pure_lst, op]; rfl
  obtain ⟨odd, S1, h1, f1, p1', o1⟩ := draw_of (xs := oddL4 (offD m s rs)) draws hp (by omega) (by simp [oddL4]) pu1 (by simp [oddL4]) (n + 9)
  obtain ⟨bad, S2, h2, f2, p2', o2⟩ := draw_of (xs := badL2 m s) draws p1' (by omega) (by simp [badL2]) (by rfl) (by simp [badL2]) (n + 9)
  obtain ⟨q1, q2⟩ := oddL4_ok o odd h1
  obtain ⟨r1, r2⟩ := badL2_ok o.m1 o.m2 o.s1 o.s2 bad h2
  have oA := o1.trans o2
  obtain ⟨x1, x2⟩ := exc_in
  have b1 := fun v => steps_off (S := S2) (v := v) q1.pure q2 (n + 1)
  have b2 := fun v => is_stand_off (S := S2) (v := v) stP q1.pure q2 (n + 3)
  have b3 := fun v => run_off (S := S2) (v := v) q1.pure q2 (n + 3)
  have b4 := fun v w => near_off (S := S2) (v := v) (w := w) q1.pure q2 (n + 1)
  have b5 := steps_bad (S := S2) ob op r1.pure (by have := r1.wt; omega) r2 (n + 1)
  have b6 := fun w => near_bad (S := S2) (w := w) ob op r1.pure (by have := r1.wt; omega) r2 (n + 1)
  have b7 := steps_bad (S := S2) ob op far_ok.pure (by have := far_ok.wt; omega) (far_no m s) (n + 1)
  have w1 : ∀ d, callF prg (n + 9 + 2) "_law_word_of" [.err "BadOffice" d] S2 = .ok (.lst [.str "office"]) S2 := fun d => (word_of_eq (S := S2) x1 d (n + 10)).trans (by rw [words ("BadOffice", "office") (by simp)])
  have w2 : ∀ d, callF prg (n + 9 + 2) "_law_word_of" [.err "BadStand" d] S2 = .ok (.lst [.str "stand"]) S2 := fun d => (word_of_eq (S := S2) x2 d (n + 10)).trans (by rw [words ("BadStand", "stand") (by simp)])
  have so1 : PyData.strOk "office" = true := strOk_of _
  have so2 : PyData.strOk "stand" = true := strOk_of _
  have okO : Ok 16000000 60 odd := q1.mono (by omega) (by omega)
  have okB : Ok 16000000 60 bad := r1.mono (by omega) (by omega)
  have okF : Ok 16000000 60 far201 := far_ok.mono (by omega) (by omega)
  obtain ⟨ρ', lp, _⟩ := loopC_all (P := prg) (S := S2) (n := n + 9) (ci := 5) (wi := 6) (vi := 7) (hi := 8) (ρ0 := [some (.ref p), some (offD m s rs), some odd, some bad, none, none, none, none, none]) (by simp) (by simp) (by simp) (by simp) (by decide) (by decide) (by decide)
    [(.call "steps" [.var 2, .var 3], "office", odd, "BadOffice"), (.call "is_stand" [.var 2, .var 3], "office", odd, "BadOffice"), (.call "is_run" [.var 2, .var 3], "office", odd, "BadOffice"), (.call "near" [.var 2, .var 3, .var 3], "office", odd, "BadOffice"), (.call "steps" [.var 1, .var 3], "stand", bad, "BadStand"), (.call "near" [.var 1, .var 3, .var 3], "stand", bad, "BadStand"), (.call "steps" [.var 1, farE], "stand", far201, "BadStand")]
    _ (.refl _ _) (fun it hit => by
      simp only [List.mem_cons, List.not_mem_nil, or_false] at hit
      have g : ∀ ρ, Aside [5, 6, 7, 8] [some (.ref p), some (offD m s rs), some odd, some bad, none, none, none, none, none] ρ → ρ[1]? = some (some (offD m s rs)) ∧ ρ[2]? = some (some odd) ∧ ρ[3]? = some (some bad) := fun ρ h => ⟨h.2 1 (by decide), h.2 2 (by decide), h.2 3 (by decide)⟩
      rcases hit with rfl | rfl | rfl | rfl | rfl | rfl | rfl
      · exact ⟨x1, so1, w1 _, okO, fun ρ h => by obtain ⟨g1, g2, g3⟩ := g ρ h; simp [g1, g2, g3, b1]⟩
      · exact ⟨x1, so1, w1 _, okO, fun ρ h => by obtain ⟨g1, g2, g3⟩ := g ρ h; simp [g1, g2, g3, b2]⟩
      · exact ⟨x1, so1, w1 _, okO, fun ρ h => by obtain ⟨g1, g2, g3⟩ := g ρ h; simp [g1, g2, g3, b3]⟩
      · exact ⟨x1, so1, w1 _, okO, fun ρ h => by obtain ⟨g1, g2, g3⟩ := g ρ h; simp [g1, g2, g3, b4]⟩
      · exact ⟨x2, so2, w2 _, okB, fun ρ h => by obtain ⟨g1, g2, g3⟩ := g ρ h; simp [g1, g2, g3, b5]⟩
      · exact ⟨x2, so2, w2 _, okB, fun ρ h => by obtain ⟨g1, g2, g3⟩ := g ρ h; simp [g1, g2, g3, b6]⟩
      · exact ⟨x2, so2, w2 _, okF, fun ρ h => by obtain ⟨g1, g2, g3⟩ := g ρ h; simp [g1, lfar, b7]⟩)
  simp only [List.map_cons, List.map_nil] at lp
  have e5 : (5 : Nat) ≤ sizeLine := le_size (by decide)
  have e4 : (4 : Nat) ≤ sizeLine := le_size (by decide)
  have e3 : (3 : Nat) ≤ sizeLine := le_size (by decide)
  have e2 : (2 : Nat) ≤ sizeLine := le_size (by decide)
  have e1 : (1 : Nat) ≤ sizeLine := le_size (by decide)
  have k1 : indexD (offD m s rs) (.int 0) S1 = .ok (.int m) S1 := indexD_tup (i := 0) rfl S1
  have k2 : indexD (offD m s rs) (.int 1) S1 = .ok (.int s) S1 := indexD_tup (i := 1) rfl S1
  have k4 : leave S.length (.ok (.bl true) S2) = .ok (.bl true) S2 := leave_len oA.len rfl
  unfold oddL4 at f1
  unfold badL2 at f2
  refine ⟨S2, ?_, p2'.mono (by omega), oA⟩
  simp [refusedF, f1, e1, e2, e3, e4, e5, k1, k2, f2, bindT, bindTs, lfar, lp, k4]

/-! ### what is judged -/
/-- a value that may be judged -/
structure Fine (v : D) : Prop where
  ok : Ok 16000000 60 v
  st : ∀ a xs, v = .tup [a, .tup xs] → xs.length ≤ 1000000
  tup : ∀ xs, v = .tup xs → xs.length ≤ 1000000
theorem fine_small {b k : Nat} {v : D} (h : Ok b k v) (hb : b ≤ 1900000) (hk : k ≤ 60) : Fine v := by
  refine ⟨h.mono (by omega) hk, fun a xs e => ?_, fun xs e => ?_⟩
  · subst e
    have h1 := h.wt
    have h2 := len_wt xs
    simp only [D.wt, wtL] at h1
    omega
  · subst e
    have h1 := h.wt
    have h2 := len_wt xs
    simp only [D.wt] at h1
    omega
theorem judged_eq {m s : Int} {rs : List D} (o : OffOk m s rs) (ob : isOfficeB (offD m s rs) = true) {v : D} (h : Fine v) (n : Nat) : callF prg (n + 7) "_law_is_judged" [offD m s rs, v] S = .ok (.bl true) S := by
  rw [call_fn h_judged (n + 6) rfl]
  have op := o.ok.pure
  have e1 := is_stand_eq' (S := S) stP ob op h.ok.pure h.st n
  have e2 : callF prg (n + 6) "is_run" [offD m s rs, v] S = .ok (.bl (isRunB rs.length v)) S := by
    rw [call_fn h_is_run (n + 5) rfl]
    have e0 := check_office_ok (S := S) stP.chk offs op ob n
    have e1 : callF prg (n + 5) "is_run_of" [offD m s rs, v] S = .ok (.bl (pileB (rs.length : Int) v)) S := by
      rw [call_fn h_is_run_of (n + 4) rfl]
      have e1 := isi_tuple h.ok.pure S
      unfold offD
      rcases tup_cases v with ⟨xs, rfl⟩ | hn
      rotate_left
      · have : pileB (rs.length : Int) v = false := by cases v <;> first | rfl | cases hn
        simp [F.is_run_of, e1, hn, this]
      have hp : ∀ y ∈ xs, y.pure = true := fun y hy => pure_mem (by simpa using h.ok.pure) hy
      have k0 : p1 .len (.tup rs) S = .ok (.int (rs.length : Int)) S := by simp [p1]
      simp [F.is_run_of, e1]
      rw [lcM (g := fun y => .bl (isIntB y 0 ((rs.length : Int) - 1))) (fun y hy => ⟨_, rfl, by simp [k0, is_integer_eq (n := n + 2) offs.int offs.whole (hp y hy)]⟩) (h.tup xs rfl)]
      simp
      rfl
    rcases tup_cases v with ⟨xs, rfl⟩ | hn
    rotate_left
    · have a1 : isRunB rs.length v = false := by cases v <;> first | rfl | cases hn
      have a2 : pileB (rs.length : Int) v = false := by cases v <;> first | rfl | cases hn
      simp [F.is_run, e0, e1, a1, a2]
    have k0 : p1 .len (.tup xs) S = .ok (.int (xs.length : Int)) S := by simp [p1]
    have a1 : isRunB rs.length (.tup xs) = (pileB (rs.length : Int) (.tup xs) && decide (xs.length ≤ 5000)) := rfl
    rw [a1]
    cases c1 : pileB (rs.length : Int) (.tup xs) with
    | false => simp [F.is_run, e0, e1, c1]
    | true =>
      simp [F.is_run, e0, e1, c1, k0, g_run]
      omega
  have e3 := law_is_stand_eq (S := S) (m := m) (s := s) (rs := rs) h_lstand h_isint h.ok.pure (n + 4)
  have e4 := law_is_run_eq (S := S) (m := m) (s := s) (rs := rs) h_lrun h_isint h.ok.pure (n + 4)
  have r1 := repr_ok h.ok (by omega) (by omega) S
  have r2 : ∀ a b : Bool, p1 .repr (.tup [.bl a, .bl b]) S = .ok (.str (D.tup [.bl a, .bl b]).toP.shown) S := fun a b => repr_ok (b := 5000) (k := 2) (ok_of (by cases a <;> cases b <;> decide +kernel)) (by omega) (by omega) S
  have e0 : (2 : Nat) ≤ sizeLine := le_size (by decide)
  simp [l_law_is_judged, e1, e2, e3, e4, e0, r1, r2, bindT, eq_str]
theorem pairs_ok {m s : Int} (hm : m ≤ 100) (hs : s ≤ 100) {l : List (Nat × St)} (h : ∀ x ∈ l, x.1 ≤ 1000 ∧ StOk m s x.2 ∧ x.2.2.length ≤ 201) (hl : l.length ≤ 30) : Ok 15000000 4 (.tup (l.map pairD)) := by
  have bi : ∀ i : Nat, i ≤ 1000 → Base 0 (.int (i : Int)) := fun i h1 => base_int (by have := two7 (i := (i : Int)) (by omega) (by omega); rw [pow_1000]; have := one_1000; omega)
  refine ok_tup (k := 3) (fun x hx => ?_) ?_
  · obtain ⟨u, hu, rfl⟩ := List.mem_map.mp hx
    obtain ⟨h1, h2, h3⟩ := h u hu
    refine (ok_tup (k := 2) (b := (pairD u).wt) (fun y hy => ?_) (by simp [pairD, D.wt])).base
    simp only [List.mem_cons, List.not_mem_nil, or_false] at hy
    rcases hy with rfl | rfl
    · exact (bi u.1 h1).mono (by omega)
    · exact standD_base hm hs h2
  · have : ∀ l : List (Nat × St), (∀ x ∈ l, x.2.2.length ≤ 201) → wtL (l.map pairD) ≤ 395000 * l.length := by
      intro l
      induction l with
      | nil => intro _; simp [wtL]
      | cons u l ih =>
        intro h
        have h1 := h u (List.mem_cons_self ..)
        have h2 := ih fun v hv => h v (List.mem_cons_of_mem _ hv)
        have h3 := wt_stand u.2
        simp only [List.map_cons, wtL, List.length_cons, pairD, D.wt, h3]
        omega
    have := this l fun x hx => (h x hx).2.2
    omega
/-! ### one cell -/
def rightF : Fn := { name := "_law_right", names := ["pot", "office", "some", "stand", "run", "values", "lap", "value"], pars := 1, body := [
    .asg (.name 1) (.call "_law_office" [.var 0, .cst (.int 5), .cst (.int 6), .cst (.int 30)]),
    .asg (.name 2) (.bin .add (.lc (.call "_law_stand" [.var 0, .var 1, .cst (.int 8)]) (.name 6) [6] (.irange1 (.cst (.int 10))) []) (.lst [.tup [.cst (.int 0), .tup []], .tup [.cst (.int 0), .bin .mul (.tup [.cst (.int 0)]) (.cst (.int 200))]])),
    .for (.name 3) (.iseq (.var 2)) [.ifs (.cmp .ne (.prim .repr (.call "steps" [.var 1, .var 3])) (.prim .repr (.prim .tuple (.call "_law_steps" [.var 1, .var 3])))) [.ret (.cst (.bl false))] []],
    .asg (.name 4) (.call "_law_run" [.var 0, .var 1, .idx (.var 2) (.cst (.int 0)), .cst (.int 20)]),
    .asg (.name 5) (.lst [.var 4, .prim .list (.var 4), .bin .add (.var 4) (.tup [.prim .len (.idx (.var 1) (.cst (.int 2)))]), .bin .add (.var 4) (.tup [.neg (.cst (.int 1))]), .bin .mul (.tup [.cst (.int 0)]) (.cst (.int 5000)), .bin .mul (.tup [.cst (.int 0)]) (.cst (.int 5001)), .tup [.cst (.int 0), .bin .mul (.tup [.cst (.int 0)]) (.cst (.int 201))], .call "_law_odd" [.var 0]]),
    .asg (.name 5) (.bin .add (.bin .add (.bin .add (.var 5) (.sl (.var 2) .nil (.cst (.int 3)))) (.lc (.call "_law_bent" [.var 0, .call "_law_of" [.var 0, .sl (.var 2) .nil (.cst (.int 10))]]) (.name 6) [6] (.irange1 (.cst (.int 10))) [])) (.lst [.call "_law_bent" [.var 0, .var 4]])),
    .ret (.and (.prim .all (.lc (.call "_law_is_judged" [.var 1, .var 7]) (.name 7) [7] (.iseq (.var 5)) [])) (.call "_law_are_refused" [.var 0, .var 1]))] }
theorem h_right : Has prg "_law_right" rightF := has_of (by kernel_rfl)
theorem right_ok (n : Nat) : Right prg (n + 13) 1000 := by
  intro S p k hp hS hk
  rw [call_fn h_right (n + 12) rfl]
  obtain ⟨m, s, rs, S1, f1, ⟨m1, m2⟩, ⟨s1, s2⟩, hfew, hall, hup, p1', o1⟩ := draw_office (M := 5) (K := 6) (R := 30) draws h_office hp hS (by omega) (by omega) (by omega) (by omega) (by omega) (by omega) (n + 9)
  have hS1 := hS.only o1 p1'
  have o : OffOk m s rs := ⟨m1, by omega, s1, by omega, by omega, hall, hup⟩
  have ob := o.office (by omega) (by omega) (by omega)
  have op := o.ok.pure
  have f1 : leave S.length (callF prg (n + 12) "_law_office" [.ref p, .int 5, .int 6, .int 30] S) = .ok (offD m s rs) S1 := f1
  have r10 := irgN 10 (by omega) S1
  simp only [show ((10 : Nat) : Int) = 10 from rfl] at r10
  obtain ⟨ys, S2, f2, g1, p2', o2, g3⟩ := lcE (S := S1) (c := cfgAt prg (n + 12)) (elt := .call "_law_stand" [.var 0, .var 1, .cst (.int 8)]) (tg := .name 6) (ifs := []) (xs := (List.range 10).map fun k : Nat => .int (k : Int))
    (ρ := [some (.ref p), some (offD m s rs), none, none, none, none, none, none])
    (fun acc rest T => (∃ l : List St, acc.reverse = l.map standD ∧ ∀ t ∈ l, StOk m s t ∧ t.2.length ≤ 8) ∧ PotS T p (k + 183 + 10 * acc.length) ∧ Only1 S1 T p ∧ acc.length + rest.length = 10)
    ⟨⟨[], rfl, fun t h => by cases h⟩, by simpa using p1', Only1.refl _ p p1'.lt, by simp⟩ (fun acc x rest T ⟨⟨l, l1, l2⟩, g2, g3, g4⟩ => by
      rw [List.length_cons] at g4
      obtain ⟨t, T', e, ht, htl, q1, q2⟩ := draw_stand (most := 8) (rs := rs) draws h_stand g2 (by omega) m1 (by omega) s1 (by omega) (by omega) (n + 10)
      refine ⟨_, rfl, .inl ⟨T, standD t, T', by simp, ?_, ⟨l ++ [t], by simp [l1], fun u hu => ?_⟩, q1.mono (by rw [List.length_cons]; omega), g3.trans q2, by rw [List.length_cons]; omega⟩⟩
      · have e : leave T.length (callF prg (n + 12) "_law_stand" [.ref p, offD m s rs, .int 8] T) = .ok (standD t) T' := e
        simp [e]
      · rcases List.mem_append.mp hu with hu | hu
        · exact l2 u hu
        · rw [List.mem_singleton.mp hu]; exact ⟨ht, by omega⟩) (by simp)
  obtain ⟨l, l1, l2⟩ := g1
  obtain ⟨o2, g3⟩ : Only1 S1 S2 p ∧ ys.length = 10 := ⟨o2, by simpa using g3⟩
  have ll : l.length = 10 := by have := congrArg List.length l1; simp at this; omega
  have p2' : PotS S2 p (k + 300) := p2'.mono (by omega)
  have hS2 := hS1.only o2 p2'
  have low2 := hS2.low S2.length
  rw [l1] at f2
  clear l1 g3
  -- the stands
  obtain ⟨L, hL⟩ : ∃ L : List St, L = l ++ [(0, []), (0, List.replicate 200 0)] := ⟨_, rfl⟩
  have okL : ∀ t ∈ L, StOk m s t ∧ t.2.length ≤ 200 := fun t ht => by
    rw [hL] at ht
    rcases List.mem_append.mp ht with ht | ht
    · have := l2 t ht; exact ⟨this.1, by omega⟩
    · simp only [List.mem_cons, List.not_mem_nil, or_false] at ht
      rcases ht with rfl | rfl
      · exact ⟨⟨by omega, by show (0 : Int) ≤ m - 1; omega, fun i h => by cases h⟩, by simp⟩
      · exact ⟨⟨by omega, by show (0 : Int) ≤ m - 1; omega, fun i h => by have := List.eq_of_mem_replicate h; omega⟩, by simp⟩
  have lenL : L.length = 12 := by rw [hL]; simp [ll]
  have e2 : (2 : Nat) ≤ sizeLine := le_size (by decide)
  have e1 : (1 : Nat) ≤ sizeLine := le_size (by decide)
  have e0 : (0 : Nat) ≤ sizeLine := by omega
  have z2 : evS (cfgAt prg (n + 12)) (.asg (.name 2) (.bin .add (.lc (.call "_law_stand" [.var 0, .var 1, .cst (.int 8)]) (.name 6) [6] (.irange1 (.cst (.int 10))) []) (.lst [.tup [.cst (.int 0), .tup []], .tup [.cst (.int 0), .bin .mul (.tup [.cst (.int 0)]) (.cst (.int 200))]]))) [some (.ref p), some (offD m s rs), none, none, none, none, none, none] S1 =
      .next [some (.ref p), some (offD m s rs), some (.lst (L.map standD)), none, none, none, none, none] S2 := by
    have k1 := mul_zer (n := 200) (by decide) (by decide) S2
    have k1 : bop .mul (.tup [.int 0]) (.int 200) S2 = .ok (.tup (zer 200)) S2 := k1
    have k2 : bop .add (.lst (l.map standD)) (.lst [.tup [.int 0, .tup []], .tup [.int 0, .tup (zer 200)]]) S2 = .ok (.lst (L.map standD)) S2 := by
      rw [bop_addL (by simp [ll]), hL, List.map_append]
      rfl
    simp [r10, f2, k1, k2, e2, e1, e0, bindT]
  have z3 : ∃ x3, evS (cfgAt prg (n + 12)) (.for (.name 3) (.iseq (.var 2)) [.ifs (.cmp .ne (.prim .repr (.call "steps" [.var 1, .var 3])) (.prim .repr (.prim .tuple (.call "_law_steps" [.var 1, .var 3])))) [.ret (.cst (.bl false))] []]) [some (.ref p), some (offD m s rs), some (.lst (L.map standD)), none, none, none, none, none] S2 =
      .next [some (.ref p), some (offD m s rs), some (.lst (L.map standD)), x3, none, none, none, none] S2 := by
    obtain ⟨x3, h⟩ := (for_ret (S := S2) (c := cfgAt prg (n + 12)) (tg := .name 3) (d := .bl false) (b := [.ifs (.cmp .ne (.prim .repr (.call "steps" [.var 1, .var 3])) (.prim .repr (.prim .tuple (.call "_law_steps" [.var 1, .var 3])))) [.ret (.cst (.bl false))] []]) (fun _ => true)
      (fun o => [some (.ref p), some (offD m s rs), some (.lst (L.map standD)), o, none, none, none, none]) (xs := L.map standD) (o := none) (fun o x hx => by
        obtain ⟨t, ht, rfl⟩ := List.mem_map.mp hx
        obtain ⟨ht1, ht2⟩ := okL t ht
        have a1 := steps_eq (S := S2) steP ob op hall (by omega) (ht1.isB ht2) ht2 (n + 4)
        have a2 := law_steps_leave (S := S2) h_steps hall (t := t) (by omega) (by omega) low2 (n + 11)
        have a3 := leave_same (S := S2) (d := .tup ((stepsF 0 rs t).map pairD)) (by rw [pure_tup]; exact pairs_pure _)
        have a4 : p1 .tuple (.lst ((stepsF 0 rs t).map pairD)) S2 = .ok (.tup ((stepsF 0 rs t).map pairD)) S2 := by simp [p1, DL.listOf]
        have a5 := repr_ok (pairs_ok (m := m) (s := s) (by omega) (by omega) (l := stepsF 0 rs t) (fun x hx => by
          obtain ⟨c1, c2, c3⟩ := stepsF_mem hx
          have hi : x.1 - 0 < rs.length := by omega
          obtain ⟨c4, c5, c6⟩ := stepR_put (hall _ (getD_mem hi)) c3
          exact ⟨by omega, ⟨c5.1, c5.2, c6 ht1.pile⟩, by omega⟩) (by have := stepsF_len rs 0 t; omega)) (by omega) (by omega) S2
        exact ⟨_, rfl, by simp [a1, a2, a3, a4, a5, ne_str]⟩)).1 (by simp)
    exact ⟨x3, by simp [iseqR, h]⟩
  obtain ⟨x3, z3⟩ := z3
  -- the run
  obtain ⟨t0, l0, el⟩ : ∃ t0 l0, l = t0 :: l0 := by
    cases l with
    | nil => simp at ll
    | cons a b => exact ⟨a, b, rfl⟩
  obtain ⟨ht0, hl0⟩ := l2 t0 (by rw [el]; exact List.mem_cons_self ..)
  have i0 : indexD (.lst (L.map standD)) (.int 0) S2 = .ok (standD t0) S2 := indexD_lst (i := 0) (by rw [hL, el]; rfl) S2
  obtain ⟨is, S3, f3, hi, hil, _, p3', o3⟩ := draw_run (most := 20) draws h_run h_steps hall (by omega) p2' hS2 (by omega) (by omega) ht0 (by omega) (n + 9)
  have f3 : leave S2.length (callF prg (n + 12) "_law_run" [.ref p, offD m s rs, standD t0, .int 20] S2) = .ok (runD is) S3 := f3
  have hS3 := hS2.only o3 p3'
  have z4 : evS (cfgAt prg (n + 12)) (.asg (.name 4) (.call "_law_run" [.var 0, .var 1, .idx (.var 2) (.cst (.int 0)), .cst (.int 20)])) [some (.ref p), some (offD m s rs), some (.lst (L.map standD)), x3, none, none, none, none] S2 =
      .next [some (.ref p), some (offD m s rs), some (.lst (L.map standD)), x3, some (runD is), none, none, none] S3 := by simp [i0, f3, bindT]
  -- the values
  obtain ⟨d8, S4, h8, f8, p4', o4⟩ := draw_odd draws h_odd p3' (by omega) (n + 9)
  have f8 : leave S3.length (callF prg (n + 12) "_law_odd" [.ref p] S3) = .ok d8 S4 := f8
  have hS4 := hS3.only o4 p4'
  have base_i : ∀ i : Int, -1 ≤ i → i ≤ 30 → Base 0 (.int i) := fun i h1 h2 => base_int (by have := two7 (i := i) (by omega) (by omega); rw [pow_1000]; have := one_1000; omega)
  have base_r : ∀ x ∈ is.map D.int, Base 0 x := fun x hx => by
    obtain ⟨i, hi2, rfl⟩ := List.mem_map.mp hx
    have := hi i hi2
    exact base_i i (by omega) (by omega)
  have wr : wtL (is.map D.int) ≤ 38460 := by rw [wtL_ints]; omega
  obtain ⟨V, hV⟩ : ∃ V : List D, V = [runD is, .lst (is.map .int), .tup (is.map .int ++ [.int (rs.length : Int)]), .tup (is.map .int ++ [.int (-1)]), .tup (zer 5000), .tup (zer 5001), far201, d8] := ⟨_, rfl⟩
  have fV : ∀ v ∈ V, Fine v := fun v hv => by
    rw [hV] at hv
    simp only [List.mem_cons, List.not_mem_nil, or_false] at hv
    have w1 : ∀ i : Int, wtL (is.map D.int ++ [.int i]) ≤ 41000 := fun i => by rw [wtL_append]; simp only [wtL, D.wt]; omega
    have zf : ∀ k, k ≤ 5001 → Fine (.tup (zer k)) := fun k hk => by
      refine ⟨(zer_ok k (by omega)).mono (by omega) (by omega), fun a xs e => ?_, fun xs e => ?_⟩
      · have e := D.tup.inj e
        have hx := zer_base k (.tup xs) (by rw [e]; simp)
        have := hx.dep
        simp only [D.toP, PyData.depth] at this
        omega
      · have e := D.tup.inj e
        rw [← e, zer_len]
        omega
    rcases hv with rfl | rfl | rfl | rfl | rfl | rfl | rfl | rfl
    · exact fine_small (ok_tup (k := 0) (b := 100000) base_r (by omega)) (by omega) (by omega)
    · exact fine_small (ok_lst (k := 0) (b := 100000) base_r (by omega)) (by omega) (by omega)
    · exact fine_small (ok_tup (k := 0) (b := 100000) (fun x hx => by
        rcases List.mem_append.mp hx with hx | hx
        · exact base_r x hx
        · rw [List.mem_singleton.mp hx]; exact base_i _ (by omega) (by omega)) (by have := w1 (rs.length : Int); omega)) (by omega) (by omega)
    · exact fine_small (ok_tup (k := 0) (b := 100000) (fun x hx => by
        rcases List.mem_append.mp hx with hx | hx
        · exact base_r x hx
        · rw [List.mem_singleton.mp hx]; exact base_i _ (by omega) (by omega)) (by have := w1 (-1); omega)) (by omega) (by omega)
    · exact zf 5000 (by omega)
    · exact zf 5001 (by omega)
    · exact fine_small far_ok (by omega) (by omega)
    · exact fine_small (oddL_ok _ h8) (by omega) (by omega)
  have lV : V.length = 8 := by rw [hV]; rfl
  have e8 : (8 : Nat) ≤ sizeLine := le_size (by decide)
  have z5 : evS (cfgAt prg (n + 12)) (.asg (.name 5) (.lst [.var 4, .prim .list (.var 4), .bin .add (.var 4) (.tup [.prim .len (.idx (.var 1) (.cst (.int 2)))]), .bin .add (.var 4) (.tup [.neg (.cst (.int 1))]), .bin .mul (.tup [.cst (.int 0)]) (.cst (.int 5000)), .bin .mul (.tup [.cst (.int 0)]) (.cst (.int 5001)), .tup [.cst (.int 0), .bin .mul (.tup [.cst (.int 0)]) (.cst (.int 201))], .call "_law_odd" [.var 0]])) [some (.ref p), some (offD m s rs), some (.lst (L.map standD)), x3, some (runD is), none, none, none] S3 =
      .next [some (.ref p), some (offD m s rs), some (.lst (L.map standD)), x3, some (runD is), some (.lst V), none, none] S4 := by
    have k1 : bop .mul (.tup [.int 0]) (.int 5000) S3 = .ok (.tup (zer 5000)) S3 := mul_zer (n := 5000) (by decide) (by decide) S3
    have k2 : bop .mul (.tup [.int 0]) (.int 5001) S3 = .ok (.tup (zer 5001)) S3 := mul_zer (n := 5001) (by decide) (by decide) S3
    have k3 : bop .mul (.tup [.int 0]) (.int 201) S3 = .ok (.tup (zer 201)) S3 := mul_zer (n := 201) (by decide) (by decide) S3
    have k4 : ∀ i : Int, bop .add (runD is) (.tup [.int i]) S3 = .ok (.tup (is.map .int ++ [.int i])) S3 := fun i => bop_addT (by simp; omega) S3
    have k5 : p1 .list (runD is) S3 = .ok (.lst (is.map .int)) S3 := by simp [p1, runD]
    have k6 : indexD (offD m s rs) (.int 2) S3 = .ok (.tup rs) S3 := indexD_tup (i := 2) rfl S3
    have k7 : p1 .len (.tup rs) S3 = .ok (.int (rs.length : Int)) S3 := by simp [p1]
    rw [hV]
    simp [k1, k2, k3, k4, k5, k6, k7, f8, e8, e2, e1, bindT, far201]
  -- the bent ones
  have c3 : ∀ T, sliceD (.lst (L.map standD)) none (some 3) T = .ok (.lst ((L.map standD).take 3)) T := fun T => by
    simp [sliceD, DL.listOf]
    rw [show (3 : Int) = ((3 : Nat) : Int) from rfl, cut_to]
  have c10 : ∀ T, sliceD (.lst (L.map standD)) none (some 10) T = .ok (.lst (l.map standD)) T := fun T => by
    simp [sliceD, DL.listOf]
    rw [show (10 : Int) = ((10 : Nat) : Int) from rfl, cut_to, hL, List.map_append, List.take_left' (by simp [ll])]
  have p_l : pureL (l.map standD) = true := by
    rw [pureL_eq, List.all_map, List.all_eq_true]
    exact fun t _ => standD_pure t
  have sm_st : ∀ t : St, StOk m s t → sm (standD t) = true := fun t h => by
    have a1 : sm (.int t.1) = true := sm_int (by have := h.q0; omega) (by have := h.q1; omega)
    have a2 : smL (t.2.map .int) = true := smL_ints fun i hi => by have := h.pile i hi; omega
    simp only [sm] at a1
    simp only [standD, sm, smL, a1, a2, Bool.and_self]
  have r10 := irgN 10 (by omega) S4
  simp only [show ((10 : Nat) : Int) = 10 from rfl] at r10
  obtain ⟨zs, S5, f9, g1, p5', o5, g3⟩ := lcE (S := S4) (c := cfgAt prg (n + 12)) (elt := .call "_law_bent" [.var 0, .call "_law_of" [.var 0, .sl (.var 2) .nil (.cst (.int 10))]]) (tg := .name 6) (ifs := []) (xs := (List.range 10).map fun k : Nat => .int (k : Int))
    (ρ := [some (.ref p), some (offD m s rs), some (.lst (L.map standD)), x3, some (runD is), some (.lst V), none, none])
    (fun acc rest T => (∀ v ∈ acc, Fine v) ∧ PotS T p (k + 400 + 10 * acc.length) ∧ Only1 S4 T p ∧ acc.length + rest.length = 10)
    ⟨fun v h => (by cases h), p4'.mono (by simp <;> omega), Only1.refl _ p p4'.lt, by simp⟩ (fun acc x rest T ⟨g1, g2, g3, g4⟩ => by
      rw [List.length_cons] at g4
      obtain ⟨d, T1, hd, f1, q1, w1⟩ := draw_of (xs := l.map standD) draws g2 (by omega) (by simp [el]) p_l (by simp [ll]) (n + 10)
      obtain ⟨t, ht, rfl⟩ := List.mem_map.mp hd
      obtain ⟨ht1, ht2⟩ := l2 t ht
      have wt := wt_stand t
      obtain ⟨d, T2, f2, okd, q2, w2⟩ := draw_bent draws h_bent (n + 7) 2 (standD t) T1 (k + 400 + 10 * acc.length + 1) (sm_st t ht1) (standD_dep t) (by omega) (by omega) q1 (by omega)
      have f1 : leave T.length (callF prg (n + 12) "_law_of" [.ref p, .lst (l.map standD)] T) = .ok (standD t) T1 := f1
      have f2 : leave T1.length (callF prg (n + 12) "_law_bent" [.ref p, standD t] T1) = .ok d T2 := f2
      refine ⟨_, rfl, .inl ⟨T, d, T2, by simp, by simp [c10, f1, f2], fun v hv => ?_, q2.mono (by rw [List.length_cons]; omega), (g3.trans w1).trans w2, by rw [List.length_cons]; omega⟩⟩
      rcases List.mem_cons.mp hv with rfl | hv
      · exact fine_small okd (by omega) (by have := standD_dep t; omega)
      · exact g1 v hv) (by simp)
  have hS5 := hS4.only o5 p5'
  have lz : zs.length = 10 := by simpa using g3
  have sm_r : sm (runD is) = true := by
    have a2 : smL (is.map .int) = true := smL_ints fun i hi2 => by have := hi i hi2; omega
    simp only [runD, sm, a2]
  have dep_r : (runD is).toP.depth ≤ 1 := by
    have := ints_depth is
    simp only [runD, D.toP, PyData.depth]
    omega
  obtain ⟨db, S6, f10, okb, p6', o6⟩ := draw_bent draws h_bent (n + 8) 1 (runD is) S5 (k + 600) sm_r dep_r (by omega) (by simp only [runD, D.wt]; omega) (p5'.mono (by omega)) (by omega)
  have f10 : leave S5.length (callF prg (n + 12) "_law_bent" [.ref p, runD is] S5) = .ok db S6 := f10
  have hS6 := hS5.only o6 p6'
  obtain ⟨U, hU⟩ : ∃ U : List D, U = V ++ (L.map standD).take 3 ++ zs.reverse ++ [db] := ⟨_, rfl⟩
  have fU : ∀ v ∈ U, Fine v := fun v hv => by
    rw [hU] at hv
    rcases List.mem_append.mp hv with hv | hv
    · rcases List.mem_append.mp hv with hv | hv
      · rcases List.mem_append.mp hv with hv | hv
        · exact fV v hv
        · obtain ⟨t, ht, rfl⟩ := List.mem_map.mp (List.mem_of_mem_take hv)
          obtain ⟨h1, h2⟩ := okL t ht
          have h3 := stand_ok (m := m) (s := s) (by omega) (by omega) h1 (by omega)
          have h4 := wt_stand t
          exact fine_small (b := 500000) (k := 2) ⟨h3.pure, h3.show_, h3.lay, h3.dep, by omega⟩ (by omega) (by omega)
      · exact g1 v (List.mem_reverse.mp hv)
    · rw [List.mem_singleton.mp hv]
      exact fine_small okb (by simp only [runD, D.wt]; omega) (by omega)
  have lU : U.length ≤ 100 := by rw [hU]; simp; omega
  have z6 : evS (cfgAt prg (n + 12)) (.asg (.name 5) (.bin .add (.bin .add (.bin .add (.var 5) (.sl (.var 2) .nil (.cst (.int 3)))) (.lc (.call "_law_bent" [.var 0, .call "_law_of" [.var 0, .sl (.var 2) .nil (.cst (.int 10))]]) (.name 6) [6] (.irange1 (.cst (.int 10))) [])) (.lst [.call "_law_bent" [.var 0, .var 4]]))) [some (.ref p), some (offD m s rs), some (.lst (L.map standD)), x3, some (runD is), some (.lst V), none, none] S4 =
      .next [some (.ref p), some (offD m s rs), some (.lst (L.map standD)), x3, some (runD is), some (.lst U), none, none] S6 := by
    have k1 : bop .add (.lst V) (.lst ((L.map standD).take 3)) S4 = .ok (.lst (V ++ (L.map standD).take 3)) S4 := bop_addL (by simp; omega) S4
    have k2 : bop .add (.lst (V ++ (L.map standD).take 3)) (.lst zs.reverse) S5 = .ok (.lst (V ++ (L.map standD).take 3 ++ zs.reverse)) S5 := bop_addL (by simp; omega) S5
    have k3 : bop .add (.lst (V ++ (L.map standD).take 3 ++ zs.reverse)) (.lst [db]) S6 = .ok (.lst U) S6 := by rw [hU]; exact bop_addL (by simp; omega) S6
    simp only [List.append_assoc] at k2 k3
    simp [c3, r10, k1, f9, k2, f10, k3, e1, bindT]
  obtain ⟨S7, f11, p7', o7⟩ := refused_ok o ob p6' (by omega) n
  have oA := ((((o1.trans o2).trans o3).trans o4).trans o5).trans o6 |>.trans o7
  refine ⟨S7, ?_, p7'.mono (by omega), oA⟩
  have k8 : lcRun (cfgAt prg (n + 12)) (.call "_law_is_judged" [.var 1, .var 7]) (.name 7) [] [some (.ref p), some (offD m s rs), some (.lst (L.map standD)), x3, some (runD is), some (.lst U), none, none] (.fixed U) S6 = .ok (U.map fun _ => .bl true) S6 := by
    exact lcM (g := fun _ => .bl true) (fun v hv => ⟨_, rfl, by simp [judged_eq (S := S6) (rs := rs) o ob (fU v hv) (n + 5)]⟩) (by omega)
  have k9 : p1 .all (.lst (U.map fun _ => .bl true)) S6 = .ok (.bl true) S6 := by
    have := p1_allB (fun _ => true) U S6
    rwa [allB_of (fun _ _ => rfl)] at this
  have lb : leave S.length (.ok (.bl true) S7) = .ok (.bl true) S7 := leave_len oA.len rfl
  have z1 : evS (cfgAt prg (n + 12)) (.asg (.name 1) (.call "_law_office" [.var 0, .cst (.int 5), .cst (.int 6), .cst (.int 30)])) [some (.ref p), none, none, none, none, none, none, none] S = .next [some (.ref p), some (offD m s rs), none, none, none, none, none, none] S1 := by simp [f1, bindT]
  show leave S.length (fin (evSs (cfgAt prg (n + 12)) rightF.body [some (.ref p), none, none, none, none, none, none, none] S)) = _
  unfold rightF
  simp only [q_cons]
  rw [z1, Out.seq_next, z2, Out.seq_next, z3, Out.seq_next, z4, Out.seq_next, z5, Out.seq_next, z6, Out.seq_next]
  simp [k8, allB_of (f := fun _ => true) (xs := U) (fun _ _ => rfl), f11, lb]
theorem h_law2 : Has prg "law" (F.lawB "_law_cells" 3) := has_of (by kernel_rfl)
theorem keeps : DL.Keeps prg 14 := keepsB (most := 3) (nms := ["script", "limit"]) h_law2 h_cells rfl h_pot (by unfold PotNums; decide) (by decide) (by decide) (right_ok 0)
end K03
set_option Elab.async false
set_option linter.all false
set_option maxRecDepth 100000
set_option maxHeartbeats 4000000

namespace K03
open PySem PySem.Spec PyProof.Rows L2 DL
def top (i : Nat) : Stmt := PySem.Challenge.pw_howeverdeep_k03_stands_and_steps.main.body.getD i (.Pass ⟨0, 0, 0, 0⟩)
theorem b_f_is_tuple : defB prg f_is_tuple (top 1) = true := by decide +kernel
theorem b_f_is_whole : defB prg f_is_whole (top 2) = true := by decide +kernel
theorem b_f_is_integer : defB prg f_is_integer (top 3) = true := by decide +kernel
theorem b_f_is_rising : defB prg f_is_rising (top 4) = true := by decide +kernel
theorem b_f_is_rule : defB prg f_is_rule (top 18) = true := by decide +kernel
theorem b_f_is_office : defB prg f_is_office (top 19) = true := by decide +kernel
theorem b_f_check_office : defB prg f_check_office (top 20) = true := by decide +kernel
theorem b_f_rules_for : defB prg f_rules_for (top 21) = true := by decide +kernel
theorem b_f_is_stand_of : defB prg f_is_stand_of (top 28) = true := by decide +kernel
theorem b_f_is_stand : defB prg f_is_stand (top 29) = true := by decide +kernel
theorem b_f_check_stand : defB prg f_check_stand (top 30) = true := by decide +kernel
theorem b_f_is_run_of : defB prg f_is_run_of (top 31) = true := by decide +kernel
theorem b_f_is_run : defB prg f_is_run (top 32) = true := by decide +kernel
theorem b_f_stand_by : defB prg f_stand_by (top 33) = true := by decide +kernel
theorem b_f_steps_from : defB prg f_steps_from (top 34) = true := by decide +kernel
theorem b_f_steps : defB prg f_steps (top 35) = true := by decide +kernel
theorem b_f_place_of : defB prg f_place_of (top 36) = true := by decide +kernel
theorem b_f_near : defB prg f_near (top 37) = true := by decide +kernel
theorem b_f_near_place : defB prg f_near_place (top 38) = true := by decide +kernel
theorem b_l_law_pot : defB prg l_law_pot (top 40) = true := by decide +kernel
theorem b_l_law_take : defB prg l_law_take (top 41) = true := by decide +kernel
theorem b_l_law_of : defB prg l_law_of (top 42) = true := by decide +kernel
theorem b_l_law_cells : defB prg l_law_cells (top 43) = true := by decide +kernel
theorem b_l_law_odd : defB prg l_law_odd (top 45) = true := by decide +kernel
theorem b_l_law_is_int : defB prg l_law_is_int (top 46) = true := by decide +kernel
theorem b_l_law_bent : defB prg l_law_bent (top 47) = true := by decide +kernel
theorem b_l_law_office : defB prg l_law_office (top 48) = true := by decide +kernel
theorem b_l_law_stand : defB prg l_law_stand (top 49) = true := by decide +kernel
theorem b_l_law_steps : defB prg l_law_steps (top 50) = true := by decide +kernel
theorem b_l_law_run : defB prg l_law_run (top 51) = true := by decide +kernel
theorem b_l_law_is_stand : defB prg l_law_is_stand (top 52) = true := by decide +kernel
theorem b_l_law_is_run : defB prg l_law_is_run (top 53) = true := by decide +kernel
theorem b_l_law_is_judged : defB prg l_law_is_judged (top 54) = true := by decide +kernel
theorem b_l_law_word_of : defB prg l_law_word_of (top 55) = true := by decide +kernel
theorem b_l_law_are_refused : defB prg l_law_are_refused (top 56) = true := by decide +kernel
theorem b_l_law_right : defB prg l_law_right (top 57) = true := by decide +kernel
theorem b_f_law : defB prg f_law (top 58) = true := by decide +kernel
theorem glbs : ∀ x d, prg.glb x = some d → (x, d) ∈ glbL := fun x d h => lookup_mem h
def Df : List (Fn × Stmt) := [(f_is_tuple, top 1), (f_is_whole, top 2), (f_is_integer, top 3), (f_is_rising, top 4), (f_is_rule, top 18), (f_is_office, top 19), (f_check_office, top 20), (f_rules_for, top 21), (f_is_stand_of, top 28), (f_is_stand, top 29), (f_check_stand, top 30), (f_is_run_of, top 31), (f_is_run, top 32), (f_stand_by, top 33), (f_steps_from, top 34), (f_steps, top 35), (f_place_of, top 36), (f_near, top 37), (f_near_place, top 38), (l_law_pot, top 40), (l_law_take, top 41), (l_law_of, top 42), (l_law_cells, top 43), (l_law_odd, top 45), (l_law_is_int, top 46), (l_law_bent, top 47), (l_law_office, top 48), (l_law_stand, top 49), (l_law_steps, top 50), (l_law_run, top 51), (l_law_is_stand, top 52), (l_law_is_run, top 53), (l_law_is_judged, top 54), (l_law_word_of, top 55), (l_law_are_refused, top 56), (l_law_right, top 57), (f_law, top 58)]
theorem g_f_is_tuple : BindOk (f_is_tuple, top 1) := fun _ _ _ _ _ _ us hl => match us, hl with | [_, _, _], _ => rfl
theorem g_f_is_whole : BindOk (f_is_whole, top 2) := fun _ _ _ _ _ _ us hl => match us, hl with | [_], _ => rfl
theorem g_f_is_integer : BindOk (f_is_integer, top 3) := fun _ _ _ _ _ _ us hl => match us, hl with | [_, _, _], _ => rfl
theorem g_f_is_rising : BindOk (f_is_rising, top 4) := fun _ _ _ _ _ _ us hl => match us, hl with | [_], _ => rfl
theorem g_f_is_rule : BindOk (f_is_rule, top 18) := fun _ _ _ _ _ _ us hl => match us, hl with | [_, _, _], _ => rfl
theorem g_f_is_office : BindOk (f_is_office, top 19) := fun _ _ _ _ _ _ us hl => match us, hl with | [_], _ => rfl
theorem g_f_check_office : BindOk (f_check_office, top 20) := fun _ _ _ _ _ _ us hl => match us, hl with | [_], _ => rfl
theorem g_f_rules_for : BindOk (f_rules_for, top 21) := fun _ _ _ _ _ _ us hl => match us, hl with | [_, _, _], _ => rfl
theorem g_f_is_stand_of : BindOk (f_is_stand_of, top 28) := fun _ _ _ _ _ _ us hl => match us, hl with | [_, _], _ => rfl
theorem g_f_is_stand : BindOk (f_is_stand, top 29) := fun _ _ _ _ _ _ us hl => match us, hl with | [_, _], _ => rfl
theorem g_f_check_stand : BindOk (f_check_stand, top 30) := fun _ _ _ _ _ _ us hl => match us, hl with | [_, _], _ => rfl
theorem g_f_is_run_of : BindOk (f_is_run_of, top 31) := fun _ _ _ _ _ _ us hl => match us, hl with | [_, _], _ => rfl
theorem g_f_is_run : BindOk (f_is_run, top 32) := fun _ _ _ _ _ _ us hl => match us, hl with | [_, _], _ => rfl
theorem g_f_stand_by : BindOk (f_stand_by, top 33) := fun _ _ _ _ _ _ us hl => match us, hl with | [_, _, _], _ => rfl
theorem g_f_steps_from : BindOk (f_steps_from, top 34) := fun _ _ _ _ _ _ us hl => match us, hl with | [_, _], _ => rfl
theorem g_f_steps : BindOk (f_steps, top 35) := fun _ _ _ _ _ _ us hl => match us, hl with | [_, _], _ => rfl
theorem g_f_place_of : BindOk (f_place_of, top 36) := fun _ _ _ _ _ _ us hl => match us, hl with | [_], _ => rfl
theorem g_f_near : BindOk (f_near, top 37) := fun _ _ _ _ _ _ us hl => match us, hl with | [_, _, _], _ => rfl
theorem g_f_near_place : BindOk (f_near_place, top 38) := fun _ _ _ _ _ _ us hl => match us, hl with | [_], _ => rfl
theorem g_l_law_pot : BindOk (l_law_pot, top 40) := fun _ _ _ _ _ _ us hl => match us, hl with | [_, _], _ => rfl
theorem g_l_law_take : BindOk (l_law_take, top 41) := fun _ _ _ _ _ _ us hl => match us, hl with | [_, _], _ => rfl
theorem g_l_law_of : BindOk (l_law_of, top 42) := fun _ _ _ _ _ _ us hl => match us, hl with | [_, _], _ => rfl
theorem g_l_law_cells : BindOk (l_law_cells, top 43) := fun _ _ _ _ _ _ us hl => match us, hl with | [_, _], _ => rfl
theorem g_l_law_odd : BindOk (l_law_odd, top 45) := fun _ _ _ _ _ _ us hl => match us, hl with | [_], _ => rfl
theorem g_l_law_is_int : BindOk (l_law_is_int, top 46) := fun _ _ _ _ _ _ us hl => match us, hl with | [_, _, _], _ => rfl
theorem g_l_law_bent : BindOk (l_law_bent, top 47) := fun _ _ _ _ _ _ us hl => match us, hl with | [_, _], _ => rfl
theorem g_l_law_office : BindOk (l_law_office, top 48) := fun _ _ _ _ _ _ us hl => match us, hl with | [_, _, _, _], _ => rfl
theorem g_l_law_stand : BindOk (l_law_stand, top 49) := fun _ _ _ _ _ _ us hl => match us, hl with | [_, _, _], _ => rfl
theorem g_l_law_steps : BindOk (l_law_steps, top 50) := fun _ _ _ _ _ _ us hl => match us, hl with | [_, _], _ => rfl
theorem g_l_law_run : BindOk (l_law_run, top 51) := fun _ _ _ _ _ _ us hl => match us, hl with | [_, _, _, _], _ => rfl
theorem g_l_law_is_stand : BindOk (l_law_is_stand, top 52) := fun _ _ _ _ _ _ us hl => match us, hl with | [_, _], _ => rfl
theorem g_l_law_is_run : BindOk (l_law_is_run, top 53) := fun _ _ _ _ _ _ us hl => match us, hl with | [_, _], _ => rfl
theorem g_l_law_is_judged : BindOk (l_law_is_judged, top 54) := fun _ _ _ _ _ _ us hl => match us, hl with | [_, _], _ => rfl
theorem g_l_law_word_of : BindOk (l_law_word_of, top 55) := fun _ _ _ _ _ _ us hl => match us, hl with | [_], _ => rfl
theorem g_l_law_are_refused : BindOk (l_law_are_refused, top 56) := fun _ _ _ _ _ _ us hl => match us, hl with | [_, _], _ => rfl
theorem g_l_law_right : BindOk (l_law_right, top 57) := fun _ _ _ _ _ _ us hl => match us, hl with | [_], _ => rfl
theorem g_f_law : BindOk (f_law, top 58) := fun _ _ _ _ _ _ us hl => match us, hl with | [_], _ => rfl
theorem binds : ∀ p ∈ Df, BindOk p := (List.forall_mem_cons.mpr ⟨g_f_is_tuple, (List.forall_mem_cons.mpr ⟨g_f_is_whole, (List.forall_mem_cons.mpr ⟨g_f_is_integer, (List.forall_mem_cons.mpr ⟨g_f_is_rising, (List.forall_mem_cons.mpr ⟨g_f_is_rule, (List.forall_mem_cons.mpr ⟨g_f_is_office, (List.forall_mem_cons.mpr ⟨g_f_check_office, (List.forall_mem_cons.mpr ⟨g_f_rules_for, (List.forall_mem_cons.mpr ⟨g_f_is_stand_of, (List.forall_mem_cons.mpr ⟨g_f_is_stand, (List.forall_mem_cons.mpr ⟨g_f_check_stand, (List.forall_mem_cons.mpr ⟨g_f_is_run_of, (List.forall_mem_cons.mpr ⟨g_f_is_run, (List.forall_mem_cons.mpr ⟨g_f_stand_by, (List.forall_mem_cons.mpr ⟨g_f_steps_from, (List.forall_mem_cons.mpr ⟨g_f_steps, (List.forall_mem_cons.mpr ⟨g_f_place_of, (List.forall_mem_cons.mpr ⟨g_f_near, (List.forall_mem_cons.mpr ⟨g_f_near_place, (List.forall_mem_cons.mpr ⟨g_l_law_pot, (List.forall_mem_cons.mpr ⟨g_l_law_take, (List.forall_mem_cons.mpr ⟨g_l_law_of, (List.forall_mem_cons.mpr ⟨g_l_law_cells, (List.forall_mem_cons.mpr ⟨g_l_law_odd, (List.forall_mem_cons.mpr ⟨g_l_law_is_int, (List.forall_mem_cons.mpr ⟨g_l_law_bent, (List.forall_mem_cons.mpr ⟨g_l_law_office, (List.forall_mem_cons.mpr ⟨g_l_law_stand, (List.forall_mem_cons.mpr ⟨g_l_law_steps, (List.forall_mem_cons.mpr ⟨g_l_law_run, (List.forall_mem_cons.mpr ⟨g_l_law_is_stand, (List.forall_mem_cons.mpr ⟨g_l_law_is_run, (List.forall_mem_cons.mpr ⟨g_l_law_is_judged, (List.forall_mem_cons.mpr ⟨g_l_law_word_of, (List.forall_mem_cons.mpr ⟨g_l_law_are_refused, (List.forall_mem_cons.mpr ⟨g_l_law_right, (List.forall_mem_cons.mpr ⟨g_f_law, (fun _ h => absurd h List.not_mem_nil)⟩)⟩)⟩)⟩)⟩)⟩)⟩)⟩)⟩)⟩)⟩)⟩)⟩)⟩)⟩)⟩)⟩)⟩)⟩)⟩)⟩)⟩)⟩)⟩)⟩)⟩)⟩)⟩)⟩)⟩)⟩)⟩)⟩)⟩)⟩)⟩)⟩)
theorem checks : ∀ p ∈ Df, defB prg p.1 p.2 = true := (List.forall_mem_cons.mpr ⟨b_f_is_tuple, (List.forall_mem_cons.mpr ⟨b_f_is_whole, (List.forall_mem_cons.mpr ⟨b_f_is_integer, (List.forall_mem_cons.mpr ⟨b_f_is_rising, (List.forall_mem_cons.mpr ⟨b_f_is_rule, (List.forall_mem_cons.mpr ⟨b_f_is_office, (List.forall_mem_cons.mpr ⟨b_f_check_office, (List.forall_mem_cons.mpr ⟨b_f_rules_for, (List.forall_mem_cons.mpr ⟨b_f_is_stand_of, (List.forall_mem_cons.mpr ⟨b_f_is_stand, (List.forall_mem_cons.mpr ⟨b_f_check_stand, (List.forall_mem_cons.mpr ⟨b_f_is_run_of, (List.forall_mem_cons.mpr ⟨b_f_is_run, (List.forall_mem_cons.mpr ⟨b_f_stand_by, (List.forall_mem_cons.mpr ⟨b_f_steps_from, (List.forall_mem_cons.mpr ⟨b_f_steps, (List.forall_mem_cons.mpr ⟨b_f_place_of, (List.forall_mem_cons.mpr ⟨b_f_near, (List.forall_mem_cons.mpr ⟨b_f_near_place, (List.forall_mem_cons.mpr ⟨b_l_law_pot, (List.forall_mem_cons.mpr ⟨b_l_law_take, (List.forall_mem_cons.mpr ⟨b_l_law_of, (List.forall_mem_cons.mpr ⟨b_l_law_cells, (List.forall_mem_cons.mpr ⟨b_l_law_odd, (List.forall_mem_cons.mpr ⟨b_l_law_is_int, (List.forall_mem_cons.mpr ⟨b_l_law_bent, (List.forall_mem_cons.mpr ⟨b_l_law_office, (List.forall_mem_cons.mpr ⟨b_l_law_stand, (List.forall_mem_cons.mpr ⟨b_l_law_steps, (List.forall_mem_cons.mpr ⟨b_l_law_run, (List.forall_mem_cons.mpr ⟨b_l_law_is_stand, (List.forall_mem_cons.mpr ⟨b_l_law_is_run, (List.forall_mem_cons.mpr ⟨b_l_law_is_judged, (List.forall_mem_cons.mpr ⟨b_l_law_word_of, (List.forall_mem_cons.mpr ⟨b_l_law_are_refused, (List.forall_mem_cons.mpr ⟨b_l_law_right, (List.forall_mem_cons.mpr ⟨b_f_law, (fun _ h => absurd h List.not_mem_nil)⟩)⟩)⟩)⟩)⟩)⟩)⟩)⟩)⟩)⟩)⟩)⟩)⟩)⟩)⟩)⟩)⟩)⟩)⟩)⟩)⟩)⟩)⟩)⟩)⟩)⟩)⟩)⟩)⟩)⟩)⟩)⟩)⟩)⟩)⟩)⟩)⟩)
def ls0 : List Str := ["is_tuple", "is_whole", "is_integer", "is_rising", "ErrandError", "BadOffice", "BadStand", "BadNumber", "TooMany", "MOST_MOODS", "MOST_SLIPS", "MOST_RULES", "MOST_PUT", "TRIPLE", "FOUR", "is_rule", "is_office", "check_office", "rules_for", "MOST_PILE"]
def ls1 : List Str := ["MOST_RUN", "MOST_STEPS", "MOST_NEAR", "PAIR", "is_stand_of", "is_stand", "check_stand", "is_run_of", "is_run", "stand_by", "steps_from", "steps", "place_of", "near", "near_place", "_law_pot", "_law_take", "_law_of", "_law_cells", "_law_heard"]
def ls2 : List Str := ["_law_odd", "_law_is_int", "_law_bent", "_law_office", "_law_stand", "_law_steps", "_law_run", "_law_is_stand", "_law_is_run", "_law_is_judged", "_law_word_of", "_law_are_refused", "_law_right"]
def loose : List Str := ls0 ++ ls1 ++ ls2
abbrev R : PySem.W.OpenRow := PySem.W.OpenLaw.row PySem.Challenge.rw_howeverdeep_k03_stands_and_steps
abbrev fa : List He.Fa := faOf Df glbL ++ faErr prg.excs
abbrev fn : List He.DefD := fnsOf Df ++ [heardD (top 44), initD (initOf (top 6))]
def ex (K : PySem.W.Frag) : Bool := exErr R.prog prg.excs K
theorem text : TextOk (top 44) (initOf (top 6)) where
  body := ⟨_, _, _, _, _, _, _, _, _, _, _, _, _, _, _, _, _, _, _, _, _, _, _, _, _, _, rfl⟩
  bind := fun _ _ _ _ _ _ _ => rfl
  sc := by decide +kernel
  locs := by decide +kernel
  glob := by decide +kernel
  ibody := ⟨_, _, _, _, _, _, _, _, _, _, rfl, fun env => ⟨_, rfl⟩⟩
  ibind := fun _ _ _ _ _ _ us hl => match us, hl with | [_, _], _ => rfl
  isc := by decide +kernel
  ilocs := by decide +kernel
  iglob := by decide +kernel
abbrev tf : List He.Defn := (defNames R.prog).map fun x => (x, none)
abbrev hk : PySem.W.Hook := He.hookX 4 fa fn [] tf ex
def ob (s : PySem.W.SharedT) : He.AlX := He.obsX 4 fa fn [] tf ex (HandSHeadRun.getT s)
theorem ob_eq (s : PySem.W.SharedT) : ob s = hk.obs s.abs := He.obsX_eq (HandSHeadRun.getT_eq s)
theorem run (w : World) : HandSHeadRun.RunEq R (PySem.W.view R.prog [58]) hk ob 6000 loose w := by
  intro os
  kernel_rfl
end K03
open PySem PySem.W PySem.Calls PyProof.Rows DL
theorem PySem.Challenge.cw_howeverdeep_k03_stands_and_steps_holds : PySem.Challenge.rw_howeverdeep_k03_stands_and_steps.Holds := by
  w_on; o_law
  refine HandSHeadRun.head_any (r := OpenLaw.row PySem.Challenge.rw_howeverdeep_k03_stands_and_steps) (q := view (OpenLaw.row PySem.Challenge.rw_howeverdeep_k03_stands_and_steps).prog [58]) (H := K03.hk) (ob := K03.ob) (M := 6000) (loose := K03.loose) (d := HandSHeadRun.topDef (OpenLaw.row PySem.Challenge.rw_howeverdeep_k03_stands_and_steps).prog 58) (kwd := []) K03.ob_eq
    (by kernel_rfl) (fun s => by kernel_rfl) K03.run (by kernel_rfl) (by kernel_rfl) (by kernel_rfl) (by rfl) (by first | assumption | decide +kernel) (by decide +kernel) ⟨rfl, rfl, rfl, rfl, rfl, by decide +kernel⟩ ?hw ?hc
  case hw => w_witness2
  case hc =>
    exact walkH (Df := K03.Df) (f := K03.f_law) rfl (by kernel_rfl) ⟨rfl, by decide, by decide⟩ (by kernel_rfl) rfl K03.checks (by kernel_rfl) K03.keeps fun w K mg h KX G c hx => facts_err KX G c rfl rfl hx K03.text rfl (by decide +kernel) K03.binds K03.glbs (by decide +kernel)
