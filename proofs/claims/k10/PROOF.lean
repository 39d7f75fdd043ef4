import PyProof.Rows.All
import Wide.All
import OpenK.AllK
import Wide.FinOn
import HandS.ForMost
import HandS.More
import HandS.TupAny
import HandS.TupLe
import HandS.Style
import HandS.IsInst
import HandS.Deep
import HandS.Conv
import HandS.ForExc
import HandS.Flow
import HandS.Zip
import PySem.Challenge.RW_worldsay_k10_sentences_written_and_read
set_option Elab.async false
set_option maxRecDepth 100000
set_option linter.all false
/-! The core language: plain values, a store of lists, a reckoner. -/
namespace Dp
open PySem

/-- plain values; ref n is the n-th object of the store; rl, rd, fn are the module's own things (or the script), never changed -/
inductive D where
  | non | bl (b : Bool) | int (i : Int) | str (cs : List Nat) | tup (xs : List D)
  | rl (xs : List D) | rd (ks vs : List D) | fn (i : Nat) | ref (n : Nat)
  deriving Inhabited, Repr

inductive O where
  | lst (xs : List D) | dct (kvs : List (D × D)) | ins (c : Nat) (fs : List (Nat × D))
  deriving Inhabited, Repr

abbrev Store := List O
abbrev Env := List (Option D)
structure Exn where
  cls : Nat
  fs : List (Nat × D)
  deriving Inhabited, Repr

inductive R (α : Type) where
  | ok (a : α) (S : Store) | exc (x : Exn) (S : Store) | err
  deriving Repr
def R.bind {α β : Type} (r : R α) (f : α → Store → R β) : R β :=
  match r with
  | .ok a S => f a S
  | .exc x S => .exc x S
  | .err => .err
/-- no exception -/
def R.nox {α : Type} : R α → R α
  | .ok a S => .ok a S
  | _ => .err
def R.of {α : Type} (S : Store) : Option α → R α
  | some a => .ok a S
  | none => .err

abbrev lim : Nat := 16777216
def alloc (o : O) (S : Store) : R D := .ok (.ref S.length) (S ++ [o])
def getL (S : Store) (n : Nat) : Option (List D) :=
  match S[n]? with
  | some (.lst xs) => some xs
  | _ => none

/-! ### operators -/
inductive BO where | add | sub | mul | fdiv | mod | pow | shr
  deriving DecidableEq, Repr
inductive CO where | eq | ne | lt | le | gt | ge | is_ | isnt | in_ | nin
  deriving DecidableEq, Repr

def small (i : Int) : Bool := decide (-(2 ^ 64) < i) && decide (i < 2 ^ 64)

def binD : BO → D → D → Store → R D
  | .add, .int a, .int b, S => .ok (.int (a + b)) S
  | .add, .str a, .str b, S => if a.length + b.length ≤ lim then .ok (.str (a ++ b)) S else .err
  | .add, .tup a, .tup b, S => if a.length + b.length ≤ lim then .ok (.tup (a ++ b)) S else .err
  | .add, .ref m, .ref n, S =>
    match getL S m, getL S n with
    | some a, some b => if a.length + b.length ≤ lim then alloc (.lst (a ++ b)) S else .err
    | _, _ => .err
  | .sub, .int a, .int b, S => .ok (.int (a - b)) S
  | .mul, .int a, .int b, S => if small a || small b then .ok (.int (a * b)) S else .err
  | .fdiv, .int a, .int b, S => if 0 < b ∧ b < 1073741824 then .ok (.int (a / b)) S else .err
  | .mod, .int a, .int b, S => if 0 < b then .ok (.int (a % b)) S else .err
  | .pow, .int a, .int b, S => if 0 ≤ b ∧ b ≤ 1000000 ∧ a.natAbs < 2 ^ 64 then .ok (.int (a ^ b.toNat)) S else .err
  | .shr, .int a, .int b, S => if 0 ≤ b then .ok (.int (a / 2 ^ b.toNat)) S else .err
  | _, _, _, _ => .err

def flat : D → Bool
  | .non | .bl _ | .int _ | .str _ => true
  | _ => false
@[simp] def b2 (b : Bool) : Int := if b then 1 else 0
/-- == of flat things -/
def feq : D → D → Bool
  | .non, .non => true
  | .bl a, .bl b => a == b
  | .bl a, .int b => b2 a == b
  | .int a, .bl b => a == b2 b
  | .int a, .int b => a == b
  | .str a, .str b => a == b
  | _, _ => false

/-- data as the library has it; lists by the store -/
def pd (S : Store) : Nat → D → Option PyData
  | _, .non => some .none
  | _, .bl b => some (.bool b)
  | _, .int i => some (.int i)
  | _, .str cs => some (.str ⟨cs.toArray⟩)
  | n + 1, .tup xs => (xs.mapM (pd S n)).map .tuple
  | n + 1, .rl xs => (xs.mapM (pd S n)).map .list
  | n + 1, .ref r =>
    match S[r]? with
    | some (.lst xs) => (xs.mapM (pd S n)).map .list
    | _ => none
  | _, _ => none
def deq (S : Store) (a b : D) : Option Bool :=
  if flat a && flat b then some (feq a b)
  else match pd S 66 a, pd S 66 b with
    | some x, some y => if SeqAt.shaped x && SeqAt.shaped y then some (PyData.eqv x y) else none
    | _, _ => none

def lexN : List Nat → List Nat → Bool
  | _, [] => false
  | [], _ :: _ => true
  | x :: xs, y :: ys => if x = y then lexN xs ys else decide (x < y)
@[simp] def intsOf : List D → Option (List Int)
  | [] => some []
  | .int i :: r => (intsOf r).map (i :: ·)
  | _ => none
@[simp] def strsOf : List D → Option (List (List Nat))
  | [] => some []
  | .str i :: r => (strsOf r).map (i :: ·)
  | _ => none
@[simp] def blsOf : List D → Option (List Bool)
  | [] => some []
  | .bl i :: r => (blsOf r).map (i :: ·)
  | _ => none
def dlt : D → D → Option Bool
  | .int a, .int b => some (decide (a < b))
  | .str a, .str b => some (lexN a b)
  | .tup a, .tup b =>
    match intsOf a, intsOf b with
    | some x, some y => some (HT.lexLt x y)
    | _, _ => none
  | _, _ => none
/-- items of a list, a tuple -/
def seqOf (S : Store) : D → Option (List D)
  | .tup xs => some xs
  | .rl xs => some xs
  | .ref n => getL S n
  | _ => none
def anyEq (S : Store) (a : D) : List D → Option Bool
  | [] => some false
  | y :: r => match deq S y a with
    | some true => some true
    | some false => anyEq S a r
    | none => none
def keyOk : D → Bool
  | .str _ => true
  | _ => false
@[simp] def dget (k : D) : List D → List D → Option D
  | x :: xs, v :: vs => if feq x k then some v else dget k xs vs
  | _, _ => none
/-- in, by data -/
def dinP : Option PyData → Option PyData → Option Bool
  | some x, some (.tuple ys) => if SeqAt.shaped x && SeqAt.shaped (.tuple ys) then some (ys.any fun y => PyData.eqv y x) else none
  | some x, some (.list ys) => if SeqAt.shaped x && SeqAt.shaped (.list ys) then some (ys.any fun y => PyData.eqv y x) else none
  | _, _ => none
def dinD (S : Store) (a : D) : D → Option Bool
  | .str cs => match a with
    | .str [c] => some (decide (c ∈ cs))
    | _ => none
  | .rd ks vs => if keyOk a then some (dget a ks vs).isSome else none
  | b => match seqOf S b with
    | some xs => if flat a && xs.all flat then some (xs.any fun y => feq y a) else dinP (pd S 66 a) (pd S 66 b)
    | none => none
def cmpD : CO → D → D → Store → Option Bool
  | .eq, a, b, S => deq S a b
  | .ne, a, b, S => (deq S a b).map (!·)
  | .lt, a, b, _ => dlt a b
  | .le, .int a, .int b, _ => some (decide (a ≤ b))
  | .le, .str a, .str b, _ => some (!lexN b a)
  | .gt, .int a, .int b, _ => some (decide (b < a))
  | .gt, .str a, .str b, _ => some (lexN b a)
  | .ge, .int a, .int b, _ => some (decide (b ≤ a))
  | .is_, .bl a, .bl b, _ => some (a == b)
  | .isnt, .bl a, .bl b, _ => some (!(a == b))
  | .is_, .non, .non, _ => some true
  | .is_, .bl _, .non, _ => some false
  | .is_, .int _, .non, _ => some false
  | .is_, .str _, .non, _ => some false
  | .is_, .tup _, .non, _ => some false
  | .is_, .ref _, .non, _ => some false
  | .isnt, .non, .non, _ => some false
  | .isnt, .bl _, .non, _ => some true
  | .isnt, .int _, .non, _ => some true
  | .isnt, .str _, .non, _ => some true
  | .isnt, .tup _, .non, _ => some true
  | .isnt, .ref _, .non, _ => some true
  | .in_, a, b, S => dinD S a b
  | .nin, a, b, S => (dinD S a b).map (!·)
  | _, _, _, _ => none

def truth (S : Store) : D → Option Bool
  | .non => some false
  | .bl b => some b
  | .int i => some (i != 0)
  | .str cs => if cs.length ≤ lim then some (!cs.isEmpty) else none
  | .tup xs => some (!xs.isEmpty)
  | .rl xs => some (!xs.isEmpty)
  | .ref n => (getL S n).map fun xs => !xs.isEmpty
  | _ => none

def idxD (S : Store) : D → D → Option D
  | .tup xs, .int i => L2.atI xs i
  | .rl xs, .int i => L2.atI xs i
  | .str cs, .int i => if cs.length ≤ lim then (L2.atI cs i).map fun c => .str [c] else none
  | .ref n, .int i => (getL S n).bind fun xs => L2.atI xs i
  | .rd ks vs, k => if keyOk k then dget k ks vs else none
  | _, _ => none

def cut {α : Type} (xs : List α) (lo hi : Option Int) : List α := (xs.drop (HT.sIx xs.length 0 lo)).take (HT.sIx xs.length xs.length hi - HT.sIx xs.length 0 lo)
def slcD (S : Store) : D → Option Int → Option Int → R D
  | .tup xs, lo, hi => .ok (.tup (cut xs lo hi)) S
  | .str cs, lo, hi => if cs.length ≤ lim then .ok (.str (cut cs lo hi)) S else .err
  | .ref n, lo, hi =>
    match getL S n with
    | some xs => alloc (.lst (cut xs lo hi)) S
    | none => .err
  | _, _, _ => .err

/-! ### built-in functions and methods -/
inductive Ty where | int | str | bool | tuple | list | dict
  deriving DecidableEq, Repr
def isTy (S : Store) : D → Ty → Option Bool
  | .non, _ => some false
  | .bl _, t => some (t == .bool || t == .int)
  | .int _, t => some (t == .int)
  | .str _, t => some (t == .str)
  | .tup _, t => some (t == .tuple)
  | .rl _, t => some (t == .list)
  | .rd _ _, t => some (t == .dict)
  | .fn _, _ => none
  | .ref n, t => match S[n]? with
    | some (.lst _) => some (t == .list)
    | some (.dct _) => some (t == .dict)
    | _ => none
inductive BI where | len | list | tuple | all | any | sum | int | str | isa (t : Ty) | isa2 (t u : Ty) | abs | max | min | sorted
  deriving DecidableEq, Repr
def numL (n : Nat) : List Nat := (Nat.toDigits 10 n).map Char.toNat
def numI (i : Int) : List Nat := match i with
  | .ofNat n => numL n
  | .negSucc n => 45 :: numL (n + 1)
def biD : BI → List D → Store → R D
  | .len, [.str cs], S => if cs.length ≤ lim then .ok (.int cs.length) S else .err
  | .len, [d], S => match seqOf S d with
    | some xs => .ok (.int xs.length) S
    | none => .err
  | .list, [.rd ks _], S => if ks.length ≤ lim then alloc (.lst ks) S else .err
  | .list, [d], S => match seqOf S d with
    | some xs => alloc (.lst xs) S
    | none => .err
  | .tuple, [d], S => match seqOf S d with
    | some xs => .ok (.tup xs) S
    | none => .err
  | .all, [.ref n], S => match (getL S n).bind blsOf with
    | some bs => .ok (.bl (bs.all id)) S
    | none => .err
  | .any, [.ref n], S => match (getL S n).bind blsOf with
    | some bs => .ok (.bl (bs.any id)) S
    | none => .err
  | .sum, [.ref n], S => match (getL S n).bind intsOf with
    | some is => .ok (.int is.sum) S
    | none => .err
  | .int, [.bl b], S => .ok (.int (b2 b)) S
  | .int, [.int i], S => .ok (.int i) S
  | .isa t, [d], S => match isTy S d t with
    | some b => .ok (.bl b) S
    | none => .err
  | .isa2 t u, [d], S => match isTy S d t, isTy S d u with
    | some b, some c => .ok (.bl (b || c)) S
    | _, _ => .err
  | _, _, _ => .err
inductive MT where | append | extend | pop | join | split | reverse | clear | get | index
  deriving DecidableEq, Repr
def joinL (sep : List Nat) : List (List Nat) → List Nat
  | [] => []
  | [x] => x
  | x :: y :: r => x ++ sep ++ joinL sep (y :: r)
def spl1 (s : Nat) : List Nat → List Nat → List (List Nat)
  | acc, [] => [acc]
  | acc, c :: r => if c = s then acc :: spl1 s [] r else spl1 s (acc ++ [c]) r
def mtD : MT → D → List D → Store → R D
  | .append, .ref n, [d], S => match getL S n with
    | some xs => if xs.length < lim then .ok .non (S.set n (.lst (xs ++ [d]))) else .err
    | none => .err
  | .extend, .ref n, [.ref m], S => match getL S n, getL S m with
    | some xs, some ys => if xs.length + ys.length ≤ lim then .ok .non (S.set n (.lst (xs ++ ys))) else .err
    | _, _ => .err
  | .pop, .ref n, [], S => match getL S n with
    | some xs => match xs[xs.length - 1]? with
      | some d => .ok d (S.set n (.lst xs.dropLast))
      | none => .err
    | none => .err
  | .reverse, .ref n, [], S => match getL S n with
    | some xs => .ok .non (S.set n (.lst xs.reverse))
    | none => .err
  | .clear, .ref n, [], S => match getL S n with
    | some _ => .ok .non (S.set n (.lst []))
    | none => .err
  | .join, .str sep, [d], S => match (seqOf S d).bind strsOf with
    | some ys => if (ys.map (·.length)).sum + ys.length * sep.length ≤ lim then .ok (.str (joinL sep ys)) S else .err
    | none => .err
  | .split, .str cs, [.str [c]], S => if cs.length + 2 ≤ lim ∧ c < 256 then alloc (.lst ((spl1 c [] cs).map .str)) S else .err
  | _, _, _, _ => .err

/-- the receiver's kind -/
def mtOk (m : MT) (S : Store) : D → Bool
  | .str _ => m == .join || m == .split
  | .ref n => !(m == .join || m == .split) && (getL S n).isSome
  | _ => false

/-! ### the language -/
inductive Tg where
  | one (i : Nat) | many (is : List Nat)
  deriving DecidableEq, Repr
mutual
inductive Ex where
  | lit (d : D) | var (i : Nat)
  | bin (o : BO) (a b : Ex) | neg (a : Ex) | not (a : Ex) | and (a b : Ex) | or (a b : Ex)
  | cmp (o : CO) (a b : Ex) | chain (o p : CO) (a b c : Ex) | ite (c a b : Ex)
  | idx (a b : Ex) | slc (a : Ex) (lo hi : Ox)
  | tup (es : Exs) | lst (es : Exs)
  | call (f : Nat) (es : Exs) | bi (b : BI) (es : Exs) | mt (m : MT) (o : Ex) (es : Exs)
  | comp (elt : Ex) (tg : Tg) (it : Ix) (cond : Ox) (own : List Nat)
inductive Exs where
  | nil | cons (e : Ex) (es : Exs)
inductive Ox where
  | none | some (e : Ex)
inductive Ix where
  | val (e : Ex) | rng1 (a : Ex) | rng2 (a b : Ex) | rng3 (a b c : Ex) | zip (a b : Ex) | enum (a : Ex)
end
mutual
inductive Sm where
  | expr (e : Ex) | asg (tg : Tg) (e : Ex) | seti (o i e : Ex)
  | ret (e : Ex) | retn | ife (c : Ex) (a b : Sms) | whl (c : Ex) (b : Sms) | for_ (tg : Tg) (it : Ix) (b : Sms)
  | brk | pass | never
inductive Sms where
  | nil | cons (s : Sm) (r : Sms)
end

/-- what a statement ends with -/
inductive ER where
  | nx (env : Env) (S : Store) | bk (env : Env) (S : Store) | ct (env : Env) (S : Store)
  | rt (d : D) (S : Store) | xc (x : Exn) (env : Env) (S : Store) | err
def R.ex (r : R D) (env : Env) (f : D → Store → ER) : ER :=
  match r with
  | .ok a S => f a S
  | .exc x S => .xc x env S
  | .err => .err

structure Itr where
  max : Nat
  get : Nat → Store → Option (Option D)
def itSeq (S : Store) : D → Option Itr
  | .tup xs => some ⟨xs.length, fun i _ => some xs[i]?⟩
  | .rl xs => some ⟨xs.length, fun i _ => some xs[i]?⟩
  | .ref n => match getL S n with
    | some xs => some ⟨xs.length, fun i S' => (getL S' n).map fun ys => ys[i]?⟩
    | none => none
  | _ => none
def itVal (S : Store) : D → Option Itr
  | .str cs => some ⟨cs.length, fun i _ => some (cs[i]?.map fun c => .str [c])⟩
  | d => itSeq S d
def okI (i : Int) : Bool := decide (-(2 ^ 62) ≤ i) && decide (i < 2 ^ 62)
def itUp (lo hi : Int) : Option Itr :=
  if okI lo && okI hi then some ⟨(hi - lo).toNat, fun i _ => some (if i < (hi - lo).toNat then some (.int (lo + (i : Nat))) else none)⟩ else none
def itDown (hi lo : Int) : Option Itr :=
  if okI lo && okI hi then some ⟨(hi - lo).toNat, fun i _ => some (if i < (hi - lo).toNat then some (.int (hi + (i : Nat) * -1)) else none)⟩ else none
def itZip (a b : Itr) : Itr := ⟨min a.max b.max, fun i S =>
  match a.get i S, b.get i S with
  | some (some x), some (some y) => some (some (.tup [x, y]))
  | some _, some _ => some none
  | _, _ => none⟩
def itZ2 (S : Store) : D → D → Option Itr
  | .tup a, .tup b => match itSeq S (.tup a), itSeq S (.tup b) with
    | some I, some J => some (itZip I J)
    | _, _ => none
  | .ref a, .ref b => match itSeq S (.ref a), itSeq S (.ref b) with
    | some I, some J => some (itZip I J)
    | _, _ => none
  | _, _ => none
def itEnum (a : Itr) : Itr := ⟨a.max, fun i S => (a.get i S).map fun o => o.map fun d => .tup [.int (i : Nat), d]⟩
def itE2 (S : Store) : D → Option Itr
  | .ref a => (itSeq S (.ref a)).map itEnum
  | _ => none

def asgT : Tg → D → Env → Option Env
  | .one i, d, env => some (env.set i (some d))
  | .many is, .tup ds, env => if is.length = ds.length then some ((is.zip ds).foldl (fun e p => e.set p.1 (some p.2)) env) else none
  | _, _, _ => none

/-- a loop's turns -/
def forGo (get : Nat → Store → Option (Option D)) (body : D → Env → Store → ER) : Nat → Nat → Env → Store → ER
  | 0, i, env, S => match get i S with
    | some none => .nx env S
    | _ => .err
  | k + 1, i, env, S => match get i S with
    | none => .err
    | some none => .nx env S
    | some (some d) => match body d env S with
      | .nx e S' => forGo get body k (i + 1) e S'
      | .ct e S' => forGo get body k (i + 1) e S'
      | .bk e S' => .nx e S'
      | r => r
/-- a comprehension's turns: what is made so far -/
def compGo (get : Nat → Store → Option (Option D)) (turn : D → Store → R (Option D)) : Nat → Nat → List D → Store → R (List D)
  | 0, i, acc, S => match get i S with
    | some none => .ok acc S
    | _ => .err
  | k + 1, i, acc, S => match get i S with
    | none => .err
    | some none => .ok acc S
    | some (some d) => (turn d S).bind fun o S' => match o with
      | some x => if acc.length < lim then compGo get turn k (i + 1) (acc ++ [x]) S' else .err
      | none => compGo get turn k (i + 1) acc S'
def whileGo (test : Env → Store → R D) (body : Env → Store → ER) : Nat → Env → Store → ER
  | 0, _, _ => .err
  | k + 1, env, S => (test env S).ex env fun d S1 => match truth S1 d with
    | none => .err
    | some false => .nx env S1
    | some true => match body env S1 with
      | .nx e S' => whileGo test body k e S'
      | .ct e S' => whileGo test body k e S'
      | .bk e S' => .nx e S'
      | r => r

@[simp] def wipeE (env : Env) : List Nat → Env
  | [] => env
  | v :: vs => (wipeE env vs).set v none

section
variable (cl : Nat → List D → Store → R D) (fuel : Nat)
mutual
@[simp] def ev : Ex → Env → Store → R D
  | .lit d, _, S => .ok d S
  | .var i, env, S => R.of S (env[i]?.join)
  | .bin o a b, env, S => (ev a env S).bind fun x S1 => (ev b env S1).bind fun y S2 => binD o x y S2
  | .neg a, env, S => (ev a env S).bind fun x S1 => match x with
    | .int i => .ok (.int (-i)) S1
    | _ => .err
  | .not a, env, S => (ev a env S).bind fun x S1 => match truth S1 x with
    | some b => .ok (.bl (!b)) S1
    | none => .err
  | .and a b, env, S => (ev a env S).bind fun x S1 => match truth S1 x with
    | some true => ev b env S1
    | some false => .ok x S1
    | none => .err
  | .or a b, env, S => (ev a env S).bind fun x S1 => match truth S1 x with
    | some true => .ok x S1
    | some false => ev b env S1
    | none => .err
  | .cmp o a b, env, S => (ev a env S).bind fun x S1 => (ev b env S1).bind fun y S2 => (R.of S2 (cmpD o x y S2)).bind fun k S3 => .ok (.bl k) S3
  | .chain o p a b c, env, S => (ev a env S).bind fun x S1 => (ev b env S1).bind fun y S2 => match cmpD o x y S2 with
    | some true => (ev c env S2).bind fun z S3 => (R.of S3 (cmpD p y z S3)).bind fun k S4 => .ok (.bl k) S4
    | some false => .ok (.bl false) S2
    | none => .err
  | .ite c a b, env, S => (ev c env S).bind fun x S1 => match truth S1 x with
    | some true => ev a env S1
    | some false => ev b env S1
    | none => .err
  | .idx a b, env, S => (ev a env S).bind fun x S1 => (ev b env S1).bind fun y S2 => R.of S2 (idxD S2 x y)
  | .slc a lo hi, env, S => (ev a env S).bind fun x S1 => (evO lo env S1).bind fun l S2 => (evO hi env S2).bind fun h S3 => slcD S3 x l h
  | .tup es, env, S => (evs es env S).bind fun xs S1 => if xs.length ≤ lim then .ok (.tup xs) S1 else .err
  | .lst es, env, S => (evs es env S).bind fun xs S1 => if xs.length ≤ lim then alloc (.lst xs) S1 else .err
  | .call f es, env, S => (evs es env S).bind fun xs S1 => cl f xs S1
  | .bi b es, env, S => (evs es env S).bind fun xs S1 => biD b xs S1
  | .mt m o es, env, S => (ev o env S).bind fun x S1 => if mtOk m S1 x then (evs es env S1).bind fun xs S2 => mtD m x xs S2 else .err
  | .comp elt tg it cond own, env, S => (evI it env S).bind fun I S1 =>
      (compGo I.get (fun d S2 => match asgT tg d (wipeE env own) with
        | none => .err
        | some env2 => ((evC cond env2 S2).bind fun b S3 => if b then (ev elt env2 S3).bind fun x S4 => .ok (some x) S4 else .ok none S3).nox) I.max 0 [] S1).bind fun xs S2 => alloc (.lst xs) S2
@[simp] def evs : Exs → Env → Store → R (List D)
  | .nil, _, S => .ok [] S
  | .cons e es, env, S => (ev e env S).bind fun x S1 => (evs es env S1).bind fun xs S2 => .ok (x :: xs) S2
/-- a slice's bound -/
@[simp] def evO : Ox → Env → Store → R (Option Int)
  | .none, _, S => .ok none S
  | .some e, env, S => (ev e env S).bind fun x S1 => match x with
    | .int i => .ok (some i) S1
    | _ => .err
/-- a comprehension's test -/
@[simp] def evC : Ox → Env → Store → R Bool
  | .none, _, S => .ok true S
  | .some e, env, S => (ev e env S).bind fun x S1 => R.of S1 (truth S1 x)
@[simp] def evI : Ix → Env → Store → R Itr
  | .val e, env, S => (ev e env S).bind fun x S1 => R.of S1 (itVal S1 x)
  | .rng1 a, env, S => (ev a env S).bind fun x S1 => match x with
    | .int j => R.of S1 (itUp 0 j)
    | _ => .err
  | .rng2 a b, env, S => (ev a env S).bind fun x S1 => (ev b env S1).bind fun y S2 => match x, y with
    | .int i, .int j => R.of S2 (itUp i j)
    | _, _ => .err
  | .rng3 a b c, env, S => (ev a env S).bind fun x S1 => (ev b env S1).bind fun y S2 => (ev c env S2).bind fun z S3 => match x, y, z with
    | .int i, .int j, .int k => if k = -1 then R.of S3 (itDown i j) else .err
    | _, _, _ => .err
  | .zip a b, env, S => (ev a env S).bind fun x S1 => (ev b env S1).bind fun y S2 => R.of S2 (itZ2 S2 x y)
  | .enum a, env, S => (ev a env S).bind fun x S1 => R.of S1 (itE2 S1 x)
end
mutual
@[simp] def exec : Sm → Env → Store → ER
  | .expr e, env, S => (ev cl e env S).ex env fun _ S1 => .nx env S1
  | .asg tg e, env, S => (ev cl e env S).ex env fun d S1 => match asgT tg d env with
    | some env' => .nx env' S1
    | none => .err
  | .seti o i e, env, S => (ev cl e env S).ex env fun d S1 => (ev cl o env S1).ex env fun x S2 => (ev cl i env S2).ex env fun y S3 => match x, y with
    | .ref n, .int k => match getL S3 n with
      | some xs => match L2.ixN xs.length k with
        | some j => .nx env (S3.set n (.lst (xs.set j d)))
        | none => .err
      | none => .err
    | _, _ => .err
  | .ret e, env, S => (ev cl e env S).ex env fun d S1 => .rt d S1
  | .retn, _, S => .rt .non S
  | .ife c a b, env, S => (ev cl c env S).ex env fun d S1 => match truth S1 d with
    | some true => execs a env S1
    | some false => execs b env S1
    | none => .err
  | .whl c b, env, S => whileGo (ev cl c) (execs b) fuel env S
  | .for_ tg it b, env, S => match evI cl it env S with
    | .ok I S1 => forGo I.get (fun d e S2 => match asgT tg d e with
        | some e' => execs b e' S2
        | none => .err) I.max 0 env S1
    | .exc x S1 => .xc x env S1
    | .err => .err
  | .brk, env, S => .bk env S
  | .pass, env, S => .nx env S
  | .never, _, _ => .err
@[simp] def execs : Sms → Env → Store → ER
  | .nil, env, S => .nx env S
  | .cons s r, env, S => match exec s env S with
    | .nx e S1 => execs r e S1
    | q => q
end
end

/-- a def: how many parameters, how many slots, its body -/
structure Fn where
  ps : Nat
  sl : Nat
  body : Sms
def ER.ret : ER → R D
  | .nx _ S => .ok .non S
  | .rt d S => .ok d S
  | .xc x _ S => .exc x S
  | _ => .err
/-- calls, so deep at most -/
def callN (fns : List Fn) (fuel : Nat) : Nat → Nat → List D → Store → R D
  | 0, _, _, _ => .err
  | n + 1, f, ds, S => match fns[f]? with
    | some F => if ds.length = F.ps then (execs (callN fns fuel n) fuel F.body (ds.map some ++ List.replicate (F.sl - F.ps) none) S).ret else .err
    | none => .err
end Dp

set_option Elab.async false
set_option maxRecDepth 100000
set_option linter.all false
set_option maxHeartbeats 4000000
/-! The core's things and HandS's. -/
namespace Dp
theorem nodup_ix' {l : List PySem.Addr} (h : l.Nodup) {i j : Nat} {x : PySem.Addr} (a : l[i]? = some x) (b : l[j]? = some x) : i = j := by
  obtain ⟨h1, e1⟩ := List.getElem?_eq_some_iff.mp a
  obtain ⟨h2, e2⟩ := List.getElem?_eq_some_iff.mp b
  exact (List.getElem_inj h).mp (e1.trans e2.symm)
end Dp
namespace Dp
open PySem PySem.Spec PyProof.Rows L2

/-- what the module has: its written part, the world, the functions' addresses, the exceptions' classes, the fields' names -/
structure MC where
  K : PySem.W.Frag
  w : World
  fa : Nat → Addr
  xa : Nat → Addr
  nm : Nat → Str

/-- a list of the module or the script, never changed -/
def SqR (K : PySem.W.Frag) (H : Hp) (a : Addr) (vs : List V) : Prop := (∃ o, H a = some (.frz o (.lst vs))) ∨ SqL K (fun _ => none) a vs
theorem SqR.sq {K : PySem.W.Frag} {H : Hp} {a : Addr} {vs : List V} (h : SqR K H a vs) : SqL K H a vs := by
  rcases h with ⟨o, h⟩ | ((h | ⟨o, h⟩) | h)
  · exact .inl (.inr ⟨o, h⟩)
  · cases h
  · cases h
  · exact .inr h

mutual
inductive RV (C : MC) (ι : List Addr) (H : Hp) : D → V → Prop where
  | non : RV C ι H .non .non
  | bl (b : Bool) : RV C ι H (.bl b) (.bl b)
  | int (i : Int) : RV C ι H (.int i) (.int i)
  | str (cs : List Nat) : RV C ι H (.str cs) (.str ⟨cs.toArray⟩)
  | tup {a : Addr} {vs : List V} {ds : List D} : SqT C.K H a vs → RVs C ι H ds vs → RV C ι H (.tup ds) (.ref a)
  | rl {a : Addr} {vs : List V} {ds : List D} : SqR C.K H a vs → RVs C ι H ds vs → RV C ι H (.rl ds) (.ref a)
  | rd {a : Addr} {es : Array DictEntry} {n : Nat} {ks ds : List D} : KDict C.K C.w a es n → REs C ι H es.toList ks ds → RV C ι H (.rd ks ds) (.ref a)
  | fn (i : Nat) : RV C ι H (.fn i) (.ref (C.fa i))
  | ref {n : Nat} {a : Addr} : ι[n]? = some a → RV C ι H (.ref n) (.ref a)
inductive RVs (C : MC) (ι : List Addr) (H : Hp) : List D → List V → Prop where
  | nil : RVs C ι H [] []
  | cons {d : D} {ds : List D} {v : V} {vs : List V} : RV C ι H d v → RVs C ι H ds vs → RVs C ι H (d :: ds) (v :: vs)
inductive REs (C : MC) (ι : List Addr) (H : Hp) : List DictEntry → List D → List D → Prop where
  | nil : REs C ι H [] [] []
  | cons {e : DictEntry} {es : List DictEntry} {x : List Nat} {d : D} {v : V} {ks ds : List D} : RelV (.str ⟨x.toArray⟩) e.key → RelV v e.val → RV C ι H d v → REs C ι H es ks ds → REs C ι H (e :: es) (.str x :: ks) (d :: ds)
end

def ObjR (C : MC) (ι : List Addr) (H : Hp) (a : Addr) : O → Prop
  | .lst xs => ∃ vs, H a = some (.lst vs) ∧ RVs C ι H xs vs
  | _ => False

structure Rel (C : MC) (ι : List Addr) (S : Store) (H : Hp) : Prop where
  len : ι.length = S.length
  nd : ι.Nodup
  obj : ∀ (n : Nat) (o : O), S[n]? = some o → ∃ a, ι[n]? = some a ∧ ObjR C ι H a o

/-- how the heap may go on -/
structure Grow (ι : List Addr) (H : Hp) (ι' : List Addr) (H' : Hp) : Prop where
  pre : ∃ t, ι' = ι ++ t
  new : ∀ a ∈ ι', a ∉ ι → H a = none
  frame : ∀ a o, a ∉ ι → H a = some o → H' a = some o

section
variable {C : MC} {ι ι' ι1 ι2 : List Addr} {H H' H1 H2 : Hp} {S S' : Store} {a p : Addr}

theorem Grow.refl : Grow ι H ι H := ⟨⟨[], by simp⟩, fun a h n => absurd h n, fun _ _ _ h => h⟩
theorem Grow.trans (g : Grow ι H ι1 H1) (k : Grow ι1 H1 ι2 H2) : Grow ι H ι2 H2 := by
  obtain ⟨t, rfl⟩ := g.pre
  obtain ⟨u, rfl⟩ := k.pre
  have kn : ∀ a o, a ∉ ι → H a = some o → a ∉ ι ++ t := fun a o n e m => by
    rw [g.new a m n] at e; cases e
  refine ⟨⟨t ++ u, by simp⟩, fun a m n => ?_, fun a o n e => k.frame a o (kn a o n e) (g.frame a o n e)⟩
  by_cases h : a ∈ ι ++ t
  · exact g.new a h n
  · cases e : H a with
    | none => rfl
    | some o =>
      have e1 := g.frame a o n e
      rw [k.new a m h] at e1; cases e1
theorem Grow.get {n : Nat} (g : Grow ι H ι' H') (h : ι[n]? = some a) : ι'[n]? = some a := by
  obtain ⟨t, rfl⟩ := g.pre
  have hn : n < ι.length := (List.getElem?_eq_some_iff.mp h).1
  rw [List.getElem?_append_left hn]; exact h

theorem Rel.there (R : Rel C ι S H) (h : a ∈ ι) : ∃ vs, H a = some (.lst vs) := by
  obtain ⟨n, hn, rfl⟩ := List.getElem_of_mem h
  have hs : n < S.length := by rw [← R.len]; exact hn
  obtain ⟨a, e, o⟩ := R.obj n S[n] (List.getElem?_eq_getElem hs)
  rw [List.getElem?_eq_getElem hn] at e
  cases e
  cases q : S[n] with
  | lst xs => rw [q] at o; obtain ⟨vs, h, _⟩ := o; exact ⟨vs, h⟩
  | dct _ => rw [q] at o; exact o.elim
  | ins _ _ => rw [q] at o; exact o.elim
theorem Rel.out {u : HO} (R : Rel C ι S H) (h : H a = some u) (hu : ∀ vs, u ≠ .lst vs) : a ∉ ι := fun m => by
  obtain ⟨vs, e⟩ := R.there m
  rw [h] at e; cases e
  exact hu vs rfl
theorem Rel.fresh (R : Rel C ι S H) (h : H p = none) : p ∉ ι := fun m => by
  obtain ⟨vs, e⟩ := R.there m
  rw [h] at e; cases e
theorem Grow.tup (R : Rel C ι S H) (g : Grow ι H ι' H') {vs : List V} (h : SqT C.K H a vs) : SqT C.K H' a vs := by
  rcases h with (h | ⟨o, h⟩) | h
  · exact .inl (.inl (g.frame a _ (R.out h (by intro vs e; cases e)) h))
  · exact .inl (.inr ⟨o, g.frame a _ (R.out h (by intro vs e; cases e)) h⟩)
  · exact .inr h
theorem Grow.sqr (R : Rel C ι S H) (g : Grow ι H ι' H') {vs : List V} (h : SqR C.K H a vs) : SqR C.K H' a vs := by
  rcases h with ⟨o, h⟩ | h
  · exact .inl ⟨o, g.frame a _ (R.out h (by intro vs e; cases e)) h⟩
  · exact .inr h
mutual
theorem RV.mono (R : Rel C ι S H) (g : Grow ι H ι' H') : ∀ {d : D} {v : V}, RV C ι H d v → RV C ι' H' d v
  | _, _, .non => .non
  | _, _, .bl b => .bl b
  | _, _, .int i => .int i
  | _, _, .str x => .str x
  | _, _, .tup h hs => .tup (g.tup R h) (RVs.mono R g hs)
  | _, _, .rl h hs => .rl (g.sqr R h) (RVs.mono R g hs)
  | _, _, .rd h hs => .rd h (REs.mono R g hs)
  | _, _, .fn i => .fn i
  | _, _, .ref h => .ref (g.get h)
theorem RVs.mono (R : Rel C ι S H) (g : Grow ι H ι' H') : ∀ {ds : List D} {vs : List V}, RVs C ι H ds vs → RVs C ι' H' ds vs
  | _, _, .nil => .nil
  | _, _, .cons h hs => .cons (RV.mono R g h) (RVs.mono R g hs)
theorem REs.mono (R : Rel C ι S H) (g : Grow ι H ι' H') : ∀ {es : List DictEntry} {ks ds : List D}, REs C ι H es ks ds → REs C ι' H' es ks ds
  | _, _, _, .nil => .nil
  | _, _, _, .cons a b h hs => .cons a b (RV.mono R g h) (REs.mono R g hs)
end
theorem RVs.len : ∀ {ds : List D} {vs : List V}, RVs C ι H ds vs → ds.length = vs.length
  | _, _, .nil => rfl
  | _, _, .cons _ t => by simp [RVs.len t]
theorem RVs.get : ∀ {ds : List D} {vs : List V} {i : Nat} {d : D}, RVs C ι H ds vs → ds[i]? = some d → ∃ v, vs[i]? = some v ∧ RV C ι H d v
  | _, _, _, _, .nil, e => by simp at e
  | _, _, 0, _, .cons r _, e => by simp at e; subst e; exact ⟨_, rfl, r⟩
  | _, _, i + 1, _, .cons _ t, e => by
    obtain ⟨v, h1, h2⟩ := RVs.get (i := i) t (by simpa using e)
    exact ⟨v, by simpa using h1, h2⟩
theorem RVs.getV {ds : List D} {vs : List V} {i : Nat} {v : V} (h : RVs C ι H ds vs) (e : vs[i]? = some v) : ∃ d, ds[i]? = some d ∧ RV C ι H d v := by
  have hl : i < ds.length := by rw [h.len]; exact (List.getElem?_eq_some_iff.mp e).1
  obtain ⟨v', e', r⟩ := h.get (List.getElem?_eq_getElem hl)
  rw [e] at e'; cases e'
  exact ⟨_, List.getElem?_eq_getElem hl, r⟩
theorem RVs.append : ∀ {ds es : List D} {vs ws : List V}, RVs C ι H ds vs → RVs C ι H es ws → RVs C ι H (ds ++ es) (vs ++ ws)
  | _, _, _, _, .nil, s => s
  | _, _, _, _, .cons r t, s => .cons r (RVs.append t s)
theorem RVs.one {d : D} {v : V} (h : RV C ι H d v) : RVs C ι H [d] [v] := .cons h .nil
theorem RVs.take : ∀ {ds : List D} {vs : List V} (n : Nat), RVs C ι H ds vs → RVs C ι H (ds.take n) (vs.take n)
  | _, _, 0, _ => .nil
  | _, _, _ + 1, .nil => .nil
  | _, _, n + 1, .cons r t => .cons r (RVs.take n t)
theorem RVs.drop : ∀ {ds : List D} {vs : List V} (n : Nat), RVs C ι H ds vs → RVs C ι H (ds.drop n) (vs.drop n)
  | _, _, 0, r => r
  | _, _, _ + 1, .nil => .nil
  | _, _, n + 1, .cons _ t => RVs.drop n t
theorem RVs.set {d : D} {v : V} (r : RV C ι H d v) : ∀ {ds : List D} {vs : List V} (i : Nat), RVs C ι H ds vs → RVs C ι H (ds.set i d) (vs.set i v)
  | _, _, _, .nil => .nil
  | _, _, 0, .cons _ t => .cons r t
  | _, _, i + 1, .cons q t => .cons q (RVs.set r i t)
theorem RVs.dropLast : ∀ {ds : List D} {vs : List V}, RVs C ι H ds vs → RVs C ι H ds.dropLast vs.dropLast
  | _, _, .nil => .nil
  | _, _, .cons _ .nil => .nil
  | _, _, .cons r (.cons q t) => .cons r (RVs.dropLast (.cons q t))
theorem RVs.reverse : ∀ {ds : List D} {vs : List V}, RVs C ι H ds vs → RVs C ι H ds.reverse vs.reverse
  | _, _, .nil => .nil
  | _, _, .cons r t => by rw [List.reverse_cons, List.reverse_cons]; exact (RVs.reverse t).append (.one r)
theorem RVs.ints : ∀ {ds : List D} {vs : List V} {is : List Int}, RVs C ι H ds vs → intsOf ds = some is → vs = is.map V.int
  | _, _, is, .nil, e => by simp [intsOf] at e; subst e; rfl
  | d :: ds, _, is, .cons r t, e => by
    cases d <;> simp [intsOf] at e
    obtain ⟨js, h, rfl⟩ := e
    cases r
    rw [RVs.ints t h]; rfl
theorem RVs.strs : ∀ {ds : List D} {vs : List V} {is : List (List Nat)}, RVs C ι H ds vs → strsOf ds = some is → vs = (is.map fun x => (⟨x.toArray⟩ : Str)).map V.str
  | _, _, is, .nil, e => by simp [strsOf] at e; subst e; rfl
  | d :: ds, _, is, .cons r t, e => by
    cases d <;> simp [strsOf] at e
    obtain ⟨js, h, rfl⟩ := e
    cases r
    rw [RVs.strs t h]; rfl
theorem RVs.bls : ∀ {ds : List D} {vs : List V} {is : List Bool}, RVs C ι H ds vs → blsOf ds = some is → vs = is.map V.bl
  | _, _, is, .nil, e => by simp [blsOf] at e; subst e; rfl
  | d :: ds, _, is, .cons r t, e => by
    cases d <;> simp [blsOf] at e
    obtain ⟨js, h, rfl⟩ := e
    cases r
    rw [RVs.bls t h]; rfl

theorem Rel.list (R : Rel C ι S H) {n : Nat} {xs : List D} (h : getL S n = some xs) : ∃ a vs, ι[n]? = some a ∧ H a = some (.lst vs) ∧ RVs C ι H xs vs := by
  unfold getL at h
  split at h
  · rename_i ys e
    cases h
    obtain ⟨a, h1, vs, h2, h3⟩ := R.obj n _ e
    exact ⟨a, vs, h1, h2, h3⟩
  · cases h
/-- an object changed, or laid, beside the store -/
theorem Rel.upd_out (R : Rel C ι S H) (hp : p ∉ ι) (hn : H p = none) {o : HO} : Rel C ι S (upd H p o) ∧ Grow ι H ι (upd H p o) := by
  have g : Grow ι H ι (upd H p o) := ⟨⟨[], by simp⟩, fun a h n => absurd h n, fun a u _ e => by rw [upd_ne (ne_of_none e hn)]; exact e⟩
  refine ⟨⟨R.len, R.nd, fun n u e => ?_⟩, g⟩
  obtain ⟨a, e1, q⟩ := R.obj n u e
  refine ⟨a, e1, ?_⟩
  cases u with
  | lst xs =>
    obtain ⟨vs, e2, r⟩ := q
    exact ⟨vs, by rw [upd_ne (ne_of_none e2 hn)]; exact e2, r.mono R g⟩
  | dct _ => exact q.elim
  | ins _ _ => exact q.elim
theorem Rel.laid (R : Rel C ι S H) (hn : H p = none) {o : HO} : Rel C ι S (upd H p o) ∧ Grow ι H ι (upd H p o) := R.upd_out (R.fresh hn) hn
/-- a new list of the store -/
theorem Rel.alloc (R : Rel C ι S H) (hn : H p = none) {xs : List D} {vs : List V} (r : RVs C ι H xs vs) : Rel C (ι ++ [p]) (S ++ [.lst xs]) (upd H p (.lst vs)) ∧ Grow ι H (ι ++ [p]) (upd H p (.lst vs)) := by
  have hp := R.fresh hn
  have g : Grow ι H (ι ++ [p]) (upd H p (.lst vs)) := ⟨⟨[p], rfl⟩, fun a h n => by
    rcases List.mem_append.mp h with h | h
    · exact absurd h n
    · rw [List.mem_singleton.mp h]; exact hn, fun a u _ e => by rw [upd_ne (ne_of_none e hn)]; exact e⟩
  refine ⟨⟨by simp [R.len], ?_, fun n u e => ?_⟩, g⟩
  · rw [List.nodup_append]
    exact ⟨R.nd, by simp, fun a h b hb => by rw [List.mem_singleton.mp hb]; intro e; subst e; exact hp h⟩
  · by_cases hl : n < S.length
    · rw [List.getElem?_append_left hl] at e
      obtain ⟨a, e1, q⟩ := R.obj n u e
      refine ⟨a, g.get e1, ?_⟩
      cases u with
      | lst ys =>
        obtain ⟨ws, e2, r⟩ := q
        exact ⟨ws, by rw [upd_ne (ne_of_none e2 hn)]; exact e2, r.mono R g⟩
      | dct _ => exact q.elim
      | ins _ _ => exact q.elim
    · rw [List.getElem?_append_right (by omega)] at e
      have hz : n = S.length := by
        have := (List.getElem?_eq_some_iff.mp e).1
        simp at this; omega
      subst hz
      simp at e
      subst e
      refine ⟨p, by rw [← R.len]; simp, vs, upd_same, r.mono R g⟩
/-- a list of the store changed -/
theorem Rel.set (R : Rel C ι S H) {n : Nat} {xs ys : List D} {ws : List V} (h : getL S n = some xs) (ha : ι[n]? = some a) (r : RVs C ι H ys ws) : Rel C ι (S.set n (.lst ys)) (upd H a (.lst ws)) ∧ Grow ι H ι (upd H a (.lst ws)) := by
  have hm : a ∈ ι := List.mem_of_getElem? ha
  have g : Grow ι H ι (upd H a (.lst ws)) := ⟨⟨[], by simp⟩, fun b h n => absurd h n, fun b u hb e => by
    rw [upd_ne (fun z => hb (by rw [z]; exact hm))]; exact e⟩
  refine ⟨⟨by simp [R.len], R.nd, fun m u e => ?_⟩, g⟩
  by_cases hmn : m = n
  · subst hmn
    have hl : m < S.length := by rw [← R.len]; exact (List.getElem?_eq_some_iff.mp ha).1
    rw [List.getElem?_set_self hl] at e
    cases e
    exact ⟨a, ha, ws, upd_same, r.mono R g⟩
  · rw [List.getElem?_set_ne (fun z => hmn z.symm)] at e
    obtain ⟨b, e1, q⟩ := R.obj m u e
    have hb : b ≠ a := by
      intro z; subst z
      exact hmn (nodup_ix' R.nd e1 ha)
    refine ⟨b, e1, ?_⟩
    cases u with
    | lst ys =>
      obtain ⟨ws, e2, r⟩ := q
      exact ⟨ws, by rw [upd_ne hb]; exact e2, r.mono R g⟩
    | dct _ => exact q.elim
    | ins _ _ => exact q.elim
end
end Dp

set_option Elab.async false
set_option maxRecDepth 100000
set_option linter.all false
set_option maxHeartbeats 4000000
/-! Operators: what the core reckons is what HandS's rules give. -/
namespace Dp
open PySem PySem.Spec PyProof.Rows L2

/-! ### weakest preconditions of the reckoner -/
def Wp {α : Type} (r : R α) (Q : α → Store → Prop) (X : Exn → Store → Prop) : Prop :=
  match r with
  | .ok a S => Q a S
  | .exc x S => X x S
  | .err => False
theorem Wp.mono {α : Type} {r : R α} {Q Q' : α → Store → Prop} {X X' : Exn → Store → Prop} (h : Wp r Q X) (hq : ∀ a S, Q a S → Q' a S) (hx : ∀ x S, X x S → X' x S) : Wp r Q' X' := by
  cases r with
  | ok a S => exact hq a S h
  | exc x S => exact hx x S h
  | err => exact h
theorem Wp.bind {α β : Type} {r : R α} {f : α → Store → R β} {Q : β → Store → Prop} {X : Exn → Store → Prop} : Wp (r.bind f) Q X ↔ Wp r (fun a S => Wp (f a S) Q X) X := by
  cases r <;> exact Iff.rfl
theorem Wp.of {α : Type} {S : Store} {o : Option α} {Q : α → Store → Prop} {X : Exn → Store → Prop} (h : Wp (R.of S o) Q X) : ∃ a, o = some a ∧ Q a S := by
  cases o with
  | none => exact h.elim
  | some a => exact ⟨a, rfl, h⟩

/-- what is wanted of a value -/
def QV (C : MC) (ι : List Addr) (H : Hp) (Q : VK) : D → Store → Prop := fun d S' => ∀ ι' H' v, Grow ι H ι' H' → Rel C ι' S' H' → RV C ι' H' d v → Q v H'
section
variable {C : MC} {ι ι' ι1 ι2 : List Addr} {H H' H1 H2 : Hp} {S S' : Store} {a p : Addr} {Q : VK}
theorem QV.grow (g : Grow ι H ι1 H1) {d : D} {S : Store} (h : QV C ι H Q d S) : QV C ι1 H1 Q d S := fun ι' H' v k R r => h ι' H' v (g.trans k) R r
theorem QV.fin {d : D} {v : V} (h : QV C ι H Q d S) (R : Rel C ι S H) (r : RV C ι H d v) : Q v H := h ι H v .refl R r
/-- a new list -/
theorem QV.alloc {xs : List D} {vs : List V} (h : QV C ι H Q (.ref S.length) (S ++ [.lst xs])) (R : Rel C ι S H) (r : RVs C ι H xs vs) : ∀ p, H p = none → Q (.ref p) (upd H p (.lst vs)) := fun p hp => by
  obtain ⟨R', g⟩ := R.alloc hp r
  exact h _ _ _ g R' (.ref (by rw [← R.len]; simp))
/-- a new tuple -/
theorem QV.tup {xs : List D} {vs : List V} (h : QV C ι H Q (.tup xs) S) (R : Rel C ι S H) (r : RVs C ι H xs vs) : ∀ p, H p = none → Q (.ref p) (upd H p (.tup vs)) := fun p hp => by
  obtain ⟨R', g⟩ := R.laid hp (o := .tup vs)
  exact h _ _ _ g R' (.tup (.inl (.inl upd_same)) (r.mono R g))
/-- a list changed -/
theorem QV.set {n : Nat} {xs ys : List D} {ws : List V} {d : D} {v : V} (h : QV C ι H Q d (S.set n (.lst ys))) (R : Rel C ι S H) (hx : getL S n = some xs) (ha : ι[n]? = some a) (r : RVs C ι H ys ws) (rd : RV C ι H d v) : Q v (upd H a (.lst ws)) := by
  obtain ⟨R', g⟩ := R.set hx ha r
  exact h _ _ _ g R' (rd.mono R g)
end

theorem lim_eq : lim = sizeLine := by rw [sizeLine_eq]
theorem str_app (a b : List Nat) : ((⟨a.toArray⟩ : Str) ++ (⟨b.toArray⟩ : Str)) = ⟨(a ++ b).toArray⟩ := congrArg Str.mk (by simp)
theorem str_len (a : List Nat) : (⟨a.toArray⟩ : Str).length = a.length := by simp [Str.length]
theorem str_inj {a b : List Nat} : (⟨a.toArray⟩ : Str) = ⟨b.toArray⟩ ↔ a = b := by
  constructor
  · intro h; injection h with h; simpa using h
  · rintro rfl; rfl

/-! ### two-place operators -/
def r2 (C : MC) (f : D → D → Store → R D) : R2 := fun x y H Q => ∃ ι S d e, Rel C ι S H ∧ RV C ι H d x ∧ RV C ι H e y ∧ Wp (f d e S) (QV C ι H Q) (fun _ _ => True)
section
variable {C : MC} {X : Cx}
theorem small_mul {i j : Int} (h : (small i || small j) = true) : CMul i j := by
  unfold small at h
  simp only [Bool.or_eq_true, Bool.and_eq_true, decide_eq_true_eq] at h
  exact h
theorem op_addD (hK : X.K = C.K) : OpR X (binaryOp .Add) (r2 C (binD .add)) := by
  intro pins s σ H x y v u Q I rx ry ⟨ι, S, d, e, R, hd, he, h⟩
  cases d with
  | int i =>
    cases e with
    | int j => cases hd; cases he; exact op_add pins s σ H _ _ v u Q I rx ry ⟨_, _, rfl, rfl, h.fin R (.int _)⟩
    | _ => exact (show False from h).elim
  | str i =>
    cases e with
    | str j =>
      cases hd; cases he
      simp only [binD] at h
      split at h
      · rename_i hl
        refine op_add_str pins s σ H _ _ v u Q I rx ry ⟨_, _, rfl, rfl, ?_, ?_⟩
        · rw [str_len, str_len, ← lim_eq]; exact hl
        · rw [str_app]; exact QV.fin h R (.str _)
      · exact h.elim
    | _ => exact (show False from h).elim
  | tup i =>
    cases e with
    | tup j =>
      cases hd with
      | tup h1 r1 =>
        cases he with
        | tup h2 r2 =>
          simp only [binD] at h
          split at h
          · rename_i hl
            rw [← hK] at h1 h2
            refine op_catA pins s σ H _ _ v u Q I rx ry ⟨_, _, _, _, rfl, rfl, h1, h2, by rw [← r1.len, ← r2.len, ← lim_eq]; exact hl, fun z => ?_, fun z1 z2 => ?_, fun _ _ => QV.tup h R (r1.append r2)⟩
            · subst z
              have e0 : i = [] := by have := r1.len; simpa using this
              subst e0
              rw [hK] at h2
              exact QV.fin h R (.tup h2 r2)
            · subst z2
              have e0 : j = [] := by have := r2.len; simpa using this
              subst e0
              rw [hK] at h1
              rw [List.append_nil] at h
              exact QV.fin h R (.tup h1 r1)
          · exact h.elim
    | _ => exact (show False from h).elim
  | ref m =>
    cases e with
    | ref n =>
      cases hd with
      | ref h1 =>
        cases he with
        | ref h2 =>
          simp only [binD] at h
          split at h
          · rename_i xs ys e1 e2
            split at h
            · rename_i hl
              obtain ⟨a, vs, g1, g2, g3⟩ := R.list e1
              obtain ⟨b, ws, k1, k2, k3⟩ := R.list e2
              rw [h1] at g1; cases g1
              rw [h2] at k1; cases k1
              exact op_cat pins s σ H _ _ v u Q I rx ry ⟨_, _, _, _, rfl, rfl, g2, k2, by rw [← g3.len, ← k3.len, ← lim_eq]; exact hl, QV.alloc h R (g3.append k3)⟩
            · exact h.elim
          · exact h.elim
    | _ => exact (show False from h).elim
  | _ => exact (show False from h).elim
theorem op_subD : OpR X (binaryOp .Sub) (r2 C (binD .sub)) := by
  intro pins s σ H x y v u Q I rx ry ⟨ι, S, d, e, R, hd, he, h⟩
  cases d with
  | int i =>
    cases e with
    | int j => cases hd; cases he; exact op_sub pins s σ H _ _ v u Q I rx ry ⟨_, _, rfl, rfl, h.fin R (.int _)⟩
    | _ => exact (show False from h).elim
  | _ => exact (show False from h).elim
theorem op_mulD : OpR X (binaryOp .Mult) (r2 C (binD .mul)) := by
  intro pins s σ H x y v u Q I rx ry ⟨ι, S, d, e, R, hd, he, h⟩
  cases d with
  | int i =>
    cases e with
    | int j =>
      cases hd; cases he
      simp only [binD] at h
      split at h
      · rename_i c
        exact op_mul pins s σ H _ _ v u Q I rx ry ⟨_, _, rfl, rfl, small_mul c, QV.fin h R (.int _)⟩
      · exact h.elim
    | _ => exact (show False from h).elim
  | _ => exact (show False from h).elim
theorem op_fdivD : OpR X (binaryOp .FloorDiv) (r2 C (binD .fdiv)) := by
  intro pins s σ H x y v u Q I rx ry ⟨ι, S, d, e, R, hd, he, h⟩
  cases d with
  | int i =>
    cases e with
    | int j =>
      cases hd; cases he
      simp only [binD] at h
      split at h
      · rename_i c
        exact op_fdiv pins s σ H _ _ v u Q I rx ry ⟨_, _, rfl, rfl, c, QV.fin h R (.int _)⟩
      · exact h.elim
    | _ => exact (show False from h).elim
  | _ => exact (show False from h).elim
theorem op_modD : OpR X (binaryOp .Mod) (r2 C (binD .mod)) := by
  intro pins s σ H x y v u Q I rx ry ⟨ι, S, d, e, R, hd, he, h⟩
  cases d with
  | int i =>
    cases e with
    | int j =>
      cases hd; cases he
      simp only [binD] at h
      split at h
      · rename_i c
        exact op_mod pins s σ H _ _ v u Q I rx ry ⟨_, _, rfl, rfl, c, QV.fin h R (.int _)⟩
      · exact h.elim
    | _ => exact (show False from h).elim
  | _ => exact (show False from h).elim
theorem op_powD : OpR X (binaryOp .Pow) (r2 C (binD .pow)) := by
  intro pins s σ H x y v u Q I rx ry ⟨ι, S, d, e, R, hd, he, h⟩
  cases d with
  | int i =>
    cases e with
    | int j =>
      cases hd; cases he
      simp only [binD] at h
      split at h
      · rename_i c
        exact op_pow pins s σ H _ _ v u Q I rx ry ⟨_, _, rfl, rfl, c, QV.fin h R (.int _)⟩
      · exact h.elim
    | _ => exact (show False from h).elim
  | _ => exact (show False from h).elim
theorem op_shrD : OpR X (binaryOp .RShift) (r2 C (binD .shr)) := by
  intro pins s σ H x y v u Q I rx ry ⟨ι, S, d, e, R, hd, he, h⟩
  cases d with
  | int i =>
    cases e with
    | int j =>
      cases hd; cases he
      simp only [binD] at h
      split at h
      · rename_i c
        exact op_shr pins s σ H _ _ v u Q I rx ry ⟨_, _, rfl, rfl, c, QV.fin h R (.int _)⟩
      · exact h.elim
    | _ => exact (show False from h).elim
  | _ => exact (show False from h).elim
def opOf : BO → Operator
  | .add => .Add | .sub => .Sub | .mul => .Mult | .fdiv => .FloorDiv | .mod => .Mod | .pow => .Pow | .shr => .RShift
theorem op_binD (hK : X.K = C.K) : ∀ o : BO, OpR X (binaryOp (opOf o)) (r2 C (binD o))
  | .add => op_addD hK
  | .sub => op_subD
  | .mul => op_mulD
  | .fdiv => op_fdivD
  | .mod => op_modD
  | .pow => op_powD
  | .shr => op_shrD
end

/-! ### comparisons -/
def c2 (C : MC) (f : D → D → Store → Option Bool) : R2 := fun x y H Q => ∃ ι S d e k, Rel C ι S H ∧ RV C ι H d x ∧ RV C ι H e y ∧ f d e S = some k ∧ Q (.bl k) H
section
variable {C : MC} {X : Cx} {ι : List Addr} {H : Hp} {S : Store}
theorem flat_v {d : D} {x : V} (r : RV C ι H d x) (h : flat d = true) : flatV x = true := by
  cases r <;> first | rfl | cases h
theorem feq_v {d e : D} {x y : V} (r : RV C ι H d x) (q : RV C ι H e y) (h : flat d = true) (k : flat e = true) : eqV x y = feq d e := by
  cases r <;> first | cases h | skip
  all_goals (cases q <;> first | cases k | rfl | skip)
  all_goals first
    | rfl
    | (show (_ == _) = (_ == _); rw [Bool.eq_iff_iff]; simp [str_inj])
mutual
theorem pd_dp (R : Rel C ι S H) : ∀ (n : Nat) (d : D) (x : V) (p : PyData), RV C ι H d x → pd S n d = some p → L2.Dp C.K H x p
  | n, .non, _, p, r, h => by
    cases r
    have e : p = .none := by cases n <;> (simp [pd] at h; exact h.symm)
    subst e; exact .non
  | n, .bl b, _, p, r, h => by
    cases r
    have e : p = .bool b := by cases n <;> (simp [pd] at h; exact h.symm)
    subst e; exact .bl b
  | n, .int b, _, p, r, h => by
    cases r
    have e : p = .int b := by cases n <;> (simp [pd] at h; exact h.symm)
    subst e; exact .int b
  | n, .str b, _, p, r, h => by
    cases r
    have e : p = .str ⟨b.toArray⟩ := by cases n <;> (simp [pd] at h; exact h.symm)
    subst e; exact .str _
  | 0, .tup xs, _, p, r, h => by simp [pd] at h
  | 0, .rl xs, _, p, r, h => by simp [pd] at h
  | 0, .ref m, _, p, r, h => by simp [pd] at h
  | n + 1, .tup xs, _, p, r, h => by
    cases r with
    | tup h1 r1 =>
      simp only [pd, Option.map_eq_some_iff] at h
      obtain ⟨ps, h, rfl⟩ := h
      exact .tup h1 (pds_dp R n xs _ ps r1 h)
  | n + 1, .rl xs, _, p, r, h => by
    cases r with
    | rl h1 r1 =>
      simp only [pd, Option.map_eq_some_iff] at h
      obtain ⟨ps, h, rfl⟩ := h
      exact .lst h1.sq (pds_dp R n xs _ ps r1 h)
  | n + 1, .ref m, _, p, r, h => by
    cases r with
    | ref h1 =>
      simp only [pd] at h
      split at h
      · rename_i xs e
        obtain ⟨a, vs, g1, g2, g3⟩ := R.list (n := m) (xs := xs) (by unfold getL; rw [e])
        rw [h1] at g1; cases g1
        simp only [Option.map_eq_some_iff] at h
        obtain ⟨ps, h, rfl⟩ := h
        exact .lst (.inl (.inl g2)) (pds_dp R n xs _ ps g3 h)
      · cases h
  | n, .rd _ _, _, p, r, h => by cases n <;> simp [pd] at h
  | n, .fn _, _, p, r, h => by cases n <;> simp [pd] at h
  termination_by n d => (n, 0)
theorem pds_dp (R : Rel C ι S H) : ∀ (n : Nat) (ds : List D) (xs : List V) (ps : List PyData), RVs C ι H ds xs → ds.mapM (pd S n) = some ps → L2.DpAll C.K H xs ps
  | n, [], _, ps, r, h => by
    cases r
    simp at h; subst h; exact .nil
  | n, d :: ds, _, ps, r, h => by
    cases r with
    | cons r1 r2 =>
      simp only [List.mapM_cons, Option.bind_eq_bind, Option.bind_eq_some_iff] at h
      obtain ⟨p, h1, qs, h2, h3⟩ := h
      simp at h3; subst h3
      exact .cons (pd_dp R n d _ p r1 h1) (pds_dp R n ds _ qs r2 h2)
  termination_by n ds => (n, ds.length + 1)
end
end
end Dp

set_option Elab.async false
set_option maxRecDepth 100000
set_option linter.all false
set_option maxHeartbeats 4000000
namespace Dp
open PySem PySem.Spec PyProof.Rows L2
section
variable {C : MC} {X : Cx} {ι : List Addr} {H : Hp} {S : Store}

theorem flat_dec {d e : D} {x y : V} (r : RV C ι H d x) (q : RV C ι H e y) (h : flat d = true) (k : flat e = true) (z : scal x y = true) : decide (x = y) = feq d e := by
  cases r <;> first | cases h | skip
  all_goals (cases q <;> first | cases k | skip)
  all_goals first
    | rfl
    | (cases z; done)
    | (rw [Bool.eq_iff_iff]; simp [feq, str_inj])
theorem flat_shaped {d e : D} {x y : V} (r : RV C ι H d x) (q : RV C ι H e y) (h : flat d = true) (k : flat e = true) (z : scal x y = false) :
    ∃ p p', L2.Dp C.K H x p ∧ L2.Dp C.K H y p' ∧ SeqAt.shaped p = true ∧ SeqAt.shaped p' = true ∧ PyData.eqv p p' = feq d e := by
  cases r <;> first | cases h | skip
  all_goals (cases q <;> first | cases k | skip)
  all_goals first
    | (cases z; done)
    | exact ⟨_, _, .bl _, .int _, rfl, rfl, rfl⟩
    | exact ⟨_, _, .int _, .bl _, rfl, rfl, rfl⟩
theorem op_eqX (hK : X.K = C.K) (hu : X.A.units + 100 < cLine) : OpR X (compareOp .Eq) (c2 C fun a b S => deq S a b) := by
  intro pins s σ H x y v u Q I rx ry ⟨ι, S, d, e, k, R, hd, he, hk, q⟩
  replace hk : deq S d e = _ := hk
  unfold deq at hk
  split at hk
  · rename_i hf
    simp only [Bool.and_eq_true] at hf
    cases hk
    by_cases z : scal x y = true
    · exact op_eq pins s σ H _ _ v u Q I rx ry ⟨z, by rw [flat_dec hd he hf.1 hf.2 z]; exact q⟩
    · obtain ⟨p, p', h1, h2, h3, h4, h5⟩ := flat_shaped hd he hf.1 hf.2 (by simpa using z)
      rw [← hK] at h1 h2
      exact op_eqD (by omega) pins s σ H _ _ v u Q I rx ry ⟨p, p', h1, h2, h3, h4, by rw [h5]; exact q⟩
  · split at hk
    · rename_i p p' e1 e2
      split at hk
      · rename_i hs
        simp only [Bool.and_eq_true] at hs
        cases hk
        have h1 := pd_dp R _ _ _ _ hd e1
        have h2 := pd_dp R _ _ _ _ he e2
        rw [← hK] at h1 h2
        exact op_eqD (by omega) pins s σ H _ _ v u Q I rx ry ⟨p, p', h1, h2, hs.1, hs.2, q⟩
      · cases hk
    · cases hk
theorem op_neX (hK : X.K = C.K) (hu : X.A.units + 100 < cLine) : OpR X (compareOp .NotEq) (c2 C fun a b S => (deq S a b).map (!·)) := by
  intro pins s σ H x y v u Q I rx ry ⟨ι, S, d, e, k, R, hd, he, hk, q⟩
  rw [Option.map_eq_some_iff] at hk
  obtain ⟨k', hk, rfl⟩ := hk
  replace hk : deq S d e = _ := hk
  unfold deq at hk
  split at hk
  · rename_i hf
    simp only [Bool.and_eq_true] at hf
    cases hk
    by_cases z : scal x y = true
    · exact op_ne pins s σ H _ _ v u Q I rx ry ⟨z, by rw [flat_dec hd he hf.1 hf.2 z]; exact q⟩
    · obtain ⟨p, p', h1, h2, h3, h4, h5⟩ := flat_shaped hd he hf.1 hf.2 (by simpa using z)
      rw [← hK] at h1 h2
      exact op_neD (by omega) pins s σ H _ _ v u Q I rx ry ⟨p, p', h1, h2, h3, h4, by rw [h5]; exact q⟩
  · split at hk
    · rename_i p p' e1 e2
      split at hk
      · rename_i hs
        simp only [Bool.and_eq_true] at hs
        cases hk
        have h1 := pd_dp R _ _ _ _ hd e1
        have h2 := pd_dp R _ _ _ _ he e2
        rw [← hK] at h1 h2
        exact op_neD (by omega) pins s σ H _ _ v u Q I rx ry ⟨p, p', h1, h2, hs.1, hs.2, q⟩
      · cases hk
    · cases hk
theorem lexN_lt : ∀ a b : List Nat, lexN a b = decide (a < b)
  | _, [] => by simp [lexN]
  | [], y :: ys => by simp [lexN]
  | x :: xs, y :: ys => by
    unfold lexN
    rw [lexN_lt xs ys]
    by_cases e : x = y
    · subst e; simp
    · rw [if_neg e, Bool.eq_iff_iff]; simp [List.cons_lt_cons_iff, e]
theorem op_ltX (hK : X.K = C.K) (hu : X.A.units < cLine) : OpR X (compareOp .Lt) (c2 C fun a b _ => dlt a b) := by
  intro pins s σ H x y v u Q I rx ry ⟨ι, S, d, e, k, R, hd, he, hk, q⟩
  cases d with
  | int i =>
    cases e with
    | int j => cases hd; cases he; cases hk; exact op_lt pins s σ H _ _ v u Q I rx ry ⟨_, _, rfl, rfl, q⟩
    | _ => cases hk
  | str i =>
    cases e with
    | str j => cases hd; cases he; cases hk; exact op_lt_str pins s σ H _ _ v u Q I rx ry ⟨_, _, rfl, rfl, by rw [← lexN_lt]; exact q⟩
    | _ => cases hk
  | tup i =>
    cases e with
    | tup j =>
      simp only [dlt] at hk
      split at hk
      · rename_i is js e1 e2
        cases hk
        cases hd with
        | tup h1 r1 =>
          cases he with
          | tup h2 r2 =>
            rw [r1.ints e1, ← hK] at h1
            rw [r2.ints e2, ← hK] at h2
            exact op_ltT hu pins s σ H _ _ v u Q I rx ry ⟨_, _, _, _, rfl, rfl, h1, h2, q⟩
      · cases hk
    | _ => cases hk
  | _ => cases e <;> cases hk
theorem dget_hit (z : List Nat) (ks ds : List D) (d : D) : dget (.str z) (.str z :: ks) (d :: ds) = some d := by
  have h : feq (.str z) (.str z) = true := by simp [feq]
  unfold dget; rw [if_pos h]
theorem dget_miss {x z : List Nat} (ks ds : List D) (d : D) (n : ¬ z = x) : dget (.str z) (.str x :: ks) (d :: ds) = dget (.str z) ks ds := by
  have h : ¬ feq (.str x) (.str z) = true := by simp [feq]; exact fun q => n q.symm
  show (if feq (.str x) (.str z) = true then some d else dget (.str z) ks ds) = _
  rw [if_neg h]
theorem find_REs {z : List Nat} : ∀ {es : List DictEntry} {ks ds : List D}, REs C ι H es ks ds → es.any (·.refKey) = false ∧
    (match es.find? (·.key.isStr ⟨z.toArray⟩) with
      | some e => ∃ d v, dget (.str z) ks ds = some d ∧ RelV v e.val ∧ RV C ι H d v
      | none => dget (.str z) ks ds = none)
  | _, _, _, .nil => ⟨rfl, rfl⟩
  | _, _, _, .cons (e := e) (x := x) h1 h3 h4 t => by
    obtain ⟨ih1, ih2⟩ := find_REs (z := z) t
    obtain ⟨tk, hk⟩ := h1
    refine ⟨by rw [List.any_cons, ih1]; simp [DictEntry.refKey, hk], ?_⟩
    have h1 : e.key.isStr ⟨z.toArray⟩ = decide ((⟨z.toArray⟩ : Str) = ⟨x.toArray⟩) := by
      rw [hk]
      show ((⟨x.toArray⟩ : Str) == ⟨z.toArray⟩) = _
      rw [Bool.eq_iff_iff]; simp; exact ⟨fun q => q.symm, fun q => q.symm⟩
    rw [List.find?_cons, h1]
    by_cases hz : z = x
    · subst hz
      rw [decide_eq_true rfl, dget_hit]
      exact ⟨_, _, rfl, h3, h4⟩
    · have hc : decide ((⟨z.toArray⟩ : Str) = ⟨x.toArray⟩) = false := decide_eq_false (fun q => hz (str_inj.mp q))
      rw [hc, dget_miss _ _ _ hz]
      exact ih2
theorem ns_rd {a : Addr} {es : Array DictEntry} {n : Nat} {ks ds : List D} {z : List Nat} (D' : KDict C.K C.w a es n) (r : REs C ι H es.toList ks ds) :
    ∃ o, PySem.W.nsIn C.K a ⟨z.toArray⟩ = some o ∧ o.isSome = (dget (.str z) ks ds).isSome ∧ ∀ d, dget (.str z) ks ds = some d → ∃ u v, o = some u ∧ RelV v u ∧ RV C ι H d v := by
  obtain ⟨h1, h2⟩ := find_REs (z := z) r
  unfold PySem.W.nsIn
  rw [D'.at_]
  simp only
  split at h2
  · rename_i e he
    obtain ⟨d, v, q1, q2, q3⟩ := h2
    rw [he]
    refine ⟨some e.val, rfl, by rw [q1]; rfl, fun d' q => ?_⟩
    rw [q1] at q; cases q
    exact ⟨_, _, rfl, q2, q3⟩
  · rename_i he
    rw [he, h1]
    refine ⟨none, rfl, by rw [h2]; rfl, fun d q => ?_⟩
    rw [h2] at q; cases q
theorem flats_v : ∀ {ds : List D} {xs : List V}, RVs C ι H ds xs → ds.all flat = true → xs.all flatV = true
  | _, _, .nil, _ => rfl
  | _, _, .cons r t, h => by
    simp only [List.all_cons, Bool.and_eq_true] at h ⊢
    exact ⟨flat_v r h.1, flats_v t h.2⟩
theorem any_v {d : D} {x : V} (r : RV C ι H d x) (hf : flat d = true) : ∀ {ds : List D} {xs : List V}, RVs C ι H ds xs → ds.all flat = true → inV x xs = ds.any fun y => feq y d
  | _, _, .nil, _ => rfl
  | _, _, .cons q t, h => by
    simp only [List.all_cons, Bool.and_eq_true] at h
    have ih := any_v r hf t h.2
    unfold inV at ih ⊢
    rw [List.any_cons, List.any_cons, feq_v q r h.1 hf, ih]
/-- a list or tuple that is read -/
theorem seq_v (R : Rel C ι S H) {d : D} {x : V} {xs : List D} (r : RV C ι H d x) (h : seqOf S d = some xs) : ∃ a vs, x = .ref a ∧ (SqL C.K H a vs ∨ SqT C.K H a vs) ∧ RVs C ι H xs vs := by
  cases r with
  | tup h1 r1 => cases h; exact ⟨_, _, rfl, .inr h1, r1⟩
  | rl h1 r1 => cases h; exact ⟨_, _, rfl, .inl h1.sq, r1⟩
  | ref h1 =>
    obtain ⟨a, vs, g1, g2, g3⟩ := R.list h
    rw [h1] at g1; cases g1
    exact ⟨_, _, rfl, .inl (.inl (.inl g2)), g3⟩
  | _ => cases h
theorem din_pd (R : Rel C ι S H) {d e : D} {x y : V} {k : Bool} (hd : RV C ι H d x) (he : RV C ι H e y) (h : dinP (pd S 66 d) (pd S 66 e) = some k) :
    ∃ (p : PyData) (ys : List PyData), L2.Dp C.K H x p ∧ SeqAt.shaped p = true ∧ SeqAt.shaped (.list ys) = true ∧ (L2.Dp C.K H y (.list ys) ∨ L2.Dp C.K H y (.tuple ys)) ∧ (ys.any fun z => PyData.eqv z p) = k := by
  unfold dinP at h
  split at h
  · rename_i p ys e1 e2
    split at h
    · rename_i hs
      simp only [Bool.and_eq_true] at hs
      cases h
      exact ⟨p, ys, pd_dp R _ _ _ _ hd e1, hs.1, by have := hs.2; simpa [SeqAt.shaped, PyData.canLay0, PyData.depth] using this, .inr (pd_dp R _ _ _ _ he e2), rfl⟩
    · cases h
  · rename_i p ys e1 e2
    split at h
    · rename_i hs
      simp only [Bool.and_eq_true] at hs
      cases h
      exact ⟨p, ys, pd_dp R _ _ _ _ hd e1, hs.1, hs.2, .inl (pd_dp R _ _ _ _ he e2), rfl⟩
    · cases h
  · cases h
theorem op_inP (hu : X.A.units + 65 < cLine) : OpR X (compareOp .In) (fun x y H Q => ∃ (p : PyData) (ys : List PyData), L2.Dp X.K H x p ∧ SeqAt.shaped p = true ∧ SeqAt.shaped (.list ys) = true ∧ (L2.Dp X.K H y (.list ys) ∨ L2.Dp X.K H y (.tuple ys)) ∧ Q (.bl (ys.any fun z => PyData.eqv z p)) H) := by
  intro pins s σ H x y v u Q I rx ry h
  obtain ⟨d, ds, hd, sd, se, he, q⟩ := h
  obtain ⟨as, r1⟩ := L2.Dp.reads I d x v hd rx
  rcases he with he | he
  · obtain ⟨bs, r2⟩ := L2.Dp.reads I (.list ds) y u he ry
    exact SeqAt.in_list_reads r2 r1 (SeqAt.canLay_of_shaped se) (SeqAt.canLay_of_shaped sd) (room_in_shaped sd hu) ⟨.bl _, H, I, rfl, q⟩
  · obtain ⟨bs, r2⟩ := L2.Dp.reads I (.tuple ds) y u he ry
    exact SeqAt.in_tuple_reads r2 r1 (SeqAt.canLay_of_shaped se) (SeqAt.canLay_of_shaped sd) (room_in_shaped sd hu) ⟨.bl _, H, I, rfl, q⟩
theorem op_ninP (hu : X.A.units + 65 < cLine) : OpR X (compareOp .NotIn) (fun x y H Q => ∃ (p : PyData) (ys : List PyData), L2.Dp X.K H x p ∧ SeqAt.shaped p = true ∧ SeqAt.shaped (.list ys) = true ∧ (L2.Dp X.K H y (.list ys) ∨ L2.Dp X.K H y (.tuple ys)) ∧ Q (.bl (!ys.any fun z => PyData.eqv z p)) H) := by
  intro pins s σ H x y v u Q I rx ry h
  obtain ⟨d, ds, hd, sd, se, he, q⟩ := h
  obtain ⟨as, r1⟩ := L2.Dp.reads I d x v hd rx
  rcases he with he | he
  · obtain ⟨bs, r2⟩ := L2.Dp.reads I (.list ds) y u he ry
    exact SeqAt.notIn_list_reads r2 r1 (SeqAt.canLay_of_shaped se) (SeqAt.canLay_of_shaped sd) (room_in_shaped sd hu) ⟨.bl _, H, I, rfl, q⟩
  · obtain ⟨bs, r2⟩ := L2.Dp.reads I (.tuple ds) y u he ry
    exact SeqAt.notIn_tuple_reads r2 r1 (SeqAt.canLay_of_shaped se) (SeqAt.canLay_of_shaped sd) (room_in_shaped sd hu) ⟨.bl _, H, I, rfl, q⟩
theorem op_inX (hK : X.K = C.K) (hw : X.w = C.w) (hu : X.A.units + 100 < cLine) : OpR X (compareOp .In) (c2 C fun a b S => dinD S a b) := by
  intro pins s σ H x y v u Q I rx ry ⟨ι, S, d, e, k, R, hd, he, hk, q⟩
  have other : ∀ xs, seqOf S e = some xs → (if flat d && xs.all flat then some (xs.any fun y => feq y d) else dinP (pd S 66 d) (pd S 66 e)) = some k → wpAny (model X.prog X.w) X.A (compareOp .In v u) (EP X pins σ Q) X.xe s := by
    intro xs hx hk
    split at hk
    · rename_i hf
      simp only [Bool.and_eq_true] at hf
      cases hk
      obtain ⟨a, vs, rfl, hs, rs⟩ := seq_v R he hx
      rw [← hK] at hs
      exact op_in_seq pins s σ H _ _ v u Q I rx ry ⟨a, vs, rfl, hs, flat_v hd hf.1, flats_v rs hf.2, by rw [any_v hd hf.1 rs hf.2]; exact q⟩
    · obtain ⟨p, ys, h1, h2, h3, h4, h5⟩ := din_pd R hd he hk
      rw [← hK] at h1 h4
      exact op_inP (by omega) pins s σ H _ _ v u Q I rx ry ⟨p, ys, h1, h2, h3, h4, by rw [h5]; exact q⟩
  cases e with
  | str cs =>
    simp only [dinD] at hk
    split at hk
    · cases hk; cases hd; cases he
      exact op_in_sign pins s σ H _ _ v u Q I rx ry ⟨_, _, rfl, rfl, by simpa using q⟩
    · cases hk
  | rd ks vs =>
    cases d with
    | str z =>
      simp only [dinD, keyOk] at hk
      cases hk
      cases he with
      | rd D' r =>
        cases hd
        obtain ⟨o, e1, e2, _⟩ := ns_rd (z := z) D' r
        rw [← hK] at D' e1
        rw [← hw] at D'
        exact op_in_kd D' pins s σ H _ _ v u Q I rx ry ⟨_, o, rfl, rfl, e1, by rw [e2]; exact q⟩
    | _ => cases hk
  | _ =>
    simp only [dinD] at hk
    split at hk
    · rename_i xs hx
      exact other xs hx hk
    · cases hk
theorem op_ninX (hK : X.K = C.K) (hw : X.w = C.w) (hu : X.A.units + 100 < cLine) : OpR X (compareOp .NotIn) (c2 C fun a b S => (dinD S a b).map (!·)) := by
  intro pins s σ H x y v u Q I rx ry ⟨ι, S, d, e, k, R, hd, he, hk, q⟩
  rw [Option.map_eq_some_iff] at hk
  obtain ⟨k', hk, rfl⟩ := hk
  have other : ∀ xs, seqOf S e = some xs → (if flat d && xs.all flat then some (xs.any fun y => feq y d) else dinP (pd S 66 d) (pd S 66 e)) = some k' → wpAny (model X.prog X.w) X.A (compareOp .NotIn v u) (EP X pins σ Q) X.xe s := by
    intro xs hx hk
    split at hk
    · rename_i hf
      simp only [Bool.and_eq_true] at hf
      cases hk
      obtain ⟨a, vs, rfl, hs, rs⟩ := seq_v R he hx
      rw [← hK] at hs
      exact op_notIn_seq pins s σ H _ _ v u Q I rx ry ⟨a, vs, rfl, hs, flat_v hd hf.1, flats_v rs hf.2, by rw [if_pos rfl, any_v hd hf.1 rs hf.2]; exact q⟩
    · obtain ⟨p, ys, h1, h2, h3, h4, h5⟩ := din_pd R hd he hk
      rw [← hK] at h1 h4
      exact op_ninP (by omega) pins s σ H _ _ v u Q I rx ry ⟨p, ys, h1, h2, h3, h4, by rw [h5]; exact q⟩
  cases e with
  | str cs =>
    simp only [dinD] at hk
    split at hk
    · cases hk; cases hd; cases he
      exact op_notIn_sign pins s σ H _ _ v u Q I rx ry ⟨_, _, rfl, rfl, by simpa using q⟩
    · cases hk
  | rd ks vs =>
    cases d with
    | str z =>
      simp only [dinD, keyOk] at hk
      cases hk
      cases he with
      | rd D' r =>
        cases hd
        obtain ⟨o, e1, e2, _⟩ := ns_rd (z := z) D' r
        rw [← hK] at D' e1
        rw [← hw] at D'
        exact op_notIn_kd D' pins s σ H _ _ v u Q I rx ry ⟨_, o, rfl, rfl, e1, by rw [e2]; exact q⟩
    | _ => cases hk
  | _ =>
    simp only [dinD] at hk
    split at hk
    · rename_i xs hx
      exact other xs hx hk
    · cases hk
def cmpOf : CO → CmpOp
  | .eq => .Eq | .ne => .NotEq | .lt => .Lt | .le => .LtE | .gt => .Gt | .ge => .GtE | .is_ => .Is | .isnt => .IsNot | .in_ => .In | .nin => .NotIn
theorem op_leX : OpR X (compareOp .LtE) (c2 C fun a b S => cmpD .le a b S) := by
  intro pins s σ H x y v u Q I rx ry ⟨ι, S, d, e, k, R, hd, he, hk, q⟩
  cases d with
  | int i =>
    cases e with
    | int j => cases hd; cases he; cases hk; exact op_le pins s σ H _ _ v u Q I rx ry ⟨_, _, rfl, rfl, q⟩
    | _ => cases hk
  | str i =>
    cases e with
    | str j => cases hd; cases he; cases hk; exact op_le_str pins s σ H _ _ v u Q I rx ry ⟨_, _, rfl, rfl, by rw [← lexN_lt]; exact q⟩
    | _ => cases hk
  | _ => cases e <;> cases hk
theorem op_gtX : OpR X (compareOp .Gt) (c2 C fun a b S => cmpD .gt a b S) := by
  intro pins s σ H x y v u Q I rx ry ⟨ι, S, d, e, k, R, hd, he, hk, q⟩
  cases d with
  | int i =>
    cases e with
    | int j => cases hd; cases he; cases hk; exact op_gt pins s σ H _ _ v u Q I rx ry ⟨_, _, rfl, rfl, q⟩
    | _ => cases hk
  | str i =>
    cases e with
    | str j => cases hd; cases he; cases hk; exact op_gt_str pins s σ H _ _ v u Q I rx ry ⟨_, _, rfl, rfl, by rw [← lexN_lt]; exact q⟩
    | _ => cases hk
  | _ => cases e <;> cases hk
theorem op_geX : OpR X (compareOp .GtE) (c2 C fun a b S => cmpD .ge a b S) := by
  intro pins s σ H x y v u Q I rx ry ⟨ι, S, d, e, k, R, hd, he, hk, q⟩
  cases d with
  | int i =>
    cases e with
    | int j => cases hd; cases he; cases hk; exact op_ge pins s σ H _ _ v u Q I rx ry ⟨_, _, rfl, rfl, q⟩
    | _ => cases hk
  | _ => cases e <;> cases hk
theorem op_isX : OpR X (compareOp .Is) (c2 C fun a b S => cmpD .is_ a b S) := by
  intro pins s σ H x y v u Q I rx ry ⟨ι, S, d, e, k, R, hd, he, hk, q⟩
  cases e with
  | non =>
    cases he
    cases d <;> cases hk <;> (cases hd; exact op_isN pins s σ H _ _ v u Q I rx ry ⟨rfl, q⟩)
  | bl b =>
    cases he
    cases d with
    | bl a => cases hk; cases hd; exact op_isBl pins s σ H _ _ v u Q I rx ry ⟨_, _, rfl, rfl, by rw [← Bool.beq_eq_decide_eq]; exact q⟩
    | _ => cases hk
  | _ => cases d <;> cases hk
theorem op_isntX : OpR X (compareOp .IsNot) (c2 C fun a b S => cmpD .isnt a b S) := by
  intro pins s σ H x y v u Q I rx ry ⟨ι, S, d, e, k, R, hd, he, hk, q⟩
  cases e with
  | non =>
    cases he
    cases d <;> cases hk <;> (cases hd; exact op_notN pins s σ H _ _ v u Q I rx ry ⟨rfl, q⟩)
  | bl b =>
    cases he
    cases d with
    | bl a => cases hk; cases hd; exact op_notBl pins s σ H _ _ v u Q I rx ry ⟨_, _, rfl, rfl, by rw [← Bool.beq_eq_decide_eq]; exact q⟩
    | _ => cases hk
  | _ => cases d <;> cases hk
theorem op_cmpD (hK : X.K = C.K) (hw : X.w = C.w) (hu : X.A.units + 100 < cLine) : ∀ o : CO, OpR X (compareOp (cmpOf o)) (c2 C (cmpD o))
  | .eq => op_eqX hK hu
  | .ne => op_neX hK hu
  | .lt => op_ltX hK (by omega)
  | .le => op_leX
  | .gt => op_gtX
  | .ge => op_geX
  | .is_ => op_isX
  | .isnt => op_isntX
  | .in_ => op_inX hK hw hu
  | .nin => op_ninX hK hw hu

/-! ### truth, subscripts, slices -/
theorem truth_v (R : Rel C ι S H) {d : D} {x : V} {k : Bool} (r : RV C ι H d x) (h : truth S d = some k) : TruV C.K x H k := by
  cases r with
  | non => cases h; rfl
  | bl b => cases h; rfl
  | int i => cases h; rfl
  | str cs =>
    simp only [truth] at h
    split at h
    · rename_i hl
      cases h
      refine ⟨by rw [str_len, ← lim_eq]; exact hl, ?_⟩
      rw [str_len]
      cases cs <;> simp
      omega
    · cases h
  | tup h1 r1 => cases h; refine .inr (.inl ⟨_, h1, ?_⟩); cases r1 <;> rfl
  | rl h1 r1 => cases h; refine .inl ⟨_, h1.sq, ?_⟩; cases r1 <;> rfl
  | ref h1 =>
    simp only [truth, Option.map_eq_some_iff] at h
    obtain ⟨xs, e, rfl⟩ := h
    obtain ⟨a, vs, g1, g2, g3⟩ := R.list e
    rw [h1] at g1; cases g1
    refine .inl ⟨_, .inl (.inl g2), ?_⟩
    cases g3 <;> rfl
  | _ => cases h
theorem atI_v {ds : List D} {vs : List V} {i : Int} {d : D} (r : RVs C ι H ds vs) (h : atI ds i = some d) : ∃ v, atI vs i = some v ∧ RV C ι H d v := by
  unfold atI at h ⊢
  rw [r.len] at h
  cases e : ixN vs.length i with
  | none => rw [e] at h; cases h
  | some j =>
    rw [e] at h
    exact r.get h
theorem ix_D (hK : X.K = C.K) (hw : X.w = C.w) : IxR X (r2 C fun a b S => R.of S (idxD S a b)) := by
  intro value slice pins s σ H x y v u Q I rx ry ⟨ι, S, d, e, R, hd, he, h⟩ hs
  obtain ⟨r, hr, q⟩ := h.of
  cases hd with
  | tup h1 r1 =>
    cases e with
    | int i =>
      cases he
      obtain ⟨w, hw', rw'⟩ := atI_v r1 (show atI _ i = some r from hr)
      rw [← hK] at h1
      exact ix_tup value slice pins s σ H _ _ v u Q I rx ry ⟨_, _, _, _, rfl, rfl, h1, hw', q.fin R rw'⟩ hs
    | _ => cases hr
  | rl h1 r1 =>
    cases e with
    | int i =>
      cases he
      obtain ⟨w, hw', rw'⟩ := atI_v r1 (show atI _ i = some r from hr)
      rw [← hK] at h1
      exact ix_list value slice pins s σ H _ _ v u Q I rx ry ⟨_, _, _, _, rfl, rfl, h1.sq, hw', q.fin R rw'⟩ hs
    | _ => cases hr
  | str cs =>
    cases e with
    | int i =>
      cases he
      simp only [idxD] at hr
      split at hr
      · rename_i hl
        rw [Option.map_eq_some_iff] at hr
        obtain ⟨c, hc, rfl⟩ := hr
        exact ix_str value slice pins s σ H _ _ v u Q I rx ry ⟨_, _, c, rfl, rfl, by rw [str_len, ← lim_eq]; exact hl, hc, q.fin R (.str [c])⟩ hs
      · cases hr
    | _ => cases hr
  | ref h1 =>
    cases e with
    | int i =>
      cases he
      simp only [idxD, Option.bind_eq_some_iff] at hr
      obtain ⟨xs, e1, e2⟩ := hr
      obtain ⟨a, vs, g1, g2, g3⟩ := R.list e1
      rw [h1] at g1; cases g1
      obtain ⟨w, hw', rw'⟩ := atI_v g3 e2
      exact ix_list value slice pins s σ H _ _ v u Q I rx ry ⟨_, _, _, _, rfl, rfl, .inl (.inl g2), hw', q.fin R rw'⟩ hs
    | _ => cases hr
  | rd D' r1 =>
    cases e with
    | str z =>
      cases he
      simp only [idxD, keyOk] at hr
      obtain ⟨o, e1, _, e3⟩ := ns_rd (z := z) D' r1
      obtain ⟨u', v', rfl, q2, q3⟩ := e3 r hr
      rw [← hK] at D' e1
      rw [← hw] at D'
      exact ix_kdict value slice pins s σ H _ _ v u Q I rx ry ⟨_, _, v', rfl, rfl, ⟨_, _, u', D'.at_, D'.lit, e1, q2⟩, q.fin R q3⟩ hs
    | _ => cases hr
  | _ => cases hr
theorem cut_v {ds : List D} {vs : List V} (r : RVs C ι H ds vs) (lo hi : Option Int) : RVs C ι H (cut ds lo hi) (cutV vs lo hi) := by
  unfold cut cutV
  rw [r.len]
  exact (r.drop _).take _
theorem cut_all {ds : List D} {lo hi : Option Int} (h : HT.sIx ds.length 0 lo = 0 ∧ HT.sIx ds.length ds.length hi = ds.length) : cut ds lo hi = ds := by
  unfold cut; rw [h.1, h.2]; simp
def s3 (C : MC) : V → Option Int → Option Int → Hp → VK → Prop := fun x lo hi H Q => ∃ ι S d, Rel C ι S H ∧ RV C ι H d x ∧ Wp (slcD S d lo hi) (QV C ι H Q) (fun _ _ => True)
theorem sl_D (hK : X.K = C.K) : SlR X (s3 C) := by
  intro pins s σ H x v vl vu lo hi sl Q I rx hs pl pu ⟨ι, S, d, R, hd, h⟩
  cases hd with
  | tup h1 r1 =>
    rename_i a vs ds
    have h' : QV C ι H Q (.tup (cut ds lo hi)) S := h
    have e := r1.len
    refine sl_tupA pins s σ H _ v vl vu lo hi sl Q I rx hs pl pu ⟨a, vs, rfl, by rw [hK]; exact h1, fun w => ?_, fun _ => QV.tup h' R (cut_v r1 lo hi)⟩
    rw [← e] at w
    rw [cut_all w] at h'
    exact h'.fin R (.tup h1 r1)
  | str cs =>
    simp only [slcD] at h
    split at h
    · rename_i hl
      refine sl_str pins s σ H _ v vl vu lo hi sl Q I rx hs pl pu ⟨_, rfl, by rw [str_len, ← lim_eq]; exact hl, ?_⟩
      have e : cutS ⟨cs.toArray⟩ lo hi = ⟨(cut cs lo hi).toArray⟩ := by
        unfold cutS cut
        rw [str_len]
      rw [e]
      exact QV.fin h R (.str _)
    · exact h.elim
  | ref h1 =>
    simp only [slcD] at h
    split at h
    · rename_i xs e
      obtain ⟨a, vs, g1, g2, g3⟩ := R.list e
      rw [h1] at g1; cases g1
      exact sl_list pins s σ H _ v vl vu lo hi sl Q I rx hs pl pu ⟨_, vs, rfl, .inl (.inl g2), QV.alloc h R (cut_v g3 lo hi)⟩
    · exact h.elim
  | _ => exact (show False from h).elim
end
end Dp

set_option Elab.async false
set_option maxRecDepth 100000
set_option linter.all false
set_option maxHeartbeats 4000000
namespace Dp
open PySem PySem.Spec PyProof.Rows L2 TL
/-- a built-in function's call -/
def cB (C : MC) (f : List D → Store → R D) : List V → Hp → VK → Prop := fun xs H Q => ∃ ι S ds, Rel C ι S H ∧ RVs C ι H ds xs ∧ Wp (f ds S) (QV C ι H Q) (fun _ _ => True)
/-- a built-in method's call -/
def mB (C : MC) (f : D → List D → Store → R D) : V → List V → Hp → VK → Prop := fun x xs H Q => ∃ ι S d ds, Rel C ι S H ∧ RV C ι H d x ∧ RVs C ι H ds xs ∧ Wp (f d ds S) (QV C ι H Q) (fun _ _ => True)
section
variable {C : MC} {X : Cx} {ι : List Addr} {H : Hp} {S : Store}
theorem RVs.one_of {d : D} {xs : List V} (h : RVs C ι H [d] xs) : ∃ v, xs = [v] ∧ RV C ι H d v := by
  cases h with
  | cons r t => cases t; exact ⟨_, rfl, r⟩
theorem bi_len (hK : X.K = C.K) : CallR X (.builtin "len") (cB C (biD .len)) := by
  intro pins s σ H xs us Q I r ⟨ι, S, ds, R, rs, h⟩
  match ds, rs, h with
  | [], rs, h => exact (show False from h).elim
  | d :: e :: t, rs, h => cases d <;> exact (show False from h).elim
  | [d], rs, h =>
    obtain ⟨v, rfl, rv⟩ := rs.one_of
    have other : ∀ ys, seqOf S d = some ys → QV C ι H Q (.int ys.length) S → wpAny (model X.prog X.w) X.A (call (.builtin "len") us) (EP X pins σ Q) X.xe s := by
      intro ys hy q
      obtain ⟨a, vs, rfl, hs, rs⟩ := seq_v R rv hy
      rw [← hK] at hs
      exact call_len_seq pins s σ H _ us Q I r ⟨a, vs, rfl, hs, by rw [← rs.len]; exact q.fin R (.int _)⟩
    cases d with
    | str cs =>
      simp only [biD] at h
      split at h
      · rename_i hl
        cases rv
        exact call_len_str pins s σ H _ us Q I r ⟨_, rfl, by rw [str_len, ← lim_eq]; exact hl, by rw [str_len]; exact QV.fin h R (.int _)⟩
      · exact h.elim
    | _ =>
      simp only [biD] at h
      split at h
      · rename_i ys hy
        exact other ys hy h
      · exact h.elim
theorem REs.keys : ∀ {es : List DictEntry} {ks ds : List D}, REs C ι H es ks ds → ∃ vs, RVs C ι H ks vs ∧ vs.length = es.length ∧ ∀ (i : Nat) e v, es[i]? = some e → vs[i]? = some v → RelV v e.key
  | _, _, _, .nil => ⟨[], .nil, rfl, fun i e v h => by simp at h⟩
  | _, _, _, .cons h1 _ _ t => by
    obtain ⟨vs, r, l, k⟩ := t.keys
    refine ⟨_ :: vs, .cons (.str _) r, by simp [l], fun i e v a b => ?_⟩
    cases i with
    | zero => simp at a b; subst a; subst b; exact h1
    | succ i => exact k i e v (by simpa using a) (by simpa using b)
theorem bi_list (hK : X.K = C.K) (hw : X.w = C.w) (hc : X.calm = true) : CallR X (.type "list") (cB C (biD .list)) := by
  intro pins s σ H xs us Q I r ⟨ι, S, ds, R, rs, h⟩
  match ds, rs, h with
  | [], rs, h => exact (show False from h).elim
  | d :: e :: t, rs, h => cases d <;> exact (show False from h).elim
  | [d], rs, h =>
    obtain ⟨v, rfl, rv⟩ := rs.one_of
    have other : ∀ ys, seqOf S d = some ys → QV C ι H Q (.ref S.length) (S ++ [.lst ys]) → wpAny (model X.prog X.w) X.A (call (.type "list") us) (EP X pins σ Q) X.xe s := by
      intro ys hy q
      obtain ⟨a, vs, rfl, hs, rs⟩ := seq_v R rv hy
      rw [← hK] at hs
      exact call_list_of pins s σ H _ us Q I r ⟨a, vs, rfl, hs, q.alloc R rs⟩
    cases d with
    | rd ks vs =>
      simp only [biD] at h
      split at h
      · rename_i hl
        have h' : QV C ι H Q (.ref S.length) (S ++ [.lst ks]) := h
        cases rv with
        | @rd p es n _ _ D' r1 =>
          obtain ⟨kv, k1, k2, k3⟩ := r1.keys
          obtain ⟨u, rfl, rx⟩ := vals1 r
          obtain rfl : u = Value.ref p := rx
          have at_ := D'.at_
          have low := D'.low
          rw [← hK] at at_
          have hg := I.kIn p _ at_
          have hz : es.size ≤ sizeLine := by rw [← lim_eq, ← Array.length_toList, ← k2, ← k1.len]; exact hl
          refine PySem.W.kdl_call (kdl_raw (o := ⟨.type "dict", none, .dict es n, #[]⟩) (es := es) (ep := n) low ⟨rfl, rfl, rfl⟩ rfl) (I.ok.hd hc) hg hz fun h2 tk acc' c' hkeep hS hacc => ?_
          refine ⟨.ref s.heap.objs.size, upd H s.heap.objs.size (.lst kv), I.laid hkeep (Nat.le_refl _) (show ObjOk X.prog X.w _ _ _ (.lst kv) from ⟨?_, acc'.toList, c', ?_, ?_⟩), rfl, ?_⟩
          · rw [k2, Array.length_toList]; exact hz
          · have el : acc'.toList.length = acc'.size := by simp
            refine vals_of_at (by rw [el, hacc.1, k2, Array.length_toList]) fun j x w h1 h2 => ?_
            obtain ⟨en, e1, e2⟩ := hacc.2 j w (by rw [← Array.getElem?_toList]; exact h2)
            rw [e2]
            exact k3 j en x (by rw [Array.getElem?_toList]; exact e1) h1
          · rw [Array.toArray_toList]; exact hS
          · exact QV.alloc h' R k1 _ (I.hok.fresh (Nat.le_refl _))
      · exact h.elim
    | _ =>
      simp only [biD] at h
      split at h
      · rename_i ys hy
        exact other ys hy h
      · exact h.elim
theorem bi_tuple (hK : X.K = C.K) : CallR X (.type "tuple") (cB C (biD .tuple)) := by
  intro pins s σ H xs us Q I r ⟨ι, S, ds, R, rs, h⟩
  match ds, rs, h with
  | [], rs, h => exact (show False from h).elim
  | d :: e :: t, rs, h => cases d <;> exact (show False from h).elim
  | [d], rs, h =>
    obtain ⟨v, rfl, rv⟩ := rs.one_of
    simp only [biD] at h
    split at h
    · rename_i ys hy
      have h' : QV C ι H Q (.tup ys) S := h
      obtain ⟨a, vs, rfl, hs, rs⟩ := seq_v R rv hy
      refine call_tuple_of pins s σ H _ us Q I r ⟨a, vs, rfl, ?_⟩
      rw [hK]
      rcases hs with hs | hs
      · exact .inl ⟨hs, h'.tup R rs⟩
      · exact .inr ⟨hs, h'.fin R (.tup hs rs)⟩
    · exact h.elim
theorem bi_all (hK : X.K = C.K) (hc : X.calm = true) : CallR X (.builtin "all") (cB C (biD .all)) := by
  intro pins s σ H xs us Q I r ⟨ι, S, ds, R, rs, h⟩
  match ds, rs, h with
  | [], rs, h => exact (show False from h).elim
  | d :: e :: t, rs, h => cases d <;> exact (show False from h).elim
  | [d], rs, h =>
    obtain ⟨v, rfl, rv⟩ := rs.one_of
    cases d with
    | ref n =>
      simp only [biD] at h
      split at h
      · rename_i bs hb
        rw [Option.bind_eq_some_iff] at hb
        obtain ⟨ys, h1, h2⟩ := hb
        cases rv with
        | ref h0 =>
          obtain ⟨a, vs, g1, g2, g3⟩ := R.list h1
          rw [h0] at g1; cases g1
          rw [g3.bls h2] at g2
          exact cr_all hc pins s σ H _ us Q I r ⟨_, bs, rfl, .inl (.inl g2), QV.fin h R (.bl _)⟩
      · exact h.elim
    | _ => exact (show False from h).elim
theorem bi_any (hK : X.K = C.K) (hc : X.calm = true) : CallR X (.builtin "any") (cB C (biD .any)) := by
  intro pins s σ H xs us Q I r ⟨ι, S, ds, R, rs, h⟩
  match ds, rs, h with
  | [], rs, h => exact (show False from h).elim
  | d :: e :: t, rs, h => cases d <;> exact (show False from h).elim
  | [d], rs, h =>
    obtain ⟨v, rfl, rv⟩ := rs.one_of
    cases d with
    | ref n =>
      simp only [biD] at h
      split at h
      · rename_i bs hb
        rw [Option.bind_eq_some_iff] at hb
        obtain ⟨ys, h1, h2⟩ := hb
        cases rv with
        | ref h0 =>
          obtain ⟨a, vs, g1, g2, g3⟩ := R.list h1
          rw [h0] at g1; cases g1
          rw [g3.bls h2] at g2
          exact cr_any hc pins s σ H _ us Q I r ⟨_, bs, rfl, .inl (.inl g2), QV.fin h R (.bl _)⟩
      · exact h.elim
    | _ => exact (show False from h).elim
theorem bi_sum (hK : X.K = C.K) (hc : X.calm = true) : CallR X (.builtin "sum") (cB C (biD .sum)) := by
  intro pins s σ H xs us Q I r ⟨ι, S, ds, R, rs, h⟩
  match ds, rs, h with
  | [], rs, h => exact (show False from h).elim
  | d :: e :: t, rs, h => cases d <;> exact (show False from h).elim
  | [d], rs, h =>
    obtain ⟨v, rfl, rv⟩ := rs.one_of
    cases d with
    | ref n =>
      simp only [biD] at h
      split at h
      · rename_i bs hb
        rw [Option.bind_eq_some_iff] at hb
        obtain ⟨ys, h1, h2⟩ := hb
        cases rv with
        | ref h0 =>
          obtain ⟨a, vs, g1, g2, g3⟩ := R.list h1
          rw [h0] at g1; cases g1
          rw [g3.ints h2] at g2
          exact cr_sum hc pins s σ H _ us Q I r ⟨_, bs, rfl, .inl (.inl g2), QV.fin h R (.int _)⟩
      · exact h.elim
    | _ => exact (show False from h).elim
theorem bi_int : CallR X (.type "int") (cB C (biD .int)) := by
  intro pins s σ H xs us Q I r ⟨ι, S, ds, R, rs, h⟩
  match ds, rs, h with
  | [], rs, h => exact (show False from h).elim
  | d :: e :: t, rs, h => cases d <;> exact (show False from h).elim
  | [d], rs, h =>
    obtain ⟨v, rfl, rv⟩ := rs.one_of
    cases d with
    | bl b => cases rv; exact call_int1 pins s σ H _ us Q I r (.inr ⟨_, rfl, QV.fin h R (.int _)⟩)
    | int i => cases rv; exact call_int1 pins s σ H _ us Q I r (.inl ⟨_, rfl, QV.fin h R (.int _)⟩)
    | _ => exact (show False from h).elim

/-! ### methods -/
theorem mt_appendD : MtR X "list.append" (mB C (mtD .append)) := by
  intro pins s σ H x xs v us Q I rx rv ⟨ι, S, d, ds, R, rd, rs, h⟩
  cases d with
  | ref n =>
    match ds, rs, h with
    | [], rs, h => exact (show False from h).elim
    | d :: e :: t, rs, h => exact (show False from h).elim
    | [e], rs, h =>
      obtain ⟨w, rfl, rw'⟩ := rs.one_of
      simp only [mtD] at h
      split at h
      · rename_i ys hy
        split at h
        · rename_i hl
          cases rd with
          | ref h0 =>
            obtain ⟨a, vs, g1, g2, g3⟩ := R.list hy
            rw [h0] at g1; cases g1
            exact mt_append pins s σ H _ _ v us Q I rx rv ⟨_, _, _, rfl, rfl, g2, by rw [← g3.len, ← lim_eq]; exact hl, QV.set h R hy h0 (g3.append (.one rw')) .non⟩
        · exact h.elim
      · exact h.elim
  | _ => exact (show False from h).elim
theorem mt_extendD : MtR X "list.extend" (mB C (mtD .extend)) := by
  intro pins s σ H x xs v us Q I rx rv ⟨ι, S, d, ds, R, rd, rs, h⟩
  cases d with
  | ref n =>
    match ds, rs, h with
    | [], rs, h => exact (show False from h).elim
    | d :: e :: t, rs, h => cases d <;> exact (show False from h).elim
    | [e], rs, h =>
      obtain ⟨w, rfl, rw'⟩ := rs.one_of
      cases e with
      | ref m =>
        simp only [mtD] at h
        split at h
        · rename_i ys zs hy hz
          split at h
          · rename_i hl
            cases rd with
            | ref h0 =>
              cases rw' with
              | ref h1 =>
                obtain ⟨a, vs, g1, g2, g3⟩ := R.list hy
                obtain ⟨b, ws, k1, k2, k3⟩ := R.list hz
                rw [h0] at g1; cases g1
                rw [h1] at k1; cases k1
                exact mt_extend pins s σ H _ _ v us Q I rx rv ⟨_, _, _, _, rfl, rfl, g2, k2, by rw [← g3.len, ← k3.len, ← lim_eq]; exact hl, QV.set h R hy h0 (g3.append k3) .non⟩
          · exact h.elim
        · exact h.elim
      | _ => exact (show False from h).elim
  | _ => exact (show False from h).elim
theorem last_v : ∀ {ds : List D} {vs : List V} {d : D}, RVs C ι H ds vs → ds[ds.length - 1]? = some d → ∃ v, vs[vs.length - 1]? = some v ∧ RV C ι H d v := by
  intro ds vs d r h
  rw [r.len] at h
  exact r.get h
theorem mt_popD : MtR X "list.pop" (mB C (mtD .pop)) := by
  intro pins s σ H x xs v us Q I rx rv ⟨ι, S, d, ds, R, rd, rs, h⟩
  cases d with
  | ref n =>
    match ds, rs, h with
    | [], rs, h =>
      cases rs
      simp only [mtD] at h
      split at h
      · rename_i ys hy
        split at h
        · rename_i e he
          cases rd with
          | ref h0 =>
            obtain ⟨a, vs, g1, g2, g3⟩ := R.list hy
            rw [h0] at g1; cases g1
            obtain ⟨w, hw, rw'⟩ := last_v g3 he
            exact mt_pop pins s σ H _ _ v us Q I rx rv ⟨_, _, w, rfl, rfl, g2, hw, QV.set h R hy h0 g3.dropLast rw'⟩
        · exact h.elim
      · exact h.elim
    | e :: t, rs, h => exact (show False from h).elim
  | _ => exact (show False from h).elim
theorem mt_reverseD : MtR X "list.reverse" (mB C (mtD .reverse)) := by
  intro pins s σ H x xs v us Q I rx rv ⟨ι, S, d, ds, R, rd, rs, h⟩
  cases d with
  | ref n =>
    match ds, rs, h with
    | [], rs, h =>
      cases rs
      simp only [mtD] at h
      split at h
      · rename_i ys hy
        cases rd with
        | ref h0 =>
          obtain ⟨a, vs, g1, g2, g3⟩ := R.list hy
          rw [h0] at g1; cases g1
          exact mt_reverse pins s σ H _ _ v us Q I rx rv ⟨_, _, rfl, rfl, g2, QV.set h R hy h0 g3.reverse .non⟩
      · exact h.elim
    | e :: t, rs, h => exact (show False from h).elim
  | _ => exact (show False from h).elim
theorem mt_clearD : MtR X "list.clear" (mB C (mtD .clear)) := by
  intro pins s σ H x xs v us Q I rx rv ⟨ι, S, d, ds, R, rd, rs, h⟩
  cases d with
  | ref n =>
    match ds, rs, h with
    | [], rs, h =>
      cases rs
      simp only [mtD] at h
      split at h
      · rename_i ys hy
        cases rd with
        | ref h0 =>
          obtain ⟨a, vs, g1, g2, g3⟩ := R.list hy
          rw [h0] at g1; cases g1
          exact mt_clear pins s σ H _ _ v us Q I rx rv ⟨_, _, rfl, rfl, g2, QV.set h R hy h0 .nil .non⟩
      · exact h.elim
    | e :: t, rs, h => exact (show False from h).elim
  | _ => exact (show False from h).elim
theorem joinL_eq (sep : List Nat) : ∀ xs : List (List Nat), Dp.joinL sep xs = TL.joinL sep xs
  | [] => rfl
  | [_] => rfl
  | x :: y :: r => by
    show x ++ sep ++ Dp.joinL sep (y :: r) = x ++ (sep ++ TL.joinL sep (y :: r))
    rw [joinL_eq sep (y :: r), List.append_assoc]
theorem spl_eq (c : Nat) : ∀ (acc l : List Nat), TL.spl [c] 0 acc l = spl1 c acc l
  | acc, [] => rfl
  | acc, d :: r => by
    show (if TL.pre [c] (d :: r) = true then acc :: TL.spl [c] ([c].length - 1) [] r else TL.spl [c] 0 (acc ++ [d]) r) = if d = c then acc :: spl1 c [] r else spl1 c (acc ++ [d]) r
    have hp : TL.pre [c] (d :: r) = decide (d = c) := by
      unfold TL.pre
      rw [Bool.eq_iff_iff]; simp
    rw [hp]
    by_cases h : d = c
    · rw [if_pos (decide_eq_true h), if_pos h]
      show acc :: TL.spl [c] 0 [] r = _
      rw [spl_eq c [] r]
    · rw [if_neg (by simpa using h), if_neg h, spl_eq c _ r]
theorem tl_lit (x : List Nat) : tl (⟨x.toArray⟩ : Str) = x := rfl
theorem mt_joinD (hK : X.K = C.K) : MtR X "str.join" (mB C (mtD .join)) := by
  intro pins s σ H x xs v us Q I rx rv ⟨ι, S, d, ds, R, rd, rs, h⟩
  cases d with
  | str sep =>
    match ds, rs, h with
    | [], rs, h => exact (show False from h).elim
    | d :: e :: t, rs, h => exact (show False from h).elim
    | [e], rs, h =>
      obtain ⟨w, rfl, rw'⟩ := rs.one_of
      simp only [mtD] at h
      split at h
      · rename_i ys hy
        rw [Option.bind_eq_some_iff] at hy
        obtain ⟨zs, h1, h2⟩ := hy
        split at h
        · rename_i hl
          cases rd
          obtain ⟨a, vs, rfl, hs, rs'⟩ := seq_v R rw' h1
          rw [rs'.strs h2, ← hK] at hs
          refine mt_join pins s σ H _ _ v us Q I rx rv ⟨_, a, _, rfl, rfl, hs, ?_, ?_⟩
          · simp only [List.map_map, List.length_map, str_len]
            have e : (List.length ∘ fun x => x) = (List.length : List Nat → Nat) := rfl
            have e2 : ((fun x : Str => x.length) ∘ fun x : List Nat => (⟨x.toArray⟩ : Str)) = List.length := by
              funext x; exact str_len x
            rw [e2]; exact hl
          · have e : Txt.join ⟨sep.toArray⟩ (ys.map fun x => (⟨x.toArray⟩ : Str)) = ⟨(Dp.joinL sep ys).toArray⟩ := by
              apply ext_tl
              rw [join_eq, tl_join, tl_lit, tl_lit, joinL_eq, List.map_map]
              have : (tl ∘ fun x : List Nat => (⟨x.toArray⟩ : Str)) = id := rfl
              rw [this, List.map_id]
            rw [e]
            exact QV.fin h R (.str _)
        · exact h.elim
      · exact h.elim
  | _ => exact (show False from h).elim
theorem mt_splitD : MtR X "str.split" (mB C (mtD .split)) := by
  intro pins s σ H x xs v us Q I rx rv ⟨ι, S, d, ds, R, rd, rs, h⟩
  cases d with
  | str cs =>
    match ds, rs, h with
    | [], rs, h => exact (show False from h).elim
    | d :: e :: t, rs, h => cases d <;> first | exact (show False from h).elim | (rename_i l; rcases l with _ | ⟨a, _ | ⟨b, l⟩⟩ <;> exact (show False from h).elim)
    | [e], rs, h =>
      obtain ⟨w, rfl, rw'⟩ := rs.one_of
      cases e with
      | str l =>
        rcases l with _ | ⟨c, _ | ⟨b, l⟩⟩
        · exact (show False from h).elim
        · simp only [mtD] at h
          split at h
          · rename_i hl
            cases rd
            cases rw'
            refine mt_split pins s σ H _ _ v us Q I rx rv ⟨_, _, rfl, rfl, rfl, by rw [str_len, ← lim_eq]; exact hl.1, ?_⟩
            have e : (Txt.split (⟨cs.toArray⟩ : Str) ⟨[c].toArray⟩).map tl = spl1 c [] cs := by
              have hkind : (⟨[c].toArray⟩ : Str).cps.all (· < 256) = true := by
                simp [hl.2]
              rw [split_spl _ _ (by rw [tl_lit]; simp) (kind_ok hkind), tl_lit, tl_lit, spl_eq]
            intro p hp
            have h' : QV C ι H Q (.ref S.length) (S ++ [.lst ((spl1 c [] cs).map .str)]) := h
            refine h'.alloc R ?_ p hp
            rw [← e]
            generalize Txt.split (⟨cs.toArray⟩ : Str) ⟨[c].toArray⟩ = ys
            induction ys with
            | nil => exact .nil
            | cons y r ih =>
              refine .cons ?_ ih
              have := RV.str (C := C) (ι := ι) (H := H) (tl y)
              rw [mk_tl] at this
              exact this
          · exact h.elim
        · exact (show False from h).elim
      | _ => exact (show False from h).elim
  | _ => exact (show False from h).elim
end
end Dp

set_option Elab.async false
set_option maxRecDepth 100000
set_option linter.all false
set_option maxHeartbeats 4000000
/-! Expressions: the core's reckoning against HandS's readings. -/
namespace Dp
open PySem PySem.Spec PyProof.Rows L2 TL

/-- an exception as it lies in the heap -/
def RX (C : MC) (ι : List Addr) (H : Hp) (x : Exn) (c : Value) (dx : Option Addr) : Prop :=
  c = .ref (C.xa x.cls) ∧ (x.fs = [] ∨ ∃ d fs, dx = some d ∧ H d = some (.xd fs) ∧ ∀ f e, x.fs.lookup f = some e → ∃ v, fs.lookup (C.nm f) = some v ∧ RV C ι H e v)
def QX (C : MC) (ι : List Addr) (H : Hp) (E : XK) : Exn → Store → Prop := fun x S' => ∀ ι' H' c dx, Grow ι H ι' H' → Rel C ι' S' H' → RX C ι' H' x c dx → E c dx H'
/-- the slots -/
structure EnvR (C : MC) (ι : List Addr) (H : Hp) (env : Env) (σ : L2.St) : Prop where
  len : env.length = σ.length
  val : ∀ (i : Nat) (d : D), env[i]? = some (some d) → ∃ v : V, σ[i]? = some (some v) ∧ RV C ι H d v

/-- a reading: what r reckons from slots and store -/
def tE (C : MC) (W : WX) (r : Env → Store → R D) : TE := fun σ H Q => ∃ ι env S, Rel C ι S H ∧ EnvR C ι H env σ ∧ Wp (r env S) (QV C ι H Q) (QX C ι H fun c d H' => W c d σ H')
def tB (C : MC) (W : WX) (r : Env → Store → R D) : TT := fun σ H Q => ∃ ι env S, Rel C ι S H ∧ EnvR C ι H env σ ∧
  Wp (r env S) (fun d S' => ∃ k, truth S' d = some k ∧ ∀ ι' H', Grow ι H ι' H' → Rel C ι' S' H' → Q k H') (QX C ι H fun c d H' => W c d σ H')
def tA (C : MC) (W : WX) (r : Env → Store → R (List D)) : TA := fun σ H Q => ∃ ι env S, Rel C ι S H ∧ EnvR C ι H env σ ∧
  Wp (r env S) (fun ds S' => ∀ ι' H' vs, Grow ι H ι' H' → Rel C ι' S' H' → RVs C ι' H' ds vs → Q vs H') (QX C ι H fun c d H' => W c d σ H')
def tO (C : MC) (W : WX) (r : Env → Store → R (Option Int)) : TO := fun σ H Q => ∃ ι env S, Rel C ι S H ∧ EnvR C ι H env σ ∧
  Wp (r env S) (fun o S' => ∀ ι' H', Grow ι H ι' H' → Rel C ι' S' H' → Q o H') (QX C ι H fun c d H' => W c d σ H')

section
variable {C : MC} {W : WX} {ι ι' ι1 : List Addr} {H H' H1 : Hp} {S S' : Store} {env : Env} {σ : L2.St}
theorem EnvR.mono (N : EnvR C ι H env σ) (Re : Rel C ι S H) (g : Grow ι H ι' H') : EnvR C ι' H' env σ :=
  ⟨N.len, fun i d e => let ⟨v, h1, h2⟩ := N.val i d e; ⟨v, h1, h2.mono Re g⟩⟩
theorem QX.grow {E : XK} (g : Grow ι H ι1 H1) {x : Exn} {S : Store} (h : QX C ι H E x S) : QX C ι1 H1 E x S := fun ι' H' c d k R r => h ι' H' c d (g.trans k) R r
theorem PE.weak {X : Cx} {e : Expr} {t t' : TE} (h : PE X e t) (w : ∀ σ H Q, t' σ H Q → t σ H Q) : PE X e t' := ⟨fun pins s σ H Q I q => h.run pins s σ H Q I (w σ H Q q)⟩
theorem PT.weak {X : Cx} {e : Expr} {t t' : TT} (h : PT X e t) (w : ∀ σ H Q, t' σ H Q → t σ H Q) : PT X e t' := ⟨fun pins s σ H Q I q => h.run pins s σ H Q I (w σ H Q q)⟩
theorem PA.weak {X : Cx} {e : List Expr} {t t' : TA} (h : PA X e t) (w : ∀ σ H Q, t' σ H Q → t σ H Q) : PA X e t' := ⟨fun pos pins s σ H Q I q => h.run pos pins s σ H Q I (w σ H Q q)⟩
theorem PO.weak {X : Cx} {e : Option Expr} {t t' : TO} (h : PO X e t) (w : ∀ σ H Q, t' σ H Q → t σ H Q) : PO X e t' := ⟨fun pins s σ H Q I q => h.run pins s σ H Q I (w σ H Q q)⟩

/-- go on: from what a's value wants -/
theorem tE.of {a : Env → Store → R D} {q : D → Store → Prop} {x : Exn → Store → Prop} {Q : VK} (Re : Rel C ι S H) (N : EnvR C ι H env σ) (h : Wp (a env S) q x)
    (hx : ∀ y S', x y S' → QX C ι H (fun c d H' => W c d σ H') y S') (hq : ∀ d S', q d S' → QV C ι H Q d S') : tE C W a σ H Q :=
  ⟨ι, env, S, Re, N, h.mono hq hx⟩
theorem tA.of {a : Env → Store → R (List D)} {q : List D → Store → Prop} {x : Exn → Store → Prop} {Q : List V → Hp → Prop} (Re : Rel C ι S H) (N : EnvR C ι H env σ) (h : Wp (a env S) q x)
    (hx : ∀ y S', x y S' → QX C ι H (fun c d H' => W c d σ H') y S') (hq : ∀ ds S', q ds S' → ∀ ι' H' vs, Grow ι H ι' H' → Rel C ι' S' H' → RVs C ι' H' ds vs → Q vs H') : tA C W a σ H Q :=
  ⟨ι, env, S, Re, N, h.mono hq hx⟩
theorem tO.of {a : Env → Store → R (Option Int)} {q : Option Int → Store → Prop} {x : Exn → Store → Prop} {Q : Option Int → Hp → Prop} (Re : Rel C ι S H) (N : EnvR C ι H env σ) (h : Wp (a env S) q x)
    (hx : ∀ y S', x y S' → QX C ι H (fun c d H' => W c d σ H') y S') (hq : ∀ ds S', q ds S' → ∀ ι' H', Grow ι H ι' H' → Rel C ι' S' H' → Q ds H') : tO C W a σ H Q :=
  ⟨ι, env, S, Re, N, h.mono hq hx⟩
theorem tB.of {a : Env → Store → R D} {q : D → Store → Prop} {x : Exn → Store → Prop} {Q : Bool → Hp → Prop} (Re : Rel C ι S H) (N : EnvR C ι H env σ) (h : Wp (a env S) q x)
    (hx : ∀ y S', x y S' → QX C ι H (fun c d H' => W c d σ H') y S') (hq : ∀ d S', q d S' → ∃ k, truth S' d = some k ∧ ∀ ι' H', Grow ι H ι' H' → Rel C ι' S' H' → Q k H') : tB C W a σ H Q :=
  ⟨ι, env, S, Re, N, h.mono hq hx⟩

variable {X : Cx} {a b c : Expr} {pos : Pos} {ra rb rc : Env → Store → R D}

/-- a two-place operator -/
theorem s_op2 {f : D → D → Store → R D} {r : TE} (hr : ∀ σ H Q, tOp (r2 C f) (tE C W ra) (tE C W rb) σ H Q → r σ H Q) {e : Expr} (h : PE X e r) :
    PE X e (tE C W fun env S => (ra env S).bind fun x S1 => (rb env S1).bind fun y S2 => f x y S2) := by
  refine PE.weak h fun σ H Q ⟨ι, env, S, Re, N, h⟩ => hr σ H Q ?_
  refine tE.of Re N (Wp.bind.mp h) (fun _ _ z => z) fun x S1 h1 ι1 H1 v g1 R1 v1 => ?_
  refine tE.of R1 (N.mono Re g1) (Wp.bind.mp h1) (fun _ _ z => z.grow g1) fun y S2 h2 ι2 H2 u g2 R2 v2 => ?_
  exact ⟨ι2, S2, x, y, R2, v1.mono R1 g2, v2, h2.mono (fun _ _ z => z.grow (g1.trans g2)) fun _ _ _ => trivial⟩
theorem s_bin (hK : X.K = C.K) (o : BO) (ha : PE X a (tE C W ra)) (hb : PE X b (tE C W rb)) :
    PE X (.BinOp a (opOf o) b pos) (tE C W fun env S => (ra env S).bind fun x S1 => (rb env S1).bind fun y S2 => binD o x y S2) :=
  s_op2 (fun _ _ _ z => z) (pe_op (op_binD hK o) ha hb)
theorem s_idx (hK : X.K = C.K) (hw : X.w = C.w) (ha : PE X a (tE C W ra)) (hb : PE X b (tE C W rb)) (hs : PlainIx b) :
    PE X (.Subscript a b pos) (tE C W fun env S => (ra env S).bind fun x S1 => (rb env S1).bind fun y S2 => R.of S2 (idxD S2 x y)) :=
  s_op2 (f := fun x y S2 => R.of S2 (idxD S2 x y)) (fun _ _ _ z => z) (pe_ix (ix_D hK hw) ha hb hs)
/-- a comparison -/
theorem cmp_step {f : D → D → Store → Option Bool} {Q : VK} {P : D → Store → Prop} (Re : Rel C ι S H) (N : EnvR C ι H env σ)
    (h : Wp ((ra env S).bind fun x S1 => (rb env S1).bind fun y S2 => (R.of S2 (f x y S2)).bind fun k S3 => .ok (.bl k) S3) P (QX C ι H fun c d H' => W c d σ H'))
    (hP : ∀ k S', P (.bl k) S' → ∀ ι' H', Grow ι H ι' H' → Rel C ι' S' H' → Q (.bl k) H') : tOp (c2 C f) (tE C W ra) (tE C W rb) σ H Q := by
  refine tE.of Re N (Wp.bind.mp h) (fun _ _ z => z) fun x S1 h1 ι1 H1 v g1 R1 v1 => ?_
  refine tE.of R1 (N.mono Re g1) (Wp.bind.mp h1) (fun _ _ z => z.grow g1) fun y S2 h2 ι2 H2 u g2 R2 v2 => ?_
  obtain ⟨k, hk, q⟩ := (Wp.bind.mp h2).of
  exact ⟨ι2, S2, x, y, k, R2, v1.mono R1 g2, v2, hk, hP k S2 q ι2 H2 (g1.trans g2) R2⟩
theorem s_cmp (hK : X.K = C.K) (hw : X.w = C.w) (hu : X.A.units + 100 < cLine) (o : CO) (ha : PE X a (tE C W ra)) (hb : PE X b (tE C W rb)) (hm : behindInMarks (cmpOf o) b = false) :
    PE X (.Compare a [cmpOf o] [b] pos) (tE C W fun env S => (ra env S).bind fun x S1 => (rb env S1).bind fun y S2 => (R.of S2 (cmpD o x y S2)).bind fun k S3 => .ok (.bl k) S3) :=
  PE.weak (pe_cmpR (op_cmpD hK hw hu o) ha hb hm) fun _ _ _ ⟨_, _, _, Re, N, h⟩ => cmp_step Re N h fun k _ q ι' H' g R' => q ι' H' _ g R' (.bl k)
theorem st_cmp (hK : X.K = C.K) (hw : X.w = C.w) (hu : X.A.units + 100 < cLine) (o : CO) (ha : PE X a (tE C W ra)) (hb : PE X b (tE C W rb)) (hm : behindInMarks (cmpOf o) b = false) :
    PT X (.Compare a [cmpOf o] [b] pos) (tB C W fun env S => (ra env S).bind fun x S1 => (rb env S1).bind fun y S2 => (R.of S2 (cmpD o x y S2)).bind fun k S3 => .ok (.bl k) S3) :=
  PT.weak (pt_cmpR (op_cmpD hK hw hu o) ha hb hm) fun _ _ Q ⟨_, _, _, Re, N, h⟩ => cmp_step Re N h fun k _ ⟨k', e, q⟩ ι' H' g R' => ⟨k, rfl, by cases e; exact q ι' H' g R'⟩
/-- two comparisons in a row -/
theorem chain_step {f f' : D → D → Store → Option Bool} {Q : VK} {P : D → Store → Prop} (Re : Rel C ι S H) (N : EnvR C ι H env σ)
    (h : Wp ((ra env S).bind fun x S1 => (rb env S1).bind fun y S2 => match f x y S2 with
      | some true => (rc env S2).bind fun z S3 => (R.of S3 (f' y z S3)).bind fun k S4 => .ok (.bl k) S4
      | some false => .ok (.bl false) S2
      | none => .err) P (QX C ι H fun c d H' => W c d σ H'))
    (hP : ∀ k S', P (.bl k) S' → ∀ ι' H', Grow ι H ι' H' → Rel C ι' S' H' → Q (.bl k) H') : tChain (c2 C f) (c2 C f') (tE C W ra) (tE C W rb) (tE C W rc) σ H Q := by
  refine tE.of Re N (Wp.bind.mp h) (fun _ _ z => z) fun x S1 h1 ι1 H1 v g1 R1 v1 => ?_
  refine tE.of R1 (N.mono Re g1) (Wp.bind.mp h1) (fun _ _ z => z.grow g1) fun y S2 h2 ι2 H2 u g2 R2 v2 => ?_
  have N2 := (N.mono Re g1).mono R1 g2
  cases e : f x y S2 with
  | none => rw [e] at h2; exact h2.elim
  | some k =>
    rw [e] at h2
    refine ⟨ι2, S2, x, y, k, R2, v1.mono R1 g2, v2, e, k, rfl, ?_⟩
    cases k with
    | false =>
      rw [if_neg Bool.false_ne_true]
      exact hP false S2 h2 ι2 H2 (g1.trans g2) R2
    | true =>
      rw [if_pos rfl]
      refine tE.of R2 N2 (Wp.bind.mp h2) (fun _ _ z => z.grow (g1.trans g2)) fun z S3 h3 ι3 H3 w g3 R3 v3 => ?_
      obtain ⟨k, hk, q⟩ := (Wp.bind.mp h3).of
      exact ⟨ι3, S3, y, z, k, R3, v2.mono R2 g3, v3, hk, hP k S3 q ι3 H3 ((g1.trans g2).trans g3) R3⟩
theorem s_chain (hK : X.K = C.K) (hw : X.w = C.w) (hu : X.A.units + 100 < cLine) (o p : CO) (ha : PE X a (tE C W ra)) (hb : PE X b (tE C W rb)) (hc : PE X c (tE C W rc)) (hm : behindInMarks (cmpOf p) c = false) :
    PE X (.Compare a [cmpOf o, cmpOf p] [b, c] pos) (tE C W fun env S => (ra env S).bind fun x S1 => (rb env S1).bind fun y S2 => match cmpD o x y S2 with
      | some true => (rc env S2).bind fun z S3 => (R.of S3 (cmpD p y z S3)).bind fun k S4 => .ok (.bl k) S4
      | some false => .ok (.bl false) S2
      | none => .err) :=
  PE.weak (pe_chain (op_cmpD hK hw hu o) (op_cmpD hK hw hu p) ha hb hc hm) fun _ _ _ ⟨_, _, _, Re, N, h⟩ => chain_step Re N h fun k _ q ι' H' g R' => q ι' H' _ g R' (.bl k)
theorem st_chain (hK : X.K = C.K) (hw : X.w = C.w) (hu : X.A.units + 100 < cLine) (o p : CO) (ha : PE X a (tE C W ra)) (hb : PE X b (tE C W rb)) (hc : PE X c (tE C W rc)) (hm : behindInMarks (cmpOf p) c = false) :
    PT X (.Compare a [cmpOf o, cmpOf p] [b, c] pos) (tB C W fun env S => (ra env S).bind fun x S1 => (rb env S1).bind fun y S2 => match cmpD o x y S2 with
      | some true => (rc env S2).bind fun z S3 => (R.of S3 (cmpD p y z S3)).bind fun k S4 => .ok (.bl k) S4
      | some false => .ok (.bl false) S2
      | none => .err) :=
  PT.weak (pt_chain (op_cmpD hK hw hu o) (op_cmpD hK hw hu p) ha hb hc hm) fun _ _ Q ⟨_, _, _, Re, N, h⟩ => chain_step Re N h fun k _ ⟨k', e, q⟩ ι' H' g R' => ⟨k, rfl, by cases e; exact q ι' H' g R'⟩
/-- any expression as a test, by its truth -/
theorem st_tru (hK : X.K = C.K) (ha : PE X a (tE C W ra)) (he : ∀ whole, isTrue a X.env whole = (do let v ← whole; standAt a.pos; holding [v] (truthy v))) : PT X a (tB C W ra) := by
  refine PT.weak (pt_truth ha he) fun σ H Q ⟨ι, env, S, Re, N, h⟩ => ?_
  refine tE.of Re N h (fun _ _ z => z) fun d S' ⟨k, e, q⟩ ι' H' v g R' r => ⟨k, ?_, q ι' H' g R'⟩
  rw [hK]; exact truth_v R' r e
/-- what a test's value wants -/
theorem tru_step {f : D → Store → R D} {Q : VK} {P : D → Store → Prop} {k : Bool → D → Store → R D} (Re : Rel C ι S H) (N : EnvR C ι H env σ)
    (h : Wp ((ra env S).bind fun x S1 => match truth S1 x with
      | some b => k b x S1
      | none => .err) P (QX C ι H fun c d H' => W c d σ H'))
    (hP : ∀ b x S1 ι1 H1 v, Wp (k b x S1) P (QX C ι H fun c d H' => W c d σ H') → Grow ι H ι1 H1 → Rel C ι1 S1 H1 → RV C ι1 H1 x v → TruV C.K v H1 b → ∃ b', TruV C.K v H1 b' ∧ (b' = b → Q v H1)) : True := trivial
theorem s_not (hK : X.K = C.K) (ha : PE X a (tE C W ra)) : PE X (.UnaryOp .Not a pos) (tE C W fun env S => (ra env S).bind fun x S1 => match truth S1 x with
    | some b => .ok (.bl (!b)) S1
    | none => .err) := by
  refine PE.weak (pe_notT ha) fun σ H Q ⟨ι, env, S, Re, N, h⟩ => ?_
  refine tE.of Re N (Wp.bind.mp h) (fun _ _ z => z) fun x S1 h1 ι1 H1 v g1 R1 v1 => ?_
  cases e : truth S1 x with
  | none => rw [e] at h1; exact h1.elim
  | some k =>
    rw [e] at h1
    exact ⟨k, by rw [hK]; exact truth_v R1 v1 e, h1 ι1 H1 _ g1 R1 (.bl _)⟩
theorem st_not (ha : PT X a (tB C W ra)) : PT X (.UnaryOp .Not a pos) (tB C W fun env S => (ra env S).bind fun x S1 => match truth S1 x with
    | some b => .ok (.bl (!b)) S1
    | none => .err) := by
  refine PT.weak (pt_not ha) fun σ H Q ⟨ι, env, S, Re, N, h⟩ => ?_
  refine tB.of Re N (Wp.bind.mp h) (fun _ _ z => z) fun x S1 h1 => ?_
  cases e : truth S1 x with
  | none => rw [e] at h1; exact h1.elim
  | some k =>
    rw [e] at h1
    obtain ⟨k', e', q⟩ := h1
    cases e'
    exact ⟨k, rfl, fun ι' H' g R' => q ι' H' g R'⟩
variable {rest : List Expr}
theorem s_and (hK : X.K = C.K) (ha : PE X a (tE C W ra)) (hb : PE X (.BoolOp .And (b :: rest) pos) (tE C W rb)) : PE X (.BoolOp .And (a :: b :: rest) pos) (tE C W fun env S => (ra env S).bind fun x S1 => match truth S1 x with
    | some true => rb env S1
    | some false => .ok x S1
    | none => .err) := by
  refine PE.weak (pe_andT ha hb) fun σ H Q ⟨ι, env, S, Re, N, h⟩ => ?_
  refine tE.of Re N (Wp.bind.mp h) (fun _ _ z => z) fun x S1 h1 ι1 H1 v g1 R1 v1 => ?_
  cases e : truth S1 x with
  | none => rw [e] at h1; exact h1.elim
  | some k =>
    rw [e] at h1
    refine ⟨k, by rw [hK]; exact truth_v R1 v1 e, ?_⟩
    cases k with
    | true => rw [if_pos rfl]; exact tE.of R1 (N.mono Re g1) h1 (fun _ _ z => z.grow g1) fun _ _ z => z.grow g1
    | false => rw [if_neg Bool.false_ne_true]; exact h1 ι1 H1 _ g1 R1 v1
theorem s_or (hK : X.K = C.K) (ha : PE X a (tE C W ra)) (hb : PE X (.BoolOp .Or (b :: rest) pos) (tE C W rb)) : PE X (.BoolOp .Or (a :: b :: rest) pos) (tE C W fun env S => (ra env S).bind fun x S1 => match truth S1 x with
    | some true => .ok x S1
    | some false => rb env S1
    | none => .err) := by
  refine PE.weak (pe_orT ha hb) fun σ H Q ⟨ι, env, S, Re, N, h⟩ => ?_
  refine tE.of Re N (Wp.bind.mp h) (fun _ _ z => z) fun x S1 h1 ι1 H1 v g1 R1 v1 => ?_
  cases e : truth S1 x with
  | none => rw [e] at h1; exact h1.elim
  | some k =>
    rw [e] at h1
    refine ⟨k, by rw [hK]; exact truth_v R1 v1 e, ?_⟩
    cases k with
    | false => rw [if_neg Bool.false_ne_true]; exact tE.of R1 (N.mono Re g1) h1 (fun _ _ z => z.grow g1) fun _ _ z => z.grow g1
    | true => rw [if_pos rfl]; exact h1 ι1 H1 _ g1 R1 v1
theorem tB.grow {Q : Bool → Hp → Prop} (g1 : Grow ι H ι1 H1) {d : D} {S' : Store} (z : ∃ k, truth S' d = some k ∧ ∀ ι' H', Grow ι H ι' H' → Rel C ι' S' H' → Q k H') :
    ∃ k, truth S' d = some k ∧ ∀ ι' H', Grow ι1 H1 ι' H' → Rel C ι' S' H' → Q k H' := let ⟨k, e, q⟩ := z; ⟨k, e, fun ι' H' g R => q ι' H' (g1.trans g) R⟩
theorem sw_and (ha : PT X a (tB C W ra)) (hb : PW X (.BoolOp .And (b :: rest) pos) (tB C W rb)) : PW X (.BoolOp .And (a :: b :: rest) pos) (tB C W fun env S => (ra env S).bind fun x S1 => match truth S1 x with
    | some true => rb env S1
    | some false => .ok x S1
    | none => .err) := by
  have w : ∀ σ H Q, tB C W (fun env S => (ra env S).bind fun x S1 => match truth S1 x with
    | some true => rb env S1
    | some false => .ok x S1
    | none => .err) σ H Q → tAnd (tB C W ra) (tB C W rb) σ H Q := fun σ H Q ⟨ι, env, S, Re, N, h⟩ => by
    refine tB.of Re N (Wp.bind.mp h) (fun _ _ z => z) fun x S1 h1 => ?_
    cases e : truth S1 x with
    | none => rw [e] at h1; exact h1.elim
    | some k =>
      rw [e] at h1
      refine ⟨k, rfl, fun ι1 H1 g1 R1 => ?_⟩
      cases k with
      | true => rw [if_pos rfl]; exact tB.of R1 (N.mono Re g1) h1 (fun _ _ z => z.grow g1) fun _ _ z => tB.grow g1 z
      | false =>
        rw [if_neg Bool.false_ne_true]
        obtain ⟨k', e', q⟩ := h1
        rw [e] at e'; cases e'
        exact q ι1 H1 g1 R1
  have hp := pw_and ha hb
  exact ⟨fun wh pins s σ H Q I q => hp.run wh pins s σ H Q I (w σ H Q q)⟩
theorem sw_or (ha : PT X a (tB C W ra)) (hb : PW X (.BoolOp .Or (b :: rest) pos) (tB C W rb)) : PW X (.BoolOp .Or (a :: b :: rest) pos) (tB C W fun env S => (ra env S).bind fun x S1 => match truth S1 x with
    | some true => .ok x S1
    | some false => rb env S1
    | none => .err) := by
  have w : ∀ σ H Q, tB C W (fun env S => (ra env S).bind fun x S1 => match truth S1 x with
    | some true => .ok x S1
    | some false => rb env S1
    | none => .err) σ H Q → tOr (tB C W ra) (tB C W rb) σ H Q := fun σ H Q ⟨ι, env, S, Re, N, h⟩ => by
    refine tB.of Re N (Wp.bind.mp h) (fun _ _ z => z) fun x S1 h1 => ?_
    cases e : truth S1 x with
    | none => rw [e] at h1; exact h1.elim
    | some k =>
      rw [e] at h1
      refine ⟨k, rfl, fun ι1 H1 g1 R1 => ?_⟩
      cases k with
      | false => rw [if_neg Bool.false_ne_true]; exact tB.of R1 (N.mono Re g1) h1 (fun _ _ z => z.grow g1) fun _ _ z => tB.grow g1 z
      | true =>
        rw [if_pos rfl]
        obtain ⟨k', e', q⟩ := h1
        rw [e] at e'; cases e'
        exact q ι1 H1 g1 R1
  have hp := pw_or ha hb
  exact ⟨fun wh pins s σ H Q I q => hp.run wh pins s σ H Q I (w σ H Q q)⟩
/-- a if c else b -/
theorem s_ite (hc : PT X c (tB C W rc)) (ha : PE X a (tE C W ra)) (hb : PE X b (tE C W rb)) : PE X (.IfExp c a b pos) (tE C W fun env S => (rc env S).bind fun x S1 => match truth S1 x with
    | some true => ra env S1
    | some false => rb env S1
    | none => .err) := by
  refine PE.weak (pe_ifExp hc ha hb) fun σ H Q ⟨ι, env, S, Re, N, h⟩ => ?_
  refine tB.of Re N (Wp.bind.mp h) (fun _ _ z => z) fun x S1 h1 => ?_
  cases e : truth S1 x with
  | none => rw [e] at h1; exact h1.elim
  | some k =>
    rw [e] at h1
    refine ⟨k, rfl, fun ι1 H1 g1 R1 => ?_⟩
    cases k with
    | true => rw [if_pos rfl]; exact tE.of R1 (N.mono Re g1) h1 (fun _ _ z => z.grow g1) fun _ _ z => z.grow g1
    | false => rw [if_neg Bool.false_ne_true]; exact tE.of R1 (N.mono Re g1) h1 (fun _ _ z => z.grow g1) fun _ _ z => z.grow g1
theorem st_ite (hc : PT X c (tB C W rc)) (ha : PT X a (tB C W ra)) (hb : PT X b (tB C W rb)) : PT X (.IfExp c a b pos) (tB C W fun env S => (rc env S).bind fun x S1 => match truth S1 x with
    | some true => ra env S1
    | some false => rb env S1
    | none => .err) := by
  refine ⟨fun pins s σ H Q I h => ?_⟩
  obtain ⟨ι, env, S, Re, N, h⟩ := h
  have hq : tB C W rc σ H fun k H1 => if k = true then tB C W ra σ H1 Q else tB C W rb σ H1 Q := by
    refine tB.of Re N (Wp.bind.mp h) (fun _ _ z => z) fun x S1 h1 => ?_
    cases e : truth S1 x with
    | none => rw [e] at h1; exact h1.elim
    | some k =>
      rw [e] at h1
      refine ⟨k, rfl, fun ι1 H1 g1 R1 => ?_⟩
      cases k with
      | true => rw [if_pos rfl]; exact tB.of R1 (N.mono Re g1) h1 (fun _ _ z => z.grow g1) fun _ _ z => tB.grow g1 z
      | false => rw [if_neg Bool.false_ne_true]; exact tB.of R1 (N.mono Re g1) h1 (fun _ _ z => z.grow g1) fun _ _ z => tB.grow g1 z
  refine isTrue_IfExp (thn (hc.run pins s σ H _ I hq) fun d s1 ⟨H1, I1, q1⟩ => ?_)
  cases d with
  | true => exact ha.run pins s1 σ H1 Q I1 (by simpa using q1)
  | false => exact hb.run pins s1 σ H1 Q I1 (by simpa using q1)

/-! ### names, constants, one place -/
theorem s_lit {v : V} {d : D} (h : PE X a (tC v)) (hd : ∀ ι H, RV C ι H d v) : PE X a (tE C W fun _ S => .ok d S) :=
  PE.weak h fun σ H Q ⟨ι, _, S, Re, _, h⟩ => QV.fin h Re (hd ι H)
theorem s_var {i : Nat} {x : Str} (hN : X.N[i]? = some x) (hv : Vis X.env.scope x) (hd : (x == ("__debug__" : Str)) = false) (hcd : (x == ("__classdict__" : Str)) = false) :
    PE X (.Name x pos) (tE C W fun env S => R.of S (env[i]?.join)) := by
  refine PE.weak (pe_var hN hv hd hcd) fun σ H Q ⟨ι, env, S, Re, N, h⟩ => ?_
  obtain ⟨d, e, q⟩ := h.of
  have e' : env[i]? = some (some d) := by
    cases z : env[i]? with
    | none => rw [z] at e; cases e
    | some o => rw [z] at e; cases o with
      | none => cases e
      | some d' => cases e; rfl
  obtain ⟨v, h1, h2⟩ := N.val i d e'
  exact ⟨v, h1, q.fin Re h2⟩
theorem s_neg (ha : PE X a (tE C W ra)) : PE X (.UnaryOp .USub a pos) (tE C W fun env S => (ra env S).bind fun x S1 => match x with
    | .int i => .ok (.int (-i)) S1
    | _ => .err) := by
  refine PE.weak (pe_un un_neg ha) fun σ H Q ⟨ι, env, S, Re, N, h⟩ => ?_
  refine tE.of Re N (Wp.bind.mp h) (fun _ _ z => z) fun x S1 h1 ι1 H1 v g1 R1 v1 => ?_
  cases x with
  | int i => cases v1; exact ⟨i, rfl, h1 ι1 H1 _ g1 R1 (.int _)⟩
  | _ => exact (show False from h1).elim

/-! ### slices -/
theorem so_none : PO X none (tO C W fun _ S => .ok none S) := PO.weak po_none fun σ H Q ⟨ι, _, S, Re, _, h⟩ => h ι H .refl Re
theorem so_some (ha : PE X a (tE C W ra)) : PO X (some a) (tO C W fun env S => (ra env S).bind fun x S1 => match x with
    | .int i => .ok (some i) S1
    | _ => .err) := by
  refine PO.weak (po_some ha) fun σ H Q ⟨ι, env, S, Re, N, h⟩ => ?_
  refine tE.of Re N (Wp.bind.mp h) (fun _ _ z => z) fun x S1 h1 ι1 H1 v g1 R1 v1 => ?_
  cases x with
  | int i => cases v1; exact ⟨i, rfl, h1 ι1 H1 g1 R1⟩
  | _ => exact (show False from h1).elim
theorem s_slc {lo hi : Option Expr} {p2 : Pos} {rl rh : Env → Store → R (Option Int)} (hK : X.K = C.K) (ha : PE X a (tE C W ra)) (hl : PO X lo (tO C W rl)) (hh : PO X hi (tO C W rh)) :
    PE X (.Subscript a (.Slice lo hi none p2) pos) (tE C W fun env S => (ra env S).bind fun x S1 => (rl env S1).bind fun l S2 => (rh env S2).bind fun h S3 => slcD S3 x l h) := by
  refine PE.weak (pe_slice (sl_D hK) ha hl hh) fun σ H Q ⟨ι, env, S, Re, N, h⟩ => ?_
  refine tE.of Re N (Wp.bind.mp h) (fun _ _ z => z) fun x S1 h1 ι1 H1 v g1 R1 v1 => ?_
  refine tO.of R1 (N.mono Re g1) (Wp.bind.mp h1) (fun _ _ z => z.grow g1) fun l S2 h2 ι2 H2 g2 R2 => ?_
  refine tO.of R2 ((N.mono Re g1).mono R1 g2) (Wp.bind.mp h2) (fun _ _ z => z.grow (g1.trans g2)) fun u S3 h3 ι3 H3 g3 R3 => ?_
  exact ⟨ι3, S3, x, R3, v1.mono R1 (g2.trans g3), h3.mono (fun _ _ z => z.grow ((g1.trans g2).trans g3)) fun _ _ _ => trivial⟩

/-! ### argument lists, displays, calls -/
variable {es : List Expr} {rs : Env → Store → R (List D)}
theorem sa_nil : PA X [] (tA C W fun _ S => .ok [] S) := PA.weak pa_nil fun σ H Q ⟨ι, _, S, Re, _, h⟩ => h ι H [] .refl Re .nil
theorem sa_cons (ha : PE X a (tE C W ra)) (hr : PA X es (tA C W rs)) (hs : starEach (a :: es) X.env = (false, eval a X.env) :: starEach es X.env) :
    PA X (a :: es) (tA C W fun env S => (ra env S).bind fun x S1 => (rs env S1).bind fun xs S2 => .ok (x :: xs) S2) := by
  refine PA.weak (pa_cons ha hr hs) fun σ H Q ⟨ι, env, S, Re, N, h⟩ => ?_
  refine tE.of Re N (Wp.bind.mp h) (fun _ _ z => z) fun x S1 h1 ι1 H1 v g1 R1 v1 => ?_
  exact tA.of R1 (N.mono Re g1) (Wp.bind.mp h1) (fun _ _ z => z.grow g1) fun xs S2 h2 ι2 H2 vs g2 R2 v2 => h2 ι2 H2 (v :: vs) (g1.trans g2) R2 (.cons (v1.mono R1 g2) v2)
theorem s_tup {k : Nat} (ha : PA X es (tA C W rs)) : PE X (.Tuple es k pos) (tE C W fun env S => (rs env S).bind fun xs S1 => if xs.length ≤ lim then .ok (.tup xs) S1 else .err) := by
  refine PE.weak (pe_tup ha) fun σ H Q ⟨ι, env, S, Re, N, h⟩ => ?_
  refine tA.of Re N (Wp.bind.mp h) (fun _ _ z => z) fun xs S1 h1 ι1 H1 vs g1 R1 v1 => ?_
  split at h1
  · rename_i hl
    exact ⟨by rw [← v1.len, ← lim_eq]; exact hl, QV.tup (QV.grow g1 h1) R1 v1⟩
  · exact h1.elim
theorem s_lst (ha : PA X es (tA C W rs)) : PE X (.List es pos) (tE C W fun env S => (rs env S).bind fun xs S1 => if xs.length ≤ lim then alloc (.lst xs) S1 else .err) := by
  refine PE.weak (pe_lst ha) fun σ H Q ⟨ι, env, S, Re, N, h⟩ => ?_
  refine tA.of Re N (Wp.bind.mp h) (fun _ _ z => z) fun xs S1 h1 ι1 H1 vs g1 R1 v1 => ?_
  split at h1
  · rename_i hl
    exact ⟨by rw [← v1.len, ← lim_eq]; exact hl, QV.alloc (QV.grow g1 h1) R1 v1⟩
  · exact h1.elim
/-- a def's promise, by the reckoner -/
def spF (C : MC) (f : List D → Store → R D) : Sp := fun vs H Q E => ∃ ι S ds, Rel C ι S H ∧ RVs C ι H ds vs ∧ Wp (f ds S) (QV C ι H Q) (QX C ι H E)
theorem s_call {x : Str} {p : Pos} {fa : Addr} {fd : FuncData} {ps : List Str} {k : Nat} {f : List D → Store → R D} (tk : Takes X W)
    (F : FnOk X.prog X.w X.K X.mg X.base (L2.CX X.prog X.w) k fa fd ps (spF C f)) (hr : Room k X.A) (hg : Gl X x) (hm : X.mg x = some (.ref fa)) (hk : PySem.W.keepIn X.K (.ref fa) = true) (hb : Binds X.K fd ps [])
    (ha : PA X (a :: es) (tA C W rs)) (hdb : (x == ("__debug__" : Str)) = false) (he : starEach (a :: es) X.env = (false, eval a X.env) :: starEach es X.env) (hpl : (backTo pos (starEach es X.env)).any (·.1) = false) :
    PE X (.Call (.Name x p) (a :: es) [] pos) (tE C W fun env S => (rs env S).bind fun xs S1 => f xs S1) := by
  refine PE.weak (pe_callS F hr hg hm hk hb (fun σ => passAt tk σ) ha hdb he hpl) fun σ H Q ⟨ι, env, S, Re, N, h⟩ => ?_
  refine tA.of Re N (Wp.bind.mp h) (fun _ _ z => z) fun xs S1 h1 ι1 H1 vs g1 R1 v1 => ?_
  exact ⟨ι1, S1, xs, R1, v1, h1.mono (fun _ _ z => z.grow g1) fun _ _ z => z.grow g1⟩
theorem s_cb {x : Str} {p : Pos} {id : String} {f : List D → Store → R D} (hc : CallR X (.builtin id) (cB C f)) (hg : Gl X x) (hm : X.mg x = none) (hv : bootBuiltins x = some (.builtin id)) (ha : PA X (a :: es) (tA C W rs)) (hn : x ≠ "__name__") (hdb : (x == ("__debug__" : Str)) = false)
    (he : starEach (a :: es) X.env = (false, eval a X.env) :: starEach es X.env) (hpl : (backTo pos (starEach es X.env)).any (·.1) = false) :
    PE X (.Call (.Name x p) (a :: es) [] pos) (tE C W fun env S => (rs env S).bind fun xs S1 => f xs S1) := by
  refine PE.weak (pe_callB hc hg hm hv ha hn hdb he hpl) fun σ H Q ⟨ι, env, S, Re, N, h⟩ => ?_
  refine tA.of Re N (Wp.bind.mp h) (fun _ _ z => z) fun xs S1 h1 ι1 H1 vs g1 R1 v1 => ?_
  exact ⟨ι1, S1, xs, R1, v1, h1.mono (fun _ _ z => z.grow g1) fun _ _ _ => trivial⟩
theorem s_cty {x : Str} {p : Pos} {id : String} {f : List D → Store → R D} (hc : CallR X (.type id) (cB C f)) (hg : Gl X x) (hm : X.mg x = none) (hv : bootBuiltins x = some (.type id)) (ha : PA X (a :: es) (tA C W rs)) (hn : x ≠ "__name__") (hdb : (x == ("__debug__" : Str)) = false)
    (he : starEach (a :: es) X.env = (false, eval a X.env) :: starEach es X.env) (hpl : (backTo pos (starEach es X.env)).any (·.1) = false) :
    PE X (.Call (.Name x p) (a :: es) [] pos) (tE C W fun env S => (rs env S).bind fun xs S1 => f xs S1) := by
  refine PE.weak (pe_callTy hc hg hm hv ha hn hdb he hpl) fun σ H Q ⟨ι, env, S, Re, N, h⟩ => ?_
  refine tA.of Re N (Wp.bind.mp h) (fun _ _ z => z) fun xs S1 h1 ι1 H1 vs g1 R1 v1 => ?_
  exact ⟨ι1, S1, xs, R1, v1, h1.mono (fun _ _ z => z.grow g1) fun _ _ _ => trivial⟩
end
end Dp

set_option Elab.async false
set_option maxRecDepth 100000
set_option linter.all false
set_option maxHeartbeats 4000000
/-! isinstance, methods, what is walked, comprehensions. -/
namespace Dp
open PySem PySem.Spec PyProof.Rows L2 TL
section
variable {C : MC} {W : WX} {ι ι' ι1 : List Addr} {H H' H1 : Hp} {S S' : Store} {env : Env} {σ : L2.St}
variable {X : Cx} {a b c : Expr} {pos : Pos} {ra rb rc : Env → Store → R D} {es : List Expr} {rs : Env → Store → R (List D)}

/-! ### isinstance -/
def tyName : Ty → String
  | .int => "int" | .str => "str" | .bool => "bool" | .tuple => "tuple" | .list => "list" | .dict => "dict"
theorem kit_none (t : Ty) : kitB "NoneType" (tyName t) = some false := by cases t <;> decide +kernel
theorem kit_bool (t : Ty) : kitB "bool" (tyName t) = some (t == .bool || t == .int) := by cases t <;> decide +kernel
theorem kit_int (t : Ty) : kitB "int" (tyName t) = some (t == .int) := by cases t <;> decide +kernel
theorem kit_str (t : Ty) : kitB "str" (tyName t) = some (t == .str) := by cases t <;> decide +kernel
theorem kit_tuple (t : Ty) : kitB "tuple" (tyName t) = some (t == .tuple) := by cases t <;> decide +kernel
theorem kit_list (t : Ty) : kitB "list" (tyName t) = some (t == .list) := by cases t <;> decide +kernel
theorem kit_dict (t : Ty) : kitB "dict" (tyName t) = some (t == .dict) := by cases t <;> decide +kernel
theorem tyX_tup {K : PySem.W.Frag} {p : Addr} {vs : List V} (h : SqT K H p vs) : TyX K H (.ref p) (.type "tuple") := by
  rcases h with (h | ⟨o, h⟩) | ⟨o, its, n, hk, hc, _⟩
  · exact .base (.tup h)
  · exact .fTuple h
  · exact .kTuple hk hc
theorem tyX_rl {K : PySem.W.Frag} {p : Addr} {vs : List V} (h : SqR K H p vs) : TyX K H (.ref p) (.type "list") := by
  rcases h with ⟨o, h⟩ | ((h | ⟨o, h⟩) | ⟨o, its, n, hk, hc, _⟩)
  · exact .base (.frz h)
  · cases h
  · cases h
  · exact .kList hk hc
theorem isTy_v (Re : Rel C ι S H) {d : D} {x : V} {t u : Ty} {k l : Bool} (r : RV C ι H d x) (h : isTy S d t = some k) (h' : isTy S d u = some l) :
    ∃ n, TyX C.K H x (.type n) ∧ PySem.W.kitOne C.K (.type n) (.type (tyName t)) = some k ∧ PySem.W.kitOne C.K (.type n) (.type (tyName u)) = some l := by
  cases r with
  | non => cases h; cases h'; exact ⟨_, .base .non, kit_ty (kit_none t), kit_ty (kit_none u)⟩
  | bl b => cases h; cases h'; exact ⟨_, .base (.bl b), kit_ty (kit_bool t), kit_ty (kit_bool u)⟩
  | int b => cases h; cases h'; exact ⟨_, .base (.int b), kit_ty (kit_int t), kit_ty (kit_int u)⟩
  | str b => cases h; cases h'; exact ⟨_, .base (.str _), kit_ty (kit_str t), kit_ty (kit_str u)⟩
  | tup h1 _ => cases h; cases h'; exact ⟨_, tyX_tup h1, kit_ty (kit_tuple t), kit_ty (kit_tuple u)⟩
  | rl h1 _ => cases h; cases h'; exact ⟨_, tyX_rl h1, kit_ty (kit_list t), kit_ty (kit_list u)⟩
  | rd D' _ => cases h; cases h'; exact ⟨_, .kDict D'.at_ rfl, kit_ty (kit_dict t), kit_ty (kit_dict u)⟩
  | fn _ => cases h
  | ref h1 =>
    rename_i n p
    simp only [isTy] at h h'
    cases e : S[n]? with
    | none => rw [e] at h; cases h
    | some o =>
      rw [e] at h h'
      obtain ⟨q, e1, q2⟩ := Re.obj n o e
      rw [h1] at e1; cases e1
      cases o with
      | lst xs =>
        obtain ⟨vs, e2, _⟩ := q2
        cases h; cases h'
        exact ⟨_, .base (.lst e2), kit_ty (kit_list t), kit_ty (kit_list u)⟩
      | dct _ => exact q2.elim
      | ins _ _ => exact q2.elim
theorem boot_ty (t : Ty) : bootBuiltins (Str.ofString (tyName t)) = some (.type (tyName t)) := by cases t <;> decide +kernel
theorem s_isa {p p2 : Pos} (hK : X.K = C.K) (t : Ty) (hg : Gl X "isinstance") (hm : X.mg "isinstance" = none) (hg2 : Gl X (Str.ofString (tyName t))) (hm2 : X.mg (Str.ofString (tyName t)) = none) (ha : PE X a (tE C W ra))
    (hn : starEach [a, .Name (Str.ofString (tyName t)) p2] X.env = (false, eval a X.env) :: starEach [.Name (Str.ofString (tyName t)) p2] X.env) :
    PE X (.Call (.Name "isinstance" p) [a, .Name (Str.ofString (tyName t)) p2] [] pos) (tE C W fun env S => ((ra env S).bind fun x S1 => (R.ok [] S1 : R (List D)).bind fun xs S2 => .ok (x :: xs) S2).bind fun xs S1 => biD (.isa t) xs S1) := by
  have hT : PE X (.Name (Str.ofString (tyName t)) p2) (tC (.ty (tyName t))) := pe_bltn hg2 hm2 (boot_ty t) rfl (by cases t <;> decide +kernel) (by cases t <;> decide +kernel)
  refine PE.weak (pe_callB call_isi hg hm (by decide +kernel) (pa_cons ha (pa_cons hT pa_nil) hn) (by decide) (by decide) hn rfl) fun σ H Q ⟨ι, env, S, Re, N, h⟩ => ?_
  refine tE.of Re N (Wp.bind.mp (Wp.bind.mp h)) (fun _ _ z => z) fun x S1 h1 ι1 H1 v g1 R1 v1 => ?_
  have h2 : Wp (biD (.isa t) [x] S1) (QV C ι H Q) (QX C ι H fun c d H' => W c d σ H') := h1
  simp only [biD] at h2
  cases e : isTy S1 x t with
  | none => rw [e] at h2; exact h2.elim
  | some k =>
    rw [e] at h2
    obtain ⟨n, q1, q2, _⟩ := isTy_v R1 v1 e e
    rw [← hK] at q1 q2
    exact ⟨v, _, _, _, k, rfl, .ty _, q1, q2, h2 ι1 H1 _ g1 R1 (.bl k)⟩
theorem s_isa2 {p p2 p3 tp : Pos} {kk : Nat} (hK : X.K = C.K) (t u : Ty) (hg : Gl X "isinstance") (hm : X.mg "isinstance" = none) (hg2 : Gl X (Str.ofString (tyName t))) (hm2 : X.mg (Str.ofString (tyName t)) = none)
    (hg3 : Gl X (Str.ofString (tyName u))) (hm3 : X.mg (Str.ofString (tyName u)) = none) (ha : PE X a (tE C W ra))
    (hn : starEach [a, .Tuple [.Name (Str.ofString (tyName t)) p2, .Name (Str.ofString (tyName u)) p3] kk tp] X.env = (false, eval a X.env) :: starEach [.Tuple [.Name (Str.ofString (tyName t)) p2, .Name (Str.ofString (tyName u)) p3] kk tp] X.env) :
    PE X (.Call (.Name "isinstance" p) [a, .Tuple [.Name (Str.ofString (tyName t)) p2, .Name (Str.ofString (tyName u)) p3] kk tp] [] pos)
      (tE C W fun env S => ((ra env S).bind fun x S1 => (R.ok [] S1 : R (List D)).bind fun xs S2 => .ok (x :: xs) S2).bind fun xs S1 => biD (.isa2 t u) xs S1) := by
  have hT : PE X (.Name (Str.ofString (tyName t)) p2) (tC (.ty (tyName t))) := pe_bltn hg2 hm2 (boot_ty t) rfl (by cases t <;> decide +kernel) (by cases t <;> decide +kernel)
  have hU : PE X (.Name (Str.ofString (tyName u)) p3) (tC (.ty (tyName u))) := pe_bltn hg3 hm3 (boot_ty u) rfl (by cases u <;> decide +kernel) (by cases u <;> decide +kernel)
  refine PE.weak (pe_callB call_isiT hg hm (by decide +kernel) (pa_cons ha (pa_cons (pe_tup (pa_cons hT (pa_cons hU pa_nil))) pa_nil) hn) (by decide) (by decide) hn rfl) fun σ H Q ⟨ι, env, S, Re, N, h⟩ => ?_
  refine tE.of Re N (Wp.bind.mp (Wp.bind.mp h)) (fun _ _ z => z) fun x S1 h1 ι1 H1 v g1 R1 v1 => ?_
  refine ⟨by show 2 ≤ sizeLine; decide, fun T hT' => ?_⟩
  obtain ⟨R2, g2⟩ := R1.laid hT' (o := .tup [.ty (tyName t), .ty (tyName u)])
  have h2 : Wp (biD (.isa2 t u) [x] S1) (QV C ι H Q) (QX C ι H fun c d H' => W c d σ H') := h1
  simp only [biD] at h2
  cases e : isTy S1 x t with
  | none => rw [e] at h2; exact h2.elim
  | some k =>
    cases e' : isTy S1 x u with
    | none => rw [e, e'] at h2; exact h2.elim
    | some l =>
      rw [e, e'] at h2
      obtain ⟨n, q1, q2, q3⟩ := isTy_v R2 (v1.mono R1 g2) e e'
      rw [← hK] at q1 q2 q3
      refine ⟨v, T, [.ty (tyName t), .ty (tyName u)], _, [.type (tyName t), .type (tyName u)], k || l, rfl, upd_same, .cons (.ty _) (.cons (.ty _) .nil), q1, ?_, h2 ι1 _ _ (g1.trans g2) R2 (.bl _)⟩
      refine kitAny_cons q2 (fun z => kitAny_cons q3 (fun z' => by subst z z'; rfl) fun z' => by subst z'; simp) fun z => by subst z; rfl

/-! ### methods -/
structure MF (X : Cx) (C : MC) (m : MT) (T id : String) (name : Str) : Prop where
  pa : PlainAttrs T
  slot : Slot T name id
  ty : typeOf (.builtin id) = pure (.type "method_descriptor")
  rule : MtR X id (mB C (mtD m))
  kind : T = if m == .join || m == .split then "str" else "list"
def mtName : MT → String
  | .append => "append" | .extend => "extend" | .pop => "pop" | .join => "join" | .split => "split" | .reverse => "reverse" | .clear => "clear" | .get => "get" | .index => "index"
theorem mf_all (hK : X.K = C.K) (m : MT) (h1 : m ≠ .get) (h2 : m ≠ .index) : ∃ T id, MF X C m T id (mtName m) := by
  cases m with
  | append => exact ⟨_, _, F.plainAttrs_list, F.slot_list_append, F.type_list_append, mt_appendD, rfl⟩
  | extend => exact ⟨_, _, F.plainAttrs_list, F.slot_list_extend, F.type_list_extend, mt_extendD, rfl⟩
  | pop => exact ⟨_, _, F.plainAttrs_list, F.slot_list_pop, F.type_list_pop, mt_popD, rfl⟩
  | join => exact ⟨_, _, F.plainAttrs_str, F.slot_str_join, F.type_str_join, mt_joinD hK, rfl⟩
  | split => exact ⟨_, _, F.plainAttrs_str, F.slot_str_split, F.type_str_split, mt_splitD, rfl⟩
  | reverse => exact ⟨_, _, F.plainAttrs_list, F.slot_list_reverse, F.type_list_reverse, mt_reverseD, rfl⟩
  | clear => exact ⟨_, _, F.plainAttrs_list, F.slot_list_clear, F.type_list_clear, mt_clearD, rfl⟩
  | get => exact absurd rfl h1
  | index => exact absurd rfl h2
theorem mtOk_v (Re : Rel C ι S H) {m : MT} {d : D} {x : V} {T id : String} {name : Str} (M : MF X C m T id name) (r : RV C ι H d x) (h : mtOk m S d = true) : tyV C.K T x H := by
  have k := M.kind
  cases r with
  | str cs =>
    have h' : (m == .join || m == .split) = true := h
    rw [h', if_pos rfl] at k
    exact k
  | ref h1 =>
    simp only [mtOk, Bool.and_eq_true] at h
    obtain ⟨h2, h3⟩ := h
    have h' : (m == .join || m == .split) = false := by simpa using h2
    rw [h', if_neg Bool.false_ne_true] at k
    obtain ⟨xs, e⟩ := Option.isSome_iff_exists.mp h3
    obtain ⟨p, vs, g1, g2, _⟩ := Re.list e
    rw [h1] at g1; cases g1
    exact .inl ⟨k, vs, .inl (.inl g2)⟩
  | _ => cases h
theorem s_mt0 {o : Expr} {apos : Pos} {m : MT} {T id : String} {name : Str} (hK : X.K = C.K) (M : MF X C m T id name) (ho : PE X o (tE C W ra)) (hb : attributeBase o name X.env (eval o X.env) = eval o X.env) (hl : (apos.endLine == pos.line) = true) :
    PE X (.Call (.Attribute o name apos) [] [] pos) (tE C W fun env S => (ra env S).bind fun x S1 => if mtOk m S1 x then (R.ok [] S1 : R (List D)).bind fun xs S2 => mtD m x xs S2 else .err) := by
  refine PE.weak (pe_bm0 M.pa M.slot M.ty M.rule ho hb hl) fun σ H Q ⟨ι, env, S, Re, N, h⟩ => ?_
  refine tE.of Re N (Wp.bind.mp h) (fun _ _ z => z) fun x S1 h1 ι1 H1 v g1 R1 v1 => ?_
  split at h1
  · rename_i hk
    refine ⟨by rw [hK]; exact mtOk_v R1 M v1 hk, ι1, S1, x, [], R1, v1, .nil, Wp.mono (r := mtD m x [] S1) h1 (fun _ _ z => z.grow g1) fun _ _ _ => trivial⟩
  · exact h1.elim
theorem s_mt {o : Expr} {apos : Pos} {m : MT} {T id : String} {name : Str} (hK : X.K = C.K) (M : MF X C m T id name) (ho : PE X o (tE C W ra)) (ha : PA X (a :: es) (tA C W rs)) (hb : attributeBase o name X.env (eval o X.env) = eval o X.env) (hl : (apos.endLine == pos.line) = true)
    (hfew : ((backTo pos (starEach (a :: es) X.env)).all (fun x => !x.1) && (backToKw pos (keywordEach [] X.env)).all (fun x => x.1.isSome) && decide ((a :: es).length + ([] : List Keyword).length + (if ([] : List Keyword).isEmpty then 0 else 1) < 30)) = true)
    (hs : starEach (a :: es) X.env = (false, eval a X.env) :: starEach es X.env) (hp : (backTo pos (starEach es X.env)).any (·.1) = false) :
    PE X (.Call (.Attribute o name apos) (a :: es) [] pos) (tE C W fun env S => (ra env S).bind fun x S1 => if mtOk m S1 x then (rs env S1).bind fun xs S2 => mtD m x xs S2 else .err) := by
  refine PE.weak (pe_bm M.pa M.slot M.ty M.rule ho ha hb hfew hl hs hp) fun σ H Q ⟨ι, env, S, Re, N, h⟩ => ?_
  refine tE.of Re N (Wp.bind.mp h) (fun _ _ z => z) fun x S1 h1 ι1 H1 v g1 R1 v1 => ?_
  split at h1
  · rename_i hk
    refine ⟨by rw [hK]; exact mtOk_v R1 M v1 hk, ?_⟩
    refine tA.of R1 (N.mono Re g1) (Wp.bind.mp h1) (fun _ _ z => z.grow g1) fun xs S2 h2 ι2 H2 vs g2 R2 v2 => ?_
    exact ⟨ι2, S2, x, xs, R2, v1.mono R1 g2, v2, h2.mono (fun _ _ z => z.grow (g1.trans g2)) fun _ _ _ => trivial⟩
  · exact h1.elim

/-! ### what is walked -/
/-- from the base on, the reckoner's turns are the iterator's -/
def JR (C : MC) (ι1 : List Addr) (H1 : Hp) (I : Itr) (J : It) : Prop := ∀ ι S H, Rel C ι S H → Grow ι1 H1 ι H → ∀ i,
  (I.get i S = some none → J.stop i H) ∧ ∀ d, I.get i S = some (some d) → J.go i H ∧ ∀ x H', J.yld i H x H' → Rel C ι S H' ∧ Grow ι H ι H' ∧ RV C ι H' d x
def tI (C : MC) (W : WX) (r : Env → Store → R Itr) : TI := fun σ H Q => ∃ ι env S, Rel C ι S H ∧ EnvR C ι H env σ ∧
  Wp (r env S) (fun I S' => ∀ ι' H' J, Grow ι H ι' H' → Rel C ι' S' H' → JR C ι' H' I J → Q J H') (QX C ι H fun c d H' => W c d σ H')
theorem PI.or {tg e : Expr} {wi wi' : TI} (h : PI X tg e wi) (h' : PI X tg e wi') : PI X tg e (fun σ H Q => wi σ H Q ∨ wi' σ H Q) := ⟨fun pins s σ H Q I q => q.elim (h.run pins s σ H Q I) (h'.run pins s σ H Q I)⟩
theorem PI.weak {tg e : Expr} {wi wi' : TI} (h : PI X tg e wi) (w : ∀ σ H Q, wi' σ H Q → wi σ H Q) : PI X tg e wi' := ⟨fun pins s σ H Q I q => h.run pins s σ H Q I (w σ H Q q)⟩
theorem jr_tup {p : Addr} {vs : List V} {ds : List D} (Re : Rel C ι1 S H1) (h : SqT C.K H1 p vs) (r : RVs C ι1 H1 ds vs) : JR C ι1 H1 ⟨ds.length, fun i _ => some ds[i]?⟩ (Itt C.K p) := by
  intro ι S' H R g i
  have hs := g.tup Re h
  have rs := r.mono Re g
  refine ⟨fun e => ?_, fun d e => ?_⟩
  · refine ⟨vs, hs, ?_⟩
    rw [← rs.len]
    exact List.getElem?_eq_none_iff.mp (by simpa using e)
  · obtain ⟨v, h1, h2⟩ := rs.get (i := i) (d := d) (by simpa using e)
    refine ⟨⟨vs, v, hs, h1⟩, fun x H' ⟨e1, e2⟩ => ?_⟩
    subst e1
    have := e2 vs hs
    rw [h1] at this; cases this
    exact ⟨R, .refl, h2⟩
theorem jr_rl {p : Addr} {vs : List V} {ds : List D} (Re : Rel C ι1 S H1) (h : SqR C.K H1 p vs) (r : RVs C ι1 H1 ds vs) : JR C ι1 H1 ⟨ds.length, fun i _ => some ds[i]?⟩ (Itl C.K p) := by
  intro ι S' H R g i
  have hs := (g.sqr Re h).sq
  have rs := r.mono Re g
  refine ⟨fun e => ?_, fun d e => ?_⟩
  · refine ⟨vs, hs, ?_⟩
    rw [← rs.len]
    exact List.getElem?_eq_none_iff.mp (by simpa using e)
  · obtain ⟨v, h1, h2⟩ := rs.get (i := i) (d := d) (by simpa using e)
    refine ⟨⟨vs, v, hs, h1⟩, fun x H' ⟨e1, e2⟩ => ?_⟩
    subst e1
    have := e2 vs hs
    rw [h1] at this; cases this
    exact ⟨R, .refl, h2⟩
theorem jr_lst {p : Addr} {n m : Nat} (h : ι1[n]? = some p) : JR C ι1 H1 ⟨m, fun i S' => (getL S' n).map fun ys => ys[i]?⟩ (Itl C.K p) := by
  intro ι S' H R g i
  have hp := g.get h
  refine ⟨fun e => ?_, fun d e => ?_⟩
  · simp only [Option.map_eq_some_iff] at e
    obtain ⟨ys, e1, e2⟩ := e
    obtain ⟨q, vs, g1, g2, g3⟩ := R.list e1
    rw [hp] at g1; cases g1
    exact ⟨vs, .inl (.inl g2), by rw [← g3.len]; exact List.getElem?_eq_none_iff.mp e2⟩
  · simp only [Option.map_eq_some_iff] at e
    obtain ⟨ys, e1, e2⟩ := e
    obtain ⟨q, vs, g1, g2, g3⟩ := R.list e1
    rw [hp] at g1; cases g1
    obtain ⟨v, h1, h2⟩ := g3.get e2
    refine ⟨⟨vs, v, .inl (.inl g2), h1⟩, fun x H' ⟨e3, e4⟩ => ?_⟩
    subst e3
    have := e4 vs (.inl (.inl g2))
    rw [h1] at this; cases this
    exact ⟨R, .refl, h2⟩
theorem jr_str (cs : List Nat) : JR C ι1 H1 ⟨cs.length, fun i _ => some (cs[i]?.map fun c => .str [c])⟩ (Its ⟨cs.toArray⟩) := by
  intro ι S' H R g i
  refine ⟨fun e => ?_, fun d e => ?_⟩
  · show cs.toArray.size ≤ i
    simp at e
    simpa using e
  · simp only [Option.some.injEq, Option.map_eq_some_iff] at e
    obtain ⟨c, e1, rfl⟩ := e
    have hl := (List.getElem?_eq_some_iff.mp e1).1
    refine ⟨(by simpa using hl : i < cs.toArray.size), fun x H' ⟨e3, c', e4, e5⟩ => ?_⟩
    subst e3 e5
    have : cs[i]? = some c' := by simpa using e4
    rw [e1] at this; cases this
    exact ⟨R, .refl, .str [c]⟩
theorem jr_up (lo : Int) (n m : Nat) : JR C ι1 H1 ⟨m, fun i _ => some (if i < n then some (.int (lo + (i : Nat))) else none)⟩ (L2.Itr lo n) := by
  intro ι S' H R g i
  refine ⟨fun e => ?_, fun d e => ?_⟩
  · show n ≤ i
    simp at e
    omega
  · simp only [Option.some.injEq] at e
    split at e
    · rename_i hl
      cases e
      refine ⟨hl, fun x H' ⟨e3, e4⟩ => ?_⟩
      subst e3 e4
      exact ⟨R, .refl, .int _⟩
    · cases e
theorem jr_down (lo : Int) (n m : Nat) : JR C ι1 H1 ⟨m, fun i _ => some (if i < n then some (.int (lo + (i : Nat) * -1)) else none)⟩ (Itc lo (-1) n) := by
  intro ι S' H R g i
  refine ⟨fun e => ?_, fun d e => ?_⟩
  · show n ≤ i
    simp at e
    omega
  · simp only [Option.some.injEq] at e
    split at e
    · rename_i hl
      cases e
      refine ⟨hl, fun x H' ⟨e3, e4⟩ => ?_⟩
      subst e3 e4
      exact ⟨R, .refl, .int _⟩
    · cases e
/-- a list, a tuple, a text -/
theorem si_val {tg : Expr} (hK : X.K = C.K) (ha : PE X a (tE C W ra)) : PI X tg a (tI C W fun env S => (ra env S).bind fun x S1 => R.of S1 (itVal S1 x)) := by
  refine PI.weak (PI.or (pi_list ha) (PI.or (pi_tup ha) (pi_str ha))) fun σ H Q ⟨ι, env, S, Re, N, h⟩ => ?_
  have h' := Wp.bind.mp h
  cases hr : ra env S with
  | err => rw [hr] at h'; exact h'.elim
  | exc x S1 => rw [hr] at h'; exact .inl ⟨ι, env, S, Re, N, by rw [hr]; exact h'⟩
  | ok d S1 =>
    rw [hr] at h'
    obtain ⟨I, e, q⟩ := Wp.of (show Wp (R.of S1 (itVal S1 d)) _ _ from h')
    cases d with
    | tup xs =>
      cases e
      refine .inr (.inl ⟨ι, env, S, Re, N, ?_⟩)
      rw [hr]
      intro ι1 H1 v g1 R1 v1
      cases v1 with
      | tup h1 r1 => exact ⟨_, rfl, ⟨_, by rw [hK]; exact h1⟩, by rw [hK]; exact q ι1 H1 _ g1 R1 (jr_tup R1 h1 r1)⟩
    | rl xs =>
      cases e
      refine .inl ⟨ι, env, S, Re, N, ?_⟩
      rw [hr]
      intro ι1 H1 v g1 R1 v1
      cases v1 with
      | rl h1 r1 => exact ⟨_, rfl, ⟨_, by rw [hK]; exact h1.sq⟩, by rw [hK]; exact q ι1 H1 _ g1 R1 (jr_rl R1 h1 r1)⟩
    | ref n =>
      refine .inl ⟨ι, env, S, Re, N, ?_⟩
      rw [hr]
      intro ι1 H1 v g1 R1 v1
      simp only [itVal, itSeq] at e
      split at e
      · rename_i xs ex
        cases e
        cases v1 with
        | ref h1 =>
          obtain ⟨p, vs, k1, k2, _⟩ := R1.list ex
          rw [h1] at k1; cases k1
          exact ⟨_, rfl, ⟨vs, .inl (.inl k2)⟩, by rw [hK]; exact q ι1 H1 _ g1 R1 (jr_lst h1)⟩
      · cases e
    | str cs =>
      cases e
      refine .inr (.inr ⟨ι, env, S, Re, N, ?_⟩)
      rw [hr]
      intro ι1 H1 v g1 R1 v1
      cases v1
      exact ⟨_, rfl, q ι1 H1 _ g1 R1 (jr_str cs)⟩
    | _ => cases e
theorem okI_ok {i : Int} (h : okI i = true) : -(2 ^ 62) ≤ i ∧ i < 2 ^ 62 := by
  unfold okI at h
  simpa using h
theorem si_rng1 {tg : Expr} {p : Pos} (hg : Gl X "range") (hm : X.mg "range" = none) (ha : PE X a (tE C W ra)) (hs : starEach [a] X.env = [(false, eval a X.env)]) :
    PI X tg (.Call (.Name "range" p) [a] [] pos) (tI C W fun env S => (ra env S).bind fun x S1 => match x with
      | .int j => R.of S1 (itUp 0 j)
      | _ => .err) := by
  refine PI.weak (pi_range1 hg hm (pa_cons ha pa_nil hs) hs) fun σ H Q ⟨ι, env, S, Re, N, h⟩ => ?_
  refine tE.of Re N (Wp.bind.mp h) (fun _ _ z => z) fun x S1 h1 ι1 H1 v g1 R1 v1 => ?_
  cases x with
  | int j =>
    cases v1
    obtain ⟨I, e, q⟩ := Wp.of (show Wp (R.of S1 (itUp 0 j)) _ _ from h1)
    unfold itUp at e
    split at e
    · rename_i ho
      cases e
      simp only [Bool.and_eq_true] at ho
      have o2 := okI_ok ho.2
      refine ⟨j, rfl, o2.1, o2.2, q ι1 H1 _ g1 R1 ?_⟩
      have ej : (j - 0).toNat = j.toNat := by simp
      rw [ej]
      exact jr_up 0 j.toNat _
    · cases e
  | _ => exact (show False from h1).elim
theorem si_rng2 {tg : Expr} {p : Pos} (hg : Gl X "range") (hm : X.mg "range" = none) (ha : PE X a (tE C W ra)) (hb : PE X b (tE C W rb)) (hs : starEach [a, b] X.env = [(false, eval a X.env), (false, eval b X.env)]) (hs2 : starEach [b] X.env = [(false, eval b X.env)]) :
    PI X tg (.Call (.Name "range" p) [a, b] [] pos) (tI C W fun env S => (ra env S).bind fun x S1 => (rb env S1).bind fun y S2 => match x, y with
      | .int i, .int j => R.of S2 (itUp i j)
      | _, _ => .err) := by
  refine PI.weak (pi_range2 hg hm (pa_cons ha (pa_cons hb pa_nil hs2) (by rw [hs, hs2])) hs hs2) fun σ H Q ⟨ι, env, S, Re, N, h⟩ => ?_
  refine tE.of Re N (Wp.bind.mp h) (fun _ _ z => z) fun x S1 h1 ι1 H1 v g1 R1 v1 => ?_
  refine tE.of R1 (N.mono Re g1) (Wp.bind.mp h1) (fun _ _ z => z.grow g1) fun y S2 h2 ι2 H2 u g2 R2 v2 => ?_
  cases x with
  | int i =>
    cases y with
    | int j =>
      cases v1
      cases v2
      obtain ⟨I, e, q⟩ := Wp.of (show Wp (R.of S2 (itUp i j)) _ _ from h2)
      unfold itUp at e
      split at e
      · rename_i ho
        cases e
        simp only [Bool.and_eq_true] at ho
        have o1 := okI_ok ho.1
        have o2 := okI_ok ho.2
        exact ⟨i, j, rfl, ⟨o1.1, o1.2, o2.1, o2.2⟩, q ι2 H2 _ (g1.trans g2) R2 (jr_up i _ _)⟩
      · cases e
    | _ => exact (show False from h2).elim
  | _ => cases y <;> exact (show False from h2).elim
theorem si_rng3 {tg : Expr} {p : Pos} (hg : Gl X "range") (hm : X.mg "range" = none) (ha : PE X a (tE C W ra)) (hb : PE X b (tE C W rb)) (hc : PE X c (tE C W rc)) (hs : starEach [a, b, c] X.env = (false, eval a X.env) :: starEach [b, c] X.env)
    (hs2 : starEach [b, c] X.env = (false, eval b X.env) :: starEach [c] X.env) (hs3 : starEach [c] X.env = (false, eval c X.env) :: starEach [] X.env) :
    PI X tg (.Call (.Name "range" p) [a, b, c] [] pos) (tI C W fun env S => (ra env S).bind fun x S1 => (rb env S1).bind fun y S2 => (rc env S2).bind fun z S3 => match x, y, z with
      | .int i, .int j, .int k => if k = -1 then R.of S3 (itDown i j) else .err
      | _, _, _ => .err) := by
  refine PI.weak (pi_range3 hg hm (pa_cons ha (pa_cons hb (pa_cons hc pa_nil hs3) hs2) hs) hs (by rw [hs2, hs3] <;> rfl)) fun σ H Q ⟨ι, env, S, Re, N, h⟩ => ?_
  refine tE.of Re N (Wp.bind.mp h) (fun _ _ z => z) fun x S1 h1 ι1 H1 v g1 R1 v1 => ?_
  refine tE.of R1 (N.mono Re g1) (Wp.bind.mp h1) (fun _ _ z => z.grow g1) fun y S2 h2 ι2 H2 u g2 R2 v2 => ?_
  refine tE.of R2 ((N.mono Re g1).mono R1 g2) (Wp.bind.mp h2) (fun _ _ z => z.grow (g1.trans g2)) fun z S3 h3 ι3 H3 w g3 R3 v3 => ?_
  cases x with
  | int i =>
    cases y with
    | int j =>
      cases z with
      | int k =>
        cases v1
        cases v2
        cases v3
        have h3' : Wp (if k = -1 then R.of S3 (itDown i j) else R.err) (fun I S' => ∀ ι' H' J, Grow ι H ι' H' → Rel C ι' S' H' → JR C ι' H' I J → Q J H') (QX C ι H fun c d H' => W c d σ H') := h3
        split at h3'
        · rename_i hk
          subst hk
          obtain ⟨I, e, q⟩ := Wp.of h3'
          unfold itDown at e
          split at e
          · rename_i ho
            cases e
            simp only [Bool.and_eq_true] at ho
            have o1 := okI_ok ho.1
            have o2 := okI_ok ho.2
            exact ⟨i, j, -1, _, rfl, RgC.neg o2.1 o2.2 o1.1 o1.2, q ι3 H3 _ ((g1.trans g2).trans g3) R3 (jr_down i _ _)⟩
          · cases e
        · exact h3'.elim
      | _ => exact (show False from h3).elim
    | _ => cases z <;> exact (show False from h3).elim
  | _ => cases y <;> cases z <;> exact (show False from h3).elim
end
end Dp

set_option Elab.async false
set_option maxRecDepth 100000
set_option linter.all false
set_option maxHeartbeats 4000000
/-! Targets, comprehensions, zip, enumerate. -/
namespace Dp
open PySem PySem.Spec PyProof.Rows L2 TL
section
variable {C : MC} {W : WX} {ι ι' ι1 : List Addr} {H H' H1 : Hp} {S S' : Store} {env : Env} {σ : L2.St} {p q : Addr}
mutual
theorem RV.keep (h1 : ∀ (n : Nat) a, ι[n]? = some a → ι'[n]? = some a) (h2 : ∀ a vs, SqT C.K H a vs → SqT C.K H' a vs) (h3 : ∀ a vs, SqR C.K H a vs → SqR C.K H' a vs) : ∀ {d : D} {v : V}, RV C ι H d v → RV C ι' H' d v
  | _, _, .non => .non
  | _, _, .bl b => .bl b
  | _, _, .int i => .int i
  | _, _, .str x => .str x
  | _, _, .tup h hs => .tup (h2 _ _ h) (RVs.keep h1 h2 h3 hs)
  | _, _, .rl h hs => .rl (h3 _ _ h) (RVs.keep h1 h2 h3 hs)
  | _, _, .rd h hs => .rd h (REs.keep h1 h2 h3 hs)
  | _, _, .fn i => .fn i
  | _, _, .ref h => .ref (h1 _ _ h)
theorem RVs.keep (h1 : ∀ (n : Nat) a, ι[n]? = some a → ι'[n]? = some a) (h2 : ∀ a vs, SqT C.K H a vs → SqT C.K H' a vs) (h3 : ∀ a vs, SqR C.K H a vs → SqR C.K H' a vs) : ∀ {ds : List D} {vs : List V}, RVs C ι H ds vs → RVs C ι' H' ds vs
  | _, _, .nil => .nil
  | _, _, .cons h hs => .cons (RV.keep h1 h2 h3 h) (RVs.keep h1 h2 h3 hs)
theorem REs.keep (h1 : ∀ (n : Nat) a, ι[n]? = some a → ι'[n]? = some a) (h2 : ∀ a vs, SqT C.K H a vs → SqT C.K H' a vs) (h3 : ∀ a vs, SqR C.K H a vs → SqR C.K H' a vs) : ∀ {es : List DictEntry} {ks ds : List D}, REs C ι H es ks ds → REs C ι' H' es ks ds
  | _, _, _, .nil => .nil
  | _, _, _, .cons a b h hs => .cons a b (RV.keep h1 h2 h3 h) (REs.keep h1 h2 h3 hs)
end
theorem sqt_upd {vs ws : List V} {a : Addr} (hp : H p = some (.lst vs)) (h : SqT C.K H a ws) {us : List V} : SqT C.K (upd H p (.lst us)) a ws := by
  rcases h with (h | ⟨o, h⟩) | h
  · exact .inl (.inl (by rw [upd_ne (by rintro rfl; rw [hp] at h; cases h)]; exact h))
  · exact .inl (.inr ⟨o, by rw [upd_ne (by rintro rfl; rw [hp] at h; cases h)]; exact h⟩)
  · exact .inr h
theorem sqr_upd {vs ws : List V} {a : Addr} (hp : H p = some (.lst vs)) (h : SqR C.K H a ws) {us : List V} : SqR C.K (upd H p (.lst us)) a ws := by
  rcases h with ⟨o, h⟩ | h
  · exact .inl ⟨o, by rw [upd_ne (by rintro rfl; rw [hp] at h; cases h)]; exact h⟩
  · exact .inr h
/-- a list that stands beside the store grows -/
theorem Rel.beside {vs us : List V} (Re : Rel C ι S H) (hp : H p = some (.lst vs)) (hn : p ∉ ι) : Rel C ι S (upd H p (.lst us)) := by
  refine ⟨Re.len, Re.nd, fun n o e => ?_⟩
  obtain ⟨a, e1, z⟩ := Re.obj n o e
  refine ⟨a, e1, ?_⟩
  cases o with
  | lst xs =>
    obtain ⟨ws, e2, r⟩ := z
    refine ⟨ws, ?_, r.keep (fun _ _ h => h) (fun _ _ h => sqt_upd hp h) fun _ _ h => sqr_upd hp h⟩
    rw [upd_ne (by rintro rfl; exact hn (List.mem_of_getElem? e1))]
    exact e2
  | dct _ => exact z.elim
  | ins _ _ => exact z.elim
theorem Grow.beside {us : List V} (g : Grow ι1 H1 ι H) (hp : H1 p = none) : Grow ι1 H1 ι (upd H p (.lst us)) :=
  ⟨g.pre, g.new, fun a o h e => by rw [upd_ne (ne_of_none e hp)]; exact g.frame a o h e⟩
/-- .. and is taken into it -/
theorem Rel.adopt {vs : List V} {xs : List D} (Re : Rel C ι S H) (hp : H p = some (.lst vs)) (hn : p ∉ ι) (r : RVs C ι H xs vs) : Rel C (ι ++ [p]) (S ++ [.lst xs]) H := by
  have k1 : ∀ (n : Nat) a, ι[n]? = some a → (ι ++ [p])[n]? = some a := fun n a h => by
    rw [List.getElem?_append_left (List.getElem?_eq_some_iff.mp h).1]; exact h
  have kr : ∀ {ds vs}, RVs C ι H ds vs → RVs C (ι ++ [p]) H ds vs := fun h => h.keep k1 (fun _ _ h => h) fun _ _ h => h
  refine ⟨by simp [Re.len], ?_, fun n u e => ?_⟩
  · rw [List.nodup_append]
    exact ⟨Re.nd, by simp, fun a h b hb => by rw [List.mem_singleton.mp hb]; intro e; subst e; exact hn h⟩
  · by_cases hl : n < S.length
    · rw [List.getElem?_append_left hl] at e
      obtain ⟨a, e1, z⟩ := Re.obj n u e
      refine ⟨a, k1 _ _ e1, ?_⟩
      cases u with
      | lst ys =>
        obtain ⟨ws, e2, r⟩ := z
        exact ⟨ws, e2, kr r⟩
      | dct _ => exact z.elim
      | ins _ _ => exact z.elim
    · rw [List.getElem?_append_right (by omega)] at e
      have hz : n = S.length := by
        have := (List.getElem?_eq_some_iff.mp e).1
        simp at this; omega
      subst hz
      simp at e
      subst e
      exact ⟨p, by rw [← Re.len]; simp, vs, hp, kr r⟩
theorem Grow.adopt (g : Grow ι1 H1 ι H) (hp : H1 p = none) : Grow ι1 H1 (ι ++ [p]) H := by
  obtain ⟨t, rfl⟩ := g.pre
  refine ⟨⟨t ++ [p], by simp⟩, fun a h n => ?_, g.frame⟩
  rcases List.mem_append.mp h with h | h
  · exact g.new a h n
  · rw [List.mem_singleton.mp h]; exact hp
theorem Grow.notin {vs : List V} (g : Grow ι H ι' H') (hp : H p = some (.lst vs)) (hn : p ∉ ι) : p ∉ ι' ∧ H' p = some (.lst vs) :=
  ⟨fun h => (by have := g.new p h hn; rw [hp] at this; cases this), g.frame p _ hn hp⟩

/-! ### targets -/
theorem EnvR.set {i : Nat} {d : D} {v : V} (N : EnvR C ι H env σ) (r : RV C ι H d v) : EnvR C ι H (env.set i (some d)) (σ.set i (some v)) := by
  refine ⟨by simp [N.len], fun j e h => ?_⟩
  by_cases hj : i = j
  · subst hj
    have hl : i < env.length := by
      have := (List.getElem?_eq_some_iff.mp h).1
      simpa using this
    rw [List.getElem?_set_self hl] at h
    cases h
    exact ⟨v, by rw [List.getElem?_set_self (by rw [← N.len]; exact hl)], r⟩
  · rw [List.getElem?_set_ne hj] at h
    obtain ⟨w, h1, h2⟩ := N.val j e h
    exact ⟨w, by rw [List.getElem?_set_ne hj]; exact h1, h2⟩
def gNames : List Nat → TGs
  | [] => gNil
  | i :: is => gCons (gName i) (gNames is)
def setAll : L2.St → List Nat → List V → L2.St
  | σ, i :: is, v :: vs => setAll (σ.set i (some v)) is vs
  | σ, _, _ => σ
theorem gNames_ok {Q : L2.St → Hp → Prop} : ∀ {is : List Nat} {vs : List V} {σ : L2.St}, is.length = vs.length → Q (setAll σ is vs) H → gNames is vs σ H Q
  | [], [], _, _, h => ⟨rfl, h⟩
  | [], _ :: _, _, e, _ => by simp at e
  | _ :: _, [], _, e, _ => by simp at e
  | i :: is, v :: vs, σ, e, h => ⟨v, vs, rfl, gNames_ok (is := is) (by simpa using e) h⟩
theorem EnvR.all : ∀ {is : List Nat} {ds : List D} {vs : List V} {env : Env} {σ : L2.St}, EnvR C ι H env σ → RVs C ι H ds vs → is.length = ds.length → EnvR C ι H ((is.zip ds).foldl (fun e p => e.set p.1 (some p.2)) env) (setAll σ is vs)
  | [], _, _, _, _, N, .nil, _ => N
  | [], _, _, _, _, N, .cons _ _, e => by simp at e
  | _ :: _, _, _, _, _, N, .nil, e => by simp at e
  | i :: is, d :: ds, v :: vs, env, σ, N, .cons r t, e => EnvR.all (is := is) (N.set r) t (by simpa using e)
/-- a target's reading, as HandS has it -/
def gTg (K : PySem.W.Frag) : Tg → TG
  | .one i => gName i
  | .many is => gTup K is.length (gNames is)
def tgSlots : Tg → List Nat
  | .one i => [i]
  | .many is => is
def setTg : L2.St → Tg → List V → L2.St
  | σ, .one i, [v] => σ.set i (some v)
  | σ, .many is, vs => setAll σ is vs
  | σ, _, _ => σ
theorem gTg_ok {tg : Tg} {d : D} {v : V} {env' : Env} {Q : L2.St → Hp → Prop} (N : EnvR C ι H env σ) (r : RV C ι H d v) (h : asgT tg d env = some env') (hQ : ∀ vs, EnvR C ι H env' (setTg σ tg vs) → Q (setTg σ tg vs) H) : gTg C.K tg v σ H Q := by
  cases tg with
  | one i =>
    cases h
    exact hQ [v] (N.set r)
  | many is =>
    cases d with
    | tup ds =>
      simp only [asgT] at h
      split at h
      · rename_i hl
        cases h
        cases r with
        | tup h1 r1 =>
          exact ⟨_, _, rfl, h1, by rw [← r1.len, hl], gNames_ok (by rw [← r1.len, hl]) (hQ _ (N.all r1 hl))⟩
      · cases h
    | _ => cases h
theorem wipe_get (σ : L2.St) (k : Nat) : ∀ vs : List Nat, (wipe σ vs)[k]? = if k ∈ vs then σ[k]?.map (fun _ => none) else σ[k]?
  | [] => by simp [wipe]
  | v :: vs => by
    unfold wipe
    rw [List.getElem?_set, wipe_get σ k vs]
    by_cases h : v = k
    · subst h
      have hl := wipe_length σ vs
      simp only [if_pos, List.mem_cons, true_or]
      by_cases hb : v < σ.length
      · rw [if_pos (by omega), List.getElem?_eq_getElem hb]; rfl
      · rw [if_neg (by omega), List.getElem?_eq_none (by omega)]; rfl
    · rw [if_neg h]
      have : k ∈ v :: vs ↔ k ∈ vs := by simp [Ne.symm h]
      simp only [this]
theorem wipeE_get (σ : Env) (k : Nat) : ∀ vs : List Nat, (wipeE σ vs)[k]? = if k ∈ vs then σ[k]?.map (fun _ => none) else σ[k]?
  | [] => by simp [wipeE]
  | v :: vs => by
    unfold wipeE
    have hl : ∀ vs : List Nat, (wipeE σ vs).length = σ.length := by
      intro vs
      induction vs with
      | nil => rfl
      | cons a r ih => unfold wipeE; rw [List.length_set, ih]
    rw [List.getElem?_set, wipeE_get σ k vs]
    by_cases h : v = k
    · subst h
      have hl := hl vs
      simp only [if_pos, List.mem_cons, true_or]
      by_cases hb : v < σ.length
      · rw [if_pos (by omega), List.getElem?_eq_getElem hb]; rfl
      · rw [if_neg (by omega), List.getElem?_eq_none (by omega)]; rfl
    · rw [if_neg h]
      have : k ∈ v :: vs ↔ k ∈ vs := by simp [Ne.symm h]
      simp only [this]
theorem EnvR.wipe (N : EnvR C ι H env σ) (vs : List Nat) : EnvR C ι H (wipeE env vs) (L2.wipe σ vs) := by
  refine ⟨?_, fun i d e => ?_⟩
  · rw [wipe_length, ← N.len]
    induction vs with
    | nil => rfl
    | cons a r ih => unfold wipeE; rw [List.length_set, ih]
  · rw [wipeE_get] at e
    rw [wipe_get]
    split at e
    · rename_i h
      cases z : env[i]? <;> rw [z] at e <;> cases e
    · rename_i h
      rw [if_neg h]
      exact N.val i d e
theorem wipe_set {i : Nat} {x : Option V} {vs : List Nat} {τ : L2.St} (h : i ∈ vs) (e : L2.wipe τ vs = L2.wipe σ vs) : L2.wipe (τ.set i x) vs = L2.wipe σ vs := by
  rw [← e]
  apply List.ext_getElem?
  intro k
  rw [wipe_get, wipe_get, List.getElem?_set]
  by_cases hk : k ∈ vs
  · rw [if_pos hk, if_pos hk]
    by_cases hi : i = k
    · subst hi
      rw [if_pos rfl]
      by_cases hb : i < τ.length
      · rw [if_pos hb, List.getElem?_eq_getElem hb]; rfl
      · rw [if_neg hb, List.getElem?_eq_none (by omega)]
    · rw [if_neg hi]
  · rw [if_neg hk, if_neg hk, if_neg (by rintro rfl; exact hk h)]
theorem wipe_all {vs : List Nat} : ∀ {is : List Nat} {ws : List V} {τ : L2.St}, (∀ i ∈ is, i ∈ vs) → L2.wipe τ vs = L2.wipe σ vs → L2.wipe (setAll τ is ws) vs = L2.wipe σ vs
  | [], _, _, _, e => by unfold setAll; exact e
  | i :: is, [], _, _, e => by unfold setAll; exact e
  | i :: is, v :: ws, τ, h, e => wipe_all (is := is) (fun j hj => h j (List.mem_cons_of_mem _ hj)) (wipe_set (h i List.mem_cons_self) e)
theorem wipe_tg {vs : List Nat} {tg : Tg} {ws : List V} (h : ∀ i ∈ tgSlots tg, i ∈ vs) : L2.wipe (setTg (L2.wipe σ vs) tg ws) vs = L2.wipe σ vs := by
  have e : L2.wipe (L2.wipe σ vs) vs = L2.wipe σ vs := by
    apply List.ext_getElem?
    intro k
    rw [wipe_get, wipe_get]
    by_cases hk : k ∈ vs
    · rw [if_pos hk, if_pos hk]
      cases σ[k]? <;> rfl
    · rw [if_neg hk, if_neg hk]
  cases tg with
  | one i =>
    cases ws with
    | nil => exact e
    | cons v r => cases r with
      | nil => exact wipe_set (h i (by simp [tgSlots])) e
      | cons _ _ => exact e
  | many is =>
    have : setTg (L2.wipe σ vs) (.many is) ws = setAll (L2.wipe σ vs) is ws := by
      cases ws with
      | nil => rfl
      | cons _ r => cases r <;> rfl
    rw [this]
    exact wipe_all h e

/-! ### comprehensions -/
abbrev W0 : WX := fun _ _ _ _ => False
/-- a comprehension's tests -/
def tC' (C : MC) (r : Env → Store → R Bool) : TT := fun σ H Q => ∃ ι env S, Rel C ι S H ∧ EnvR C ι H env σ ∧ Wp (r env S) (fun b S' => ∀ ι' H', Grow ι H ι' H' → Rel C ι' S' H' → Q b H') (fun _ _ => False)
theorem PTs.weak {X : Cx} {e : List Expr} {t t' : TT} (h : PTs X e t) (w : ∀ σ H Q, t' σ H Q → t σ H Q) : PTs X e t' := ⟨fun pins s σ H Q I q => h.run pins s σ H Q I (w σ H Q q)⟩
theorem sc_nil {X : Cx} : PTs X [] (tC' C fun _ S => .ok true S) := PTs.weak pts_nil fun σ H Q ⟨ι, _, S, Re, _, h⟩ => h ι H .refl Re
theorem sc_one {X : Cx} {c : Expr} {rc : Env → Store → R D} (h : PT X c (tB C W0 rc)) : PTs X [c] (tC' C fun env S => (rc env S).bind fun x S1 => R.of S1 (truth S1 x)) := by
  refine PTs.weak (pts_one h) fun σ H Q ⟨ι, env, S, Re, N, h⟩ => ⟨ι, env, S, Re, N, Wp.mono (Wp.bind.mp h) (fun d S' z => ?_) fun _ _ z => z.elim⟩
  obtain ⟨k, e, q⟩ := z.of
  exact ⟨k, e, q⟩
theorem Wp.nox {α : Type} {r : R α} {Q : α → Store → Prop} {X : Exn → Store → Prop} (h : Wp r.nox Q X) : Wp r Q (fun _ _ => False) := by
  cases r <;> first | exact h | exact h.elim
/-- a comprehension's turn -/
def turnOf (tg : Tg) (own : List Nat) (rc : Env → Store → R Bool) (re : Env → Store → R D) (env : Env) (d : D) (S2 : Store) : R (Option D) :=
  match asgT tg d (wipeE env own) with
  | none => .err
  | some env2 => ((rc env2 S2).bind fun b S3 => if b then (re env2 S3).bind fun x S4 => .ok (some x) S4 else .ok none S3).nox
theorem turn_of {rc : Env → Store → R Bool} {re : Env → Store → R D} {tg : Tg} {own : List Nat} {d : D} {S2 : Store} {Q : Option D → Store → Prop} {X : Exn → Store → Prop} (h : Wp (turnOf tg own rc re env d S2) Q X) :
    ∃ env2, asgT tg d (wipeE env own) = some env2 ∧ Wp (rc env2 S2) (fun b S3 => Wp (if b = true then (re env2 S3).bind fun x S4 => .ok (some x) S4 else .ok none S3) Q fun _ _ => False) fun _ _ => False := by
  unfold turnOf at h
  cases ea : asgT tg d (wipeE env own) with
  | none => rw [ea] at h; exact h.elim
  | some env2 => rw [ea] at h; exact ⟨env2, rfl, Wp.bind.mp h.nox⟩
theorem comp_step {ri : Env → Store → R Itr} {rc : Env → Store → R Bool} {re : Env → Store → R D} {tg : Tg} {own : List Nat} {Q : VK} (hsub : ∀ i ∈ tgSlots tg, i ∈ own)
    (h : tE C W (fun env S => (ri env S).bind fun I S1 => (compGo I.get (turnOf tg own rc re env) I.max 0 [] S1).bind fun xs S2 => alloc (.lst xs) S2) σ H Q) :
    tLc (tI C W ri) (gTg C.K tg) (tC' C rc) (tE C W0 re) own σ H Q := by
  obtain ⟨ι, env, S, Re, N, h⟩ := h
  refine ⟨ι, env, S, Re, N, (Wp.bind.mp h).mono (fun I S1 h1 => ?_) fun _ _ z => z⟩
  intro ι1 H1 J g1 R1 jr D hD
  refine ⟨fun i m H2 => ∃ ι2 S2 acc vs, Rel C ι2 S2 H2 ∧ Grow ι1 H1 ι2 H2 ∧ D ∉ ι2 ∧ H2 D = some (.lst vs) ∧ RVs C ι2 H2 acc vs ∧
      Wp ((compGo I.get (turnOf tg own rc re env) m i acc S2).bind fun xs S2 => alloc (.lst xs) S2) (QV C ι H Q) (QX C ι H fun c d H' => W c d σ H'), ⟨I.max, ?_⟩, ?_⟩
  · obtain ⟨R2, g2⟩ := R1.laid hD (o := .lst [])
    exact ⟨ι1, S1, [], [], R2, g2, R1.fresh hD, upd_same, .nil, h1⟩
  · rintro i m H2 ⟨ι2, S2, acc, vs, R2, g2, hn, hd, ra, h2⟩
    have stop : ∀ {S' : Store}, S' = S2 → I.get i S2 = some none → Wp ((R.ok acc S').bind fun xs S2 => alloc (.lst xs) S2) (QV C ι H Q) (QX C ι H fun c d H' => W c d σ H') → J.stop i H2 ∧ Q (.ref D) H2 := by
      intro S' e e1 h3
      subst e
      refine ⟨(jr ι2 S' H2 R2 g2 i).1 e1, ?_⟩
      have h4 : QV C ι H Q (.ref S'.length) (S' ++ [.lst acc]) := h3
      exact h4 (ι2 ++ [D]) H2 _ (g1.trans (g2.adopt hD)) (R2.adopt hd hn ra) (.ref (by rw [← R2.len]; simp))
    cases m with
    | zero =>
      cases e : I.get i S2 with
      | none => simp only [compGo, e] at h2; exact h2.elim
      | some o =>
        cases o with
        | none => simp only [compGo, e] at h2; exact .inl (stop rfl e h2)
        | some d => simp only [compGo, e] at h2; exact h2.elim
    | succ k =>
      cases e : I.get i S2 with
      | none => simp only [compGo, e] at h2; exact h2.elim
      | some o =>
        cases o with
        | none => simp only [compGo, e] at h2; exact .inl (stop rfl e h2)
        | some d =>
          simp only [compGo, e] at h2
          obtain ⟨hgo, hy⟩ := (jr ι2 S2 H2 R2 g2 i).2 d e
          refine .inr ⟨hgo, _, fun H3 z => ⟨k, Nat.lt_succ_self k, z⟩, fun x H3 y => ?_⟩
          obtain ⟨R3, g3, rx⟩ := hy x H3 y
          obtain ⟨hn3, hd3⟩ := g3.notin hd hn
          have h3 := Wp.bind.mp (Wp.bind.mp h2)
          obtain ⟨env2, ea, h3⟩ := turn_of h3
          · have N3 : EnvR C ι2 H3 (wipeE env own) (L2.wipe σ own) := (((N.mono Re g1).mono R1 g2).mono R2 g3).wipe own
            refine gTg_ok N3 rx ea fun ws N4 => ⟨wipe_tg hsub, ?_⟩
            have ra3 := ra.mono R2 g3
            refine ⟨ι2, env2, S2, R3, N4, h3.mono (fun b S3 h4 => ?_) fun _ _ z => z⟩
            intro ι4 H4 g4 R4
            obtain ⟨hn4, hd4⟩ := g4.notin hd3 hn3
            have ra4 := ra3.mono R3 g4
            cases b with
            | false =>
              rw [if_neg Bool.false_ne_true]
              exact ⟨ι4, S3, acc, vs, R4, (g2.trans g3).trans g4, hn4, hd4, ra4, Wp.bind.mpr h4⟩
            | true =>
              rw [if_pos rfl]
              refine ⟨ι4, env2, S3, R4, N4.mono R3 g4, (Wp.bind.mp h4).mono (fun x' S4 h5 => ?_) fun _ _ z => z.elim⟩
              intro ι5 H5 v g5 R5 rv
              obtain ⟨hn5, hd5⟩ := g5.notin hd4 hn4
              have ra5 := ra4.mono R4 g5
              have h6 : Wp ((if acc.length < lim then compGo I.get (turnOf tg own rc re env) k (i + 1) (acc ++ [x']) S4 else R.err).bind fun xs S2 => alloc (.lst xs) S2) (QV C ι H Q) (QX C ι H fun c d H' => W c d σ H') := Wp.bind.mpr h5
              by_cases hl : acc.length < lim
              · rw [if_pos hl] at h6
                refine ⟨vs, hd5, by rw [← ra5.len, ← lim_eq]; exact hl, ι5, S4, acc ++ [x'], vs ++ [v], R5.beside hd5 hn5, (((g2.trans g3).trans g4).trans g5).beside hD, hn5, upd_same, ?_, h6⟩
                exact (ra5.append (.one rv)).keep (fun _ _ h => h) (fun _ _ h => sqt_upd hd5 h) fun _ _ h => sqr_upd hd5 h
              · rw [if_neg hl] at h6; exact h6.elim
end
end Dp

set_option Elab.async false
set_option maxRecDepth 100000
set_option linter.all false
set_option maxHeartbeats 4000000
/-! zip, enumerate. -/
namespace Dp
open PySem PySem.Spec PyProof.Rows L2 TL
section
variable {C : MC} {W : WX} {ι ι' ι1 : List Addr} {H H' H1 : Hp} {S S' : Store} {env : Env} {σ : L2.St} {p q : Addr}
variable {X : Cx} {a b c : Expr} {pos : Pos} {ra rb rc : Env → Store → R D}
theorem get_none {ds : List D} {i : Nat} (h : (some ds[i]? : Option (Option D)) = some none) : ds.length ≤ i := List.getElem?_eq_none_iff.mp (by simpa using h)
/-- the two readings of a sequence that is walked -/
def SeqR (C : MC) (Sq : Hp → List V → Prop) (ι1 : List Addr) (H1 : Hp) (I : Itr) : Prop := ∀ ι S H, Rel C ι S H → Grow ι1 H1 ι H → ∀ i,
  (I.get i S = some none → ∃ vs, Sq H vs ∧ vs.length ≤ i) ∧ (∀ d, I.get i S = some (some d) → ∃ vs v, Sq H vs ∧ vs[i]? = some v ∧ RV C ι H d v)
theorem seqR_tup {vs : List V} {ds : List D} (Re : Rel C ι1 S H1) (h : SqT C.K H1 p vs) (r : RVs C ι1 H1 ds vs) : SeqR C (fun H vs => SqT C.K H p vs) ι1 H1 ⟨ds.length, fun i _ => some ds[i]?⟩ := by
  intro ι S' H R g i
  have hs := g.tup Re h
  have rs := r.mono Re g
  refine ⟨fun e => ⟨vs, hs, by rw [← rs.len]; exact get_none e⟩, fun d e => ?_⟩
  obtain ⟨v, h1, h2⟩ := rs.get (i := i) (d := d) (by simpa using e)
  exact ⟨vs, v, hs, h1, h2⟩
theorem seqR_lst {n m : Nat} (h : ι1[n]? = some p) : SeqR C (fun H vs => SqL C.K H p vs) ι1 H1 ⟨m, fun i S' => (getL S' n).map fun ys => ys[i]?⟩ := by
  intro ι S' H R g i
  have hp := g.get h
  refine ⟨fun e => ?_, fun d e => ?_⟩
  · simp only [Option.map_eq_some_iff] at e
    obtain ⟨ys, e1, e2⟩ := e
    obtain ⟨q, vs, g1, g2, g3⟩ := R.list e1
    rw [hp] at g1; cases g1
    exact ⟨vs, .inl (.inl g2), by rw [← g3.len]; exact List.getElem?_eq_none_iff.mp e2⟩
  · simp only [Option.map_eq_some_iff] at e
    obtain ⟨ys, e1, e2⟩ := e
    obtain ⟨q, vs, g1, g2, g3⟩ := R.list e1
    rw [hp] at g1; cases g1
    obtain ⟨v, h1, h2⟩ := g3.get e2
    exact ⟨vs, v, .inl (.inl g2), h1, h2⟩
theorem zip_get {I J : Itr} {i : Nat} {S : Store} : (∀ d, (itZip I J).get i S = some (some d) → ∃ x y, I.get i S = some (some x) ∧ J.get i S = some (some y) ∧ d = .tup [x, y]) ∧
    ((itZip I J).get i S = some none → (∃ o u, I.get i S = some o ∧ J.get i S = some u ∧ (o = none ∨ u = none))) := by
  unfold itZip
  cases e1 : I.get i S with
  | none => simp [e1]
  | some o =>
    cases e2 : J.get i S with
    | none => cases o <;> simp [e1, e2]
    | some u =>
      cases o with
      | none => simp only [e1, e2]; exact ⟨fun d h => (by cases h), fun _ => ⟨none, u, rfl, rfl, .inl rfl⟩⟩
      | some x =>
        cases u with
        | none => simp only [e1, e2]; exact ⟨fun d h => (by cases h), fun _ => ⟨some x, none, rfl, rfl, .inr rfl⟩⟩
        | some y => simp only [e1, e2]; exact ⟨fun d h => (by cases h; exact ⟨x, y, rfl, rfl, rfl⟩), fun h => (by cases h)⟩
theorem jr_pair {p q : Addr} {I J : Itr} {Z : It} {A B : Hp → List V → Prop} (h1 : SeqR C A ι1 H1 I) (h2 : SeqR C B ι1 H1 J)
    (hgo : ∀ i H xs ys x y, A H xs → B H ys → xs[i]? = some x → ys[i]? = some y → Z.go i H)
    (hyl : ∀ i H v H', Z.yld i H v H' → ∃ T x y, v = .ref T ∧ H T = none ∧ H' = upd H T (.tup [x, y]) ∧ (∀ xs, A H xs → xs[i]? = some x) ∧ ∀ ys, B H ys → ys[i]? = some y)
    (hst : ∀ i H xs ys, A H xs → B H ys → (xs.length ≤ i ∨ ys.length ≤ i) → Z.stop i H) : JR C ι1 H1 (itZip I J) Z := by
  intro ι S' H R g i
  obtain ⟨z1, z2⟩ := zip_get (I := I) (J := J) (i := i) (S := S')
  refine ⟨fun e => ?_, fun d e => ?_⟩
  · obtain ⟨o, u, e1, e2, e3⟩ := z2 e
    have k1 := h1 ι S' H R g i
    have k2 := h2 ι S' H R g i
    have f1 : ∃ xs, A H xs ∧ (o = none → xs.length ≤ i) := by
      cases o with
      | none => obtain ⟨xs, q1, q2⟩ := k1.1 e1; exact ⟨xs, q1, fun _ => q2⟩
      | some d => obtain ⟨xs, v, q1, _⟩ := k1.2 d e1; exact ⟨xs, q1, fun z => by cases z⟩
    have f2 : ∃ xs, B H xs ∧ (u = none → xs.length ≤ i) := by
      cases u with
      | none => obtain ⟨xs, q1, q2⟩ := k2.1 e2; exact ⟨xs, q1, fun _ => q2⟩
      | some d => obtain ⟨xs, v, q1, _⟩ := k2.2 d e2; exact ⟨xs, q1, fun z => by cases z⟩
    obtain ⟨xs, q1, q2⟩ := f1
    obtain ⟨ys, q3, q4⟩ := f2
    exact hst i H xs ys q1 q3 (e3.elim (fun z => .inl (q2 z)) fun z => .inr (q4 z))
  · obtain ⟨x, y, e1, e2, rfl⟩ := z1 d e
    obtain ⟨xs, v, q1, q2, q3⟩ := (h1 ι S' H R g i).2 x e1
    obtain ⟨ys, w, r1, r2, r3⟩ := (h2 ι S' H R g i).2 y e2
    refine ⟨hgo i H xs ys v w q1 r1 q2 r2, fun z H' hy => ?_⟩
    obtain ⟨T, x', y', rfl, hT, rfl, hx, hz⟩ := hyl i H z H' hy
    have := hx xs q1
    rw [q2] at this; cases this
    have := hz ys r1
    rw [r2] at this; cases this
    obtain ⟨R2, g2⟩ := R.laid hT (o := .tup [v, w])
    exact ⟨R2, g2, .tup (.inl (.inl upd_same)) ((RVs.cons q3 (.one r3)).mono R g2)⟩
theorem si_zip {elts : List Expr} {kk : Nat} {tpos p' : Pos} (hK : X.K = C.K) (hg : Gl X "zip") (hm : X.mg "zip" = none) (ha : PE X a (tE C W ra)) (hb : PE X b (tE C W rb))
    (hs : starEach [a, b] X.env = (false, eval a X.env) :: starEach [b] X.env) (hs2 : starEach [b] X.env = (false, eval b X.env) :: starEach [] X.env) :
    PI X (.Tuple elts kk tpos) (.Call (.Name "zip" p') [a, b] [] pos) (tI C W fun env S => (ra env S).bind fun x S1 => (rb env S1).bind fun y S2 => R.of S2 (itZ2 S2 x y)) := by
  refine PI.weak (RZ.pi_zipA hg hm (pa_cons ha (pa_cons hb pa_nil hs2) hs) hs (by rw [hs2] <;> rfl)) fun σ H Q ⟨ι, env, S, Re, N, h⟩ => ?_
  refine tE.of Re N (Wp.bind.mp h) (fun _ _ z => z) fun x S1 h1 ι1 H1 v g1 R1 v1 => ?_
  refine tE.of R1 (N.mono Re g1) (Wp.bind.mp h1) (fun _ _ z => z.grow g1) fun y S2 h2 ι2 H2 u g2 R2 v2 => ?_
  obtain ⟨I, e, q⟩ := Wp.of (show Wp (R.of S2 (itZ2 S2 x y)) _ _ from h2)
  have v1' := v1.mono R1 g2
  cases x with
  | tup xs =>
    cases y with
    | tup ys =>
      cases e
      cases v1' with
      | tup k1 r1 =>
        cases v2 with
        | tup k2 r2 =>
          rename_i pa va pb vb
          refine ⟨_, _, _, _, rfl, .inr ⟨by rw [hK]; exact k1, by rw [hK]; exact k2, q ι2 H2 _ (g1.trans g2) R2 ?_⟩⟩
          rw [hK]
          exact jr_pair (p := pa) (q := pb) (seqR_tup R2 k1 r1) (seqR_tup R2 k2 r2) (fun i H xs ys x y h1 h2 h3 h4 => ⟨xs, ys, x, y, h1, h2, h3, h4⟩) (fun i H v H' h => h) fun i H xs ys h1 h2 h3 => ⟨xs, ys, h1, h2, h3⟩
    | _ => cases e
  | ref n =>
    cases y with
    | ref m =>
      simp only [itZ2, itSeq] at e
      cases e1 : getL S2 n with
      | none => rw [e1] at e; cases e
      | some xs =>
        cases e2 : getL S2 m with
        | none => rw [e1, e2] at e; cases e
        | some ys =>
          rw [e1, e2] at e
          cases e
          cases v1' with
          | ref k1 =>
            cases v2 with
            | ref k2 =>
              obtain ⟨pa, va, f1, f2, _⟩ := R2.list e1
              obtain ⟨pb, vb, f3, f4, _⟩ := R2.list e2
              rw [k1] at f1; cases f1
              rw [k2] at f3; cases f3
              refine ⟨_, _, va, vb, rfl, .inl ⟨.inl (.inl f2), .inl (.inl f4), q ι2 H2 _ (g1.trans g2) R2 ?_⟩⟩
              rw [hK]
              exact jr_pair (p := 0) (q := 0) (seqR_lst k1) (seqR_lst k2) (fun i H xs ys x y h1 h2 h3 h4 => ⟨xs, ys, x, y, h1, h2, h3, h4⟩) (fun i H v H' h => h) fun i H xs ys h1 h2 h3 => ⟨xs, ys, h1, h2, h3⟩
    | _ => cases e
  | _ => cases y <;> cases e
theorem si_enum {elts : List Expr} {kk : Nat} {tpos p' : Pos} (hK : X.K = C.K) (hg : Gl X "enumerate") (hm : X.mg "enumerate" = none) (ha : PE X a (tE C W ra)) (hs : starEach [a] X.env = [(false, eval a X.env)]) :
    PI X (.Tuple elts kk tpos) (.Call (.Name "enumerate" p') [a] [] pos) (tI C W fun env S => (ra env S).bind fun x S1 => R.of S1 (itE2 S1 x)) := by
  refine PI.weak (pi_enum hg hm (pa_cons ha pa_nil hs) hs) fun σ H Q ⟨ι, env, S, Re, N, h⟩ => ?_
  refine tE.of Re N (Wp.bind.mp h) (fun _ _ z => z) fun x S1 h1 ι1 H1 v g1 R1 v1 => ?_
  obtain ⟨I, e, q⟩ := Wp.of (show Wp (R.of S1 (itE2 S1 x)) _ _ from h1)
  cases x with
  | ref n =>
    simp only [itE2, itSeq] at e
    cases e1 : getL S1 n with
    | none => rw [e1] at e; cases e
    | some xs =>
      rw [e1] at e
      cases e
      cases v1 with
      | ref k1 =>
        obtain ⟨pa, va, f1, f2, _⟩ := R1.list e1
        rw [k1] at f1; cases f1
        refine ⟨_, va, rfl, .inl (.inl f2), q ι1 H1 _ g1 R1 ?_⟩
        rw [hK]
        intro ι S' H R g i
        obtain ⟨z1, z2⟩ := seqR_lst (C := C) (H1 := H1) (m := xs.length) k1 ι S' H R g i
        refine ⟨fun e => ?_, fun d e => ?_⟩
        · simp only [itEnum, Option.map_eq_some_iff] at e
          obtain ⟨o, ⟨ys, e1, rfl⟩, e2⟩ := e
          rw [Option.map_eq_none_iff] at e2
          obtain ⟨vs, q1, q2⟩ := z1 (by show (getL S' n).map _ = some none; rw [e1]; simp [e2])
          exact ⟨vs, q1, q2⟩
        · simp only [itEnum, Option.map_eq_some_iff] at e
          obtain ⟨o, ⟨ys, e1, rfl⟩, e2⟩ := e
          obtain ⟨x, e3, rfl⟩ := e2
          obtain ⟨vs, v, q1, q2, q3⟩ := z2 x (by show (getL S' n).map _ = some (some x); rw [e1]; simp [e3])
          refine ⟨⟨vs, v, q1, q2⟩, fun z H' ⟨T, x', e4, hT, e5, hx⟩ => ?_⟩
          subst e4 e5
          have := hx vs q1
          rw [q2] at this; cases this
          obtain ⟨R2, g2⟩ := R.laid hT (o := .tup [.int (i : Nat), v])
          exact ⟨R2, g2, .tup (.inl (.inl upd_same)) ((RVs.cons (.int _) (.one q3)).mono R g2)⟩
  | _ => cases e
end
end Dp

set_option Elab.async false
set_option maxRecDepth 100000
set_option linter.all false
set_option maxHeartbeats 4000000
/-! From the text's syntax to the core, and why it is right: expressions. -/
namespace Dp
open PySem PySem.Spec PyProof.Rows L2 TL

/-- what a name of the module means -/
inductive GV where
  | fn (i : Nat) | cst (d : D)
structure Gam where
  N : List Str
  sc : Scope
  fnc : Str → Bool
abbrev Gs := Str → Option GV

def slotOf (Γ : Gam) (x : Str) : Option Nat :=
  match Γ.N.findIdx? (· == x) with
  | some i => if Γ.N[i]? = some x then some i else none
  | none => none
theorem slotOf_ok {Γ : Gam} {x : Str} {i : Nat} (h : slotOf Γ x = some i) : Γ.N[i]? = some x := by
  unfold slotOf at h
  split at h
  · split at h
    · rename_i e; cases h; exact e
    · cases h
  · cases h
def kindIs (Γ : Gam) (x : Str) (k : NameKind) : Bool := Γ.sc.names.lookup x == some k
theorem kindIs_ok {Γ : Gam} {x : Str} {k : NameKind} (h : kindIs Γ x k = true) : Γ.sc.names.lookup x = some k := by
  unfold kindIs at h; simpa using h
def okName (x : Str) : Bool := !(x == ("__debug__" : Str)) && !(x == ("__classdict__" : Str)) && !(x == ("__name__" : Str))
theorem okName_ok {x : Str} (h : okName x = true) : (x == ("__debug__" : Str)) = false ∧ (x == ("__classdict__" : Str)) = false ∧ x ≠ "__name__" := by
  unfold okName at h
  simp only [Bool.and_eq_true, Bool.not_eq_true'] at h
  exact ⟨h.1.1, h.1.2, by simpa using h.2⟩

def cConst : Const → Option D
  | .none => some .non
  | .bool b => some (.bl b)
  | .int i => some (.int i)
  | .str s => some (.str s.cps.toList)
  | _ => none
def cName (gv : Gs) (Γ : Gam) (x : Str) : Option Ex :=
  if okName x then
    if kindIs Γ x .local || kindIs Γ x .cell || kindIs Γ x .free then (slotOf Γ x).map .var
    else if kindIs Γ x .globalImplicit then
      match gv x with
      | some (.cst d) => some (.lit d)
      | _ => none
    else none
  else none
def boOf : Operator → Option BO
  | .Add => some .add | .Sub => some .sub | .Mult => some .mul | .FloorDiv => some .fdiv | .Mod => some .mod | .Pow => some .pow | .RShift => some .shr | _ => none
theorem boOf_ok {o : Operator} {b : BO} (h : boOf o = some b) : o = opOf b := by
  cases o <;> cases h <;> rfl
def coOf : CmpOp → CO
  | .Eq => .eq | .NotEq => .ne | .Lt => .lt | .LtE => .le | .Gt => .gt | .GtE => .ge | .Is => .is_ | .IsNot => .isnt | .In => .in_ | .NotIn => .nin
theorem coOf_ok (o : CmpOp) : cmpOf (coOf o) = o := by cases o <;> rfl
def cEs (f : Expr → Option Ex) : List Expr → Option Exs
  | [] => some .nil
  | e :: es => match f e, cEs f es with
    | some a, some r => some (.cons a r)
    | _, _ => none
def cBool (k : Ex → Ex → Ex) (f : Expr → Option Ex) : List Expr → Option Ex
  | [] => none
  | [e] => f e
  | e :: e' :: r => match f e, cBool k f (e' :: r) with
    | some a, some b => some (k a b)
    | _, _ => none
def cOx (f : Expr → Option Ex) : Option Expr → Option Ox
  | none => some .none
  | some e => (f e).map .some
/-- a built-in function of one argument -/
def biOf (x : Str) : Option BI :=
  if x = "len" then some .len else if x = "list" then some .list else if x = "tuple" then some .tuple else if x = "all" then some .all
  else if x = "any" then some .any else if x = "sum" then some .sum else if x = "int" then some .int else none
def tyOf (x : Str) : Option Ty :=
  if x = "int" then some .int else if x = "str" then some .str else if x = "bool" then some .bool else if x = "tuple" then some .tuple
  else if x = "list" then some .list else if x = "dict" then some .dict else none
def mtOf (x : Str) : Option MT :=
  if x = "append" then some .append else if x = "extend" then some .extend else if x = "pop" then some .pop else if x = "join" then some .join
  else if x = "split" then some .split else if x = "reverse" then some .reverse else if x = "clear" then some .clear else none
def glob (gv : Gs) (Γ : Gam) (x : Str) : Bool := kindIs Γ x .globalImplicit && (gv x).isNone && okName x
def cCall (gv : Gs) (Γ : Gam) (f : Expr → Option Ex) (x : Str) (es : List Expr) : Option Ex :=
  match es with
  | [] => none
  | a :: r =>
    if kindIs Γ x .globalImplicit && okName x then
      match gv x with
      | some (.fn i) => (cEs f (a :: r)).map (.call i)
      | some (.cst _) => none
      | none =>
        if x = "isinstance" then
          match r with
          | [.Name t _] => match tyOf t with
            | some ty => if glob gv Γ t then (cEs f [a]).map (.bi (.isa ty)) else none
            | none => none
          | [.Tuple [.Name t _, .Name u _] _ _] => match tyOf t, tyOf u with
            | some ty, some uy => if glob gv Γ t && glob gv Γ u then (cEs f [a]).map (.bi (.isa2 ty uy)) else none
            | _, _ => none
          | _ => none
        else match biOf x with
          | some b => (cEs f (a :: r)).map (.bi b)
          | none => none
    else none
def cMeth (f : Expr → Option Ex) (o : Expr) (m : Str) (es : List Expr) (apos pos : Pos) : Option Ex :=
  match mtOf m, f o, cEs f es with
  | some mt, some a, some r => if (apos.endLine == pos.line) && decide (es.length < 29) then some (.mt mt a r) else none
  | _, _, _ => none
def isTup : Expr → Bool
  | .Tuple _ _ _ => true
  | _ => false
def cIter (gv : Gs) (Γ : Gam) (f : Expr → Option Ex) (tg : Expr) : Expr → Option Ix
  | .Call (.Name x p) es [] pos =>
    if glob gv Γ x && (x == ("range" : Str)) then
      match es with
      | [a] => (f a).map .rng1
      | [a, b] => match f a, f b with
        | some a', some b' => some (.rng2 a' b')
        | _, _ => none
      | [a, b, c] => match f a, f b, f c with
        | some a', some b', some c' => some (.rng3 a' b' c')
        | _, _, _ => none
      | _ => none
    else if glob gv Γ x && (x == ("zip" : Str)) && isTup tg then
      match es with
      | [a, b] => match f a, f b with
        | some a', some b' => some (.zip a' b')
        | _, _ => none
      | _ => none
    else if glob gv Γ x && (x == ("enumerate" : Str)) && isTup tg then
      match es with
      | [a] => (f a).map .enum
      | _ => none
    else (f (.Call (.Name x p) es [] pos)).map .val
  | e => (f e).map .val
def cSlot (Γ : Gam) : Expr → Option Nat
  | .Name x _ => if okName x && ((kindIs Γ x .local) || (kindIs Γ x .cell && Γ.fnc x)) then slotOf Γ x else none
  | _ => none
def cSlots (Γ : Gam) : List Expr → Option (List Nat)
  | [] => some []
  | e :: es => match cSlot Γ e, cSlots Γ es with
    | some i, some r => some (i :: r)
    | _, _ => none
def cTg (Γ : Gam) : Expr → Option Tg
  | .Tuple es _ _ => (cSlots Γ es).map .many
  | e => (cSlot Γ e).map .one
def ownOf (N : List Str) (scope : Scope) : List (Str × Nat) :=
  scope.names.filterMap fun y => match y.2 with
    | .local | .cell => (N.findIdx? (· == y.1)).map fun i => (y.1, i)
    | _ => none
def blkΓ (Γ : Gam) (scope : Scope) : Gam := ⟨Γ.N, relS scope Γ.sc, fun x => scope.names.lookup x == some .cell⟩
def cE (gv : Gs) : Nat → Gam → Expr → Option Ex
  | 0, _, _ => none
  | n + 1, Γ, e => match e with
    | .Constant c _ _ => (cConst c).map .lit
    | .Name x _ => cName gv Γ x
    | .BinOp a o b _ => match boOf o, cE gv n Γ a, cE gv n Γ b with
      | some o', some a', some b' => some (.bin o' a' b')
      | _, _, _ => none
    | .UnaryOp .Not a _ => (cE gv n Γ a).map .not
    | .UnaryOp .USub a _ => (cE gv n Γ a).map .neg
    | .BoolOp .And es _ => cBool .and (cE gv n Γ) es
    | .BoolOp .Or es _ => cBool .or (cE gv n Γ) es
    | .Compare a [o] [b] _ => match cE gv n Γ a, cE gv n Γ b with
      | some a', some b' => some (.cmp (coOf o) a' b')
      | _, _ => none
    | .Compare a [o, p] [b, c] _ => match cE gv n Γ a, cE gv n Γ b, cE gv n Γ c with
      | some a', some b', some c' => some (.chain (coOf o) (coOf p) a' b' c')
      | _, _, _ => none
    | .IfExp c a b _ => match cE gv n Γ c, cE gv n Γ a, cE gv n Γ b with
      | some c', some a', some b' => some (.ite c' a' b')
      | _, _, _ => none
    | .Subscript a (.Slice lo hi none _) _ => match cE gv n Γ a, cOx (cE gv n Γ) lo, cOx (cE gv n Γ) hi with
      | some a', some l, some h => some (.slc a' l h)
      | _, _, _ => none
    | .Subscript a b _ => match cE gv n Γ a, cE gv n Γ b with
      | some a', some b' => some (.idx a' b')
      | _, _ => none
    | .Tuple es _ _ => (cEs (cE gv n Γ) es).map .tup
    | .List es _ => (cEs (cE gv n Γ) es).map .lst
    | .Call (.Name x _) es [] _ => cCall gv Γ (cE gv n Γ) x es
    | .Call (.Attribute o m apos) es [] pos => cMeth (cE gv n Γ) o m es apos pos
    | .ListComp elt [⟨tg, it, ifs, 0⟩] scope _ =>
      match cTg (blkΓ Γ scope) tg, cIter gv Γ (cE gv n Γ) tg it, cE gv n (blkΓ Γ scope) elt with
      | some tg', some it', some elt' =>
        if blkC Γ.N Γ.sc scope (ownOf Γ.N scope) && (tgSlots tg').all (fun i => ((ownOf Γ.N scope).map (·.2)).contains i) then
          match ifs with
          | [] => some (.comp elt' tg' it' .none ((ownOf Γ.N scope).map (·.2)))
          | [c] => match cE gv n (blkΓ Γ scope) c with
            | some c' => some (.comp elt' tg' it' (.some c') ((ownOf Γ.N scope).map (·.2)))
            | none => none
          | _ => none
        else none
      | _, _, _ => none
    | _ => none

/-! ### what a context must be -/
def blts : List String := ["len", "list", "tuple", "all", "any", "sum", "int", "isinstance", "str", "bool", "dict", "range", "zip", "enumerate"]
/-- the functions that may be called: their promises -/
structure FnAt (C : MC) (X : Cx) (x : Str) (i : Nat) (f : List D → Store → R D) : Prop where
  ex : ∃ (fd : FuncData) (ps : List Str) (k : Nat), FnOk X.prog X.w X.K X.mg X.base (L2.CX X.prog X.w) k (C.fa i) fd ps (spF C f) ∧ Room k X.A ∧ Binds X.K fd ps []
  mg : X.mg x = some (.ref (C.fa i))
  kp : PySem.W.keepIn X.K (.ref (C.fa i)) = true
structure Mo (C : MC) (gv : Gs) (cl : Nat → List D → Store → R D) (X : Cx) : Prop where
  K : X.K = C.K
  w : X.w = C.w
  calm : X.calm = true
  units : X.A.units + 100 < cLine
  fn : ∀ x i, gv x = some (.fn i) → FnAt C X x i (cl i)
  cst : ∀ x d, gv x = some (.cst d) → ∃ u v, X.mg x = some u ∧ RelV v u ∧ ∀ ι H, RV C ι H d v
  blt : ∀ x : String, x ∈ blts → gv (Str.ofString x) = none → X.mg (Str.ofString x) = none
structure Fits (Γ : Gam) (X : Cx) : Prop where
  N : X.N = Γ.N
  nd : X.N.Nodup
  sc : X.env.scope = Γ.sc
  fn : X.fn = Γ.fnc
theorem Mo.blk {C : MC} {gv : Gs} {cl : Nat → List D → Store → R D} {X : Cx} (M : Mo C gv cl X) (s : Shared) (H : Hp) (scope : Scope) (cenv : PySem.Env) (fp : List Addr) : Mo C gv cl (X.blk s H scope cenv fp) :=
  ⟨M.K, M.w, M.calm, M.units, fun x i h => let F := M.fn x i h; ⟨F.ex, F.mg, F.kp⟩, M.cst, M.blt⟩
theorem Fits.blk {Γ : Gam} {X : Cx} (F : Fits Γ X) (s : Shared) (H : Hp) (scope : Scope) (C : Addr) (cl : List (Str × Addr)) (fp : List Addr) : Fits (blkΓ Γ scope) (X.blk s H scope (compEnvC scope cl C X.env) fp) := by
  refine ⟨F.N, F.nd, ?_, rfl⟩
  show (compEnvC scope cl C X.env).scope = relS scope Γ.sc
  rw [← F.sc]
  rfl

section
variable {C : MC} {gv : Gs} {cl : Nat → List D → Store → R D} {X : Cx} {Γ : Gam} {W : WX}
theorem Fits.gl (F : Fits Γ X) {x : Str} (h : kindIs Γ x .globalImplicit = true) : Gl X x := by
  show X.env.scope.names.lookup x = _
  rw [F.sc]; exact kindIs_ok h
theorem Fits.vis (F : Fits Γ X) {x : Str} (h : (kindIs Γ x .local || kindIs Γ x .cell || kindIs Γ x .free) = true) : Vis X.env.scope x := by
  rw [F.sc]
  simp only [Bool.or_eq_true] at h
  rcases h with (h | h) | h
  · exact .inl (kindIs_ok h)
  · exact .inr (.inl (kindIs_ok h))
  · exact .inr (.inr (kindIs_ok h))
/-- no star, no slice, no set: what is told of a text that the core takes -/
theorem star_of {f : Expr → Option Ex} (hf : ∀ e p, f (.Starred e p) = none) {e : Expr} {c : Ex} (h : f e = some c) (es : List Expr) (env : PySem.Env) : starEach (e :: es) env = (false, eval e env) :: starEach es env := by
  cases e <;> first | rfl | (rw [hf] at h; cases h)
theorem stars_of {f : Expr → Option Ex} (hf : ∀ e p, f (.Starred e p) = none) : ∀ {es : List Expr} {c : Exs}, cEs f es = some c → ∀ env, starEach es env = es.map fun e => (false, eval e env)
  | [], _, _, env => rfl
  | e :: es, c, h, env => by
    unfold cEs at h
    split at h
    · rename_i a r h1 h2
      rw [star_of hf h1, stars_of hf h2 env]; rfl
    · cases h
theorem any_of {es : List Expr} {env : PySem.Env} (pos : Pos) (h : starEach es env = es.map fun e => (false, eval e env)) : (backTo pos (starEach es env)).any (·.1) = false := by
  rw [h]
  unfold backTo
  rw [List.map_map, List.any_map, List.any_eq_false]
  intro x _
  simp
theorem all_of {es : List Expr} {env : PySem.Env} (pos : Pos) (h : starEach es env = es.map fun e => (false, eval e env)) : (backTo pos (starEach es env)).all (fun x => !x.1) = true := by
  rw [h]
  unfold backTo
  rw [List.map_map, List.all_map, List.all_eq_true]
  intro x _
  simp
theorem base_of {o : Expr} {m : Str} {env : PySem.Env} {w : Sem Value} (h : ∀ id p q, o ≠ .Call (.Name id p) [] [] q) : attributeBase o m env w = w := by
  unfold attributeBase
  split
  · exact absurd rfl (h _ _ _)
  · rfl
theorem snd_args {f : Expr → Option Ex} (hf : ∀ e p, f (.Starred e p) = none) (ih : ∀ e c, f e = some c → PE X e (tE C W (ev cl c))) : ∀ {es : List Expr} {c : Exs}, cEs f es = some c → PA X es (tA C W (evs cl c))
  | [], c, h => by cases h; exact sa_nil
  | e :: es, c, h => by
    unfold cEs at h
    split at h
    · rename_i a r h1 h2
      cases h
      exact sa_cons (ih e a h1) (snd_args hf ih h2) (star_of hf h1 es _)
    · cases h
/-- what a fragment's own compiler never takes -/
structure Shy (f : Expr → Option Ex) : Prop where
  star : ∀ e p, f (.Starred e p) = none
  set : ∀ e k p, f (.Set e k p) = none
  slice : ∀ a b c p, f (.Slice a b c p) = none
  call0 : ∀ x p q, f (.Call (.Name x p) [] [] q) = none
theorem cE_shy (n : Nat) (Γ : Gam) : Shy (cE gv n Γ) := by
  cases n with
  | zero => exact ⟨fun _ _ => rfl, fun _ _ _ => rfl, fun _ _ _ _ => rfl, fun _ _ _ => rfl⟩
  | succ n => exact ⟨fun _ _ => rfl, fun _ _ _ => rfl, fun _ _ _ _ => rfl, fun _ _ _ => rfl⟩
theorem Shy.marks {f : Expr → Option Ex} (Y : Shy f) {e : Expr} {c : Ex} (h : f e = some c) (o : CmpOp) : behindInMarks o e = false := by
  cases e <;> first | rfl | (rw [Y.set] at h; cases h)
theorem Shy.plain {f : Expr → Option Ex} (Y : Shy f) {e : Expr} {c : Ex} (h : f e = some c) : PlainIx e := by
  intro o i
  cases e <;> first | rfl | (rw [Y.slice] at h; cases h)
theorem Shy.base {f : Expr → Option Ex} (Y : Shy f) {e : Expr} {c : Ex} (h : f e = some c) {m : Str} {env : PySem.Env} {w : Sem Value} : attributeBase e m env w = w :=
  base_of fun x p q z => by subst z; rw [Y.call0] at h; cases h
theorem bt_ofString {x : String} (h : (x == "__debug__") = false := by decide) : True := trivial
/-- a built-in's name that nothing hides -/
theorem Mo.bl (M : Mo C gv cl X) {x : String} (hx : x ∈ blts) (h : gv (Str.ofString x) = none) : X.mg (Str.ofString x) = none := M.blt x hx h
theorem s_bi (M : Mo C gv cl X) (F : Fits Γ X) {x : Str} {b : BI} (hb : biOf x = some b) (hk : kindIs Γ x .globalImplicit = true) (hn : okName x = true) (hv : gv x = none) {p pos : Pos} {a : Expr} {es : List Expr} {rs : Env → Store → R (List D)}
    (ha : PA X (a :: es) (tA C W rs)) (he : starEach (a :: es) X.env = (false, eval a X.env) :: starEach es X.env) (hpl : (backTo pos (starEach es X.env)).any (·.1) = false) :
    PE X (.Call (.Name x p) (a :: es) [] pos) (tE C W fun env S => (rs env S).bind fun xs S1 => biD b xs S1) := by
  have hg := F.gl hk
  obtain ⟨n1, _, n3⟩ := okName_ok hn
  unfold biOf at hb
  split at hb
  · rename_i e; subst e; cases hb
    exact s_cb (bi_len M.K) hg (M.bl (by decide) hv) (by decide +kernel) ha n3 n1 he hpl
  split at hb
  · rename_i e; subst e; cases hb
    exact s_cty (bi_list M.K M.w M.calm) hg (M.bl (by decide) hv) (by decide +kernel) ha n3 n1 he hpl
  split at hb
  · rename_i e; subst e; cases hb
    exact s_cty (bi_tuple M.K) hg (M.bl (by decide) hv) (by decide +kernel) ha n3 n1 he hpl
  split at hb
  · rename_i e; subst e; cases hb
    exact s_cb (bi_all M.K M.calm) hg (M.bl (by decide) hv) (by decide +kernel) ha n3 n1 he hpl
  split at hb
  · rename_i e; subst e; cases hb
    exact s_cb (bi_any M.K M.calm) hg (M.bl (by decide) hv) (by decide +kernel) ha n3 n1 he hpl
  split at hb
  · rename_i e; subst e; cases hb
    exact s_cb (bi_sum M.K M.calm) hg (M.bl (by decide) hv) (by decide +kernel) ha n3 n1 he hpl
  split at hb
  · rename_i e; subst e; cases hb
    exact s_cty bi_int hg (M.bl (by decide) hv) (by decide +kernel) ha n3 n1 he hpl
  · cases hb
theorem tyOf_ok {x : Str} {t : Ty} (h : tyOf x = some t) : x = Str.ofString (tyName t) := by
  unfold tyOf at h
  repeat (split at h; · rename_i e; cases h; exact e)
  cases h
theorem ty_in (t : Ty) : tyName t ∈ blts := by cases t <;> decide
theorem glob_ok {x : Str} (h : glob gv Γ x = true) : kindIs Γ x .globalImplicit = true ∧ gv x = none ∧ okName x = true := by
  unfold glob at h
  simp only [Bool.and_eq_true, Option.isNone_iff_eq_none] at h
  exact ⟨h.1.1, h.1.2, h.2⟩
theorem snd_call (M : Mo C gv cl X) (F : Fits Γ X) (tk : Takes X W) {f : Expr → Option Ex} (Y : Shy f) (ih : ∀ e c, f e = some c → PE X e (tE C W (ev cl c))) {x : Str} {p pos : Pos} {es : List Expr} {c : Ex} (h : cCall gv Γ f x es = some c) :
    PE X (.Call (.Name x p) es [] pos) (tE C W (ev cl c)) := by
  unfold cCall at h
  split at h
  · cases h
  · rename_i a r
    split at h
    · rename_i hk
      simp only [Bool.and_eq_true] at hk
      have hg := F.gl hk.1
      obtain ⟨n1, _, n3⟩ := okName_ok hk.2
      split at h
      · rename_i i hv
        rw [Option.map_eq_some_iff] at h
        obtain ⟨cs, h1, rfl⟩ := h
        have hs := stars_of Y.star h1 X.env
        have fa := M.fn x i hv
        obtain ⟨fd, ps, k, g1, g2, g3⟩ := fa.ex
        have hst : starEach (a :: r) X.env = (false, eval a X.env) :: starEach r X.env := by
          unfold cEs at h1
          split at h1
          · rename_i q1 q2; exact star_of Y.star q1 r _
          · cases h1
        have hs2 : starEach r X.env = r.map fun e => (false, eval e X.env) := by
          rw [hst] at hs
          simpa using hs
        exact s_call tk g1 g2 hg fa.mg fa.kp g3 (snd_args Y.star ih h1) n1 hst (any_of _ hs2)
      · cases h
      · rename_i hv
        split at h
        · rename_i e
          subst e
          split at h
          · rename_i t p2
            split at h
            · rename_i ty ht
              split at h
              · rename_i hgl
                obtain ⟨k1, k2, k3⟩ := glob_ok hgl
                have e := tyOf_ok ht
                subst e
                rw [Option.map_eq_some_iff] at h
                obtain ⟨cs, h1, rfl⟩ := h
                unfold cEs at h1
                split at h1
                · rename_i a' r' q1 q2
                  cases q2
                  cases h1
                  exact s_isa M.K ty hg (M.bl (by decide) hv) (F.gl k1) (M.bl (ty_in ty) k2) (ih a a' q1) (star_of Y.star q1 _ _)
                · cases h1
              · cases h
            · cases h
          · rename_i t p2 u p3 kk tp
            split at h
            · rename_i ty uy ht hu
              split at h
              · rename_i hgl
                simp only [Bool.and_eq_true] at hgl
                obtain ⟨k1, k2, k3⟩ := glob_ok hgl.1
                obtain ⟨l1, l2, l3⟩ := glob_ok hgl.2
                have e := tyOf_ok ht
                subst e
                have e := tyOf_ok hu
                subst e
                rw [Option.map_eq_some_iff] at h
                obtain ⟨cs, h1, rfl⟩ := h
                unfold cEs at h1
                split at h1
                · rename_i a' r' q1 q2
                  cases q2
                  cases h1
                  exact s_isa2 M.K ty uy hg (M.bl (by decide) hv) (F.gl k1) (M.bl (ty_in ty) k2) (F.gl l1) (M.bl (ty_in uy) l2) (ih a a' q1) (star_of Y.star q1 _ _)
                · cases h1
              · cases h
            · cases h
          · cases h
        · split at h
          · rename_i b hb
            rw [Option.map_eq_some_iff] at h
            obtain ⟨cs, h1, rfl⟩ := h
            have hs := stars_of Y.star h1 X.env
            have hst : starEach (a :: r) X.env = (false, eval a X.env) :: starEach r X.env := by
              unfold cEs at h1
              split at h1
              · rename_i q1 q2; exact star_of Y.star q1 r _
              · cases h1
            have hs2 : starEach r X.env = r.map fun e => (false, eval e X.env) := by
              rw [hst] at hs
              simpa using hs
            exact s_bi M F hb hk.1 hk.2 hv (snd_args Y.star ih h1) hst (any_of _ hs2)
          · cases h
    · cases h
theorem mtOf_ok {x : Str} {m : MT} (h : mtOf x = some m) : x = Str.ofString (mtName m) ∧ m ≠ .get ∧ m ≠ .index := by
  unfold mtOf at h
  repeat (split at h; · rename_i e; cases h; exact ⟨e, by decide, by decide⟩)
  cases h
theorem snd_meth (M : Mo C gv cl X) {f : Expr → Option Ex} (Y : Shy f) (ih : ∀ e c, f e = some c → PE X e (tE C W (ev cl c))) {o : Expr} {m : Str} {apos pos : Pos} {es : List Expr} {c : Ex} (h : cMeth f o m es apos pos = some c) :
    PE X (.Call (.Attribute o m apos) es [] pos) (tE C W (ev cl c)) := by
  unfold cMeth at h
  split at h
  · rename_i mt a r h1 h2 h3
    split at h
    · rename_i hc
      simp only [Bool.and_eq_true, decide_eq_true_eq] at hc
      cases h
      obtain ⟨e, m1, m2⟩ := mtOf_ok h1
      subst e
      obtain ⟨T, id, MFm⟩ := mf_all (C := C) M.K mt m1 m2
      cases es with
      | nil =>
        cases h3
        exact s_mt0 M.K MFm (ih o a h2) (Y.base h2) hc.1
      | cons b rest =>
        have hs := stars_of Y.star h3 X.env
        have hst : starEach (b :: rest) X.env = (false, eval b X.env) :: starEach rest X.env := by
          unfold cEs at h3
          split at h3
          · rename_i q1 q2; exact star_of Y.star q1 rest _
          · cases h3
        have hs2 : starEach rest X.env = rest.map fun e => (false, eval e X.env) := by
          rw [hst] at hs
          simpa using hs
        refine s_mt M.K MFm (ih o a h2) (snd_args Y.star ih h3) (Y.base h2) hc.1 ?_ hst (any_of _ hs2)
        have e1 := all_of pos hs
        rw [e1]
        have hlen := hc.2
        simp only [List.length_cons] at hlen
        simp only [List.length_cons, List.length_nil, List.isEmpty_nil, if_true, Bool.true_and, Bool.and_eq_true, decide_eq_true_eq]
        exact ⟨rfl, by omega⟩
    · cases h
  · cases h
end
end Dp

set_option Elab.async false
set_option maxRecDepth 100000
set_option linter.all false
set_option maxHeartbeats 4000000
/-! The core is right: expressions. -/
namespace Dp
open PySem PySem.Spec PyProof.Rows L2 TL
section
variable {C : MC} {gv : Gs} {cl : Nat → List D → Store → R D} {X : Cx} {Γ : Gam} {W : WX}

theorem snd_name (M : Mo C gv cl X) (F : Fits Γ X) {x : Str} {pos : Pos} {c : Ex} (h : cName gv Γ x = some c) : PE X (.Name x pos) (tE C W (ev cl c)) := by
  unfold cName at h
  split at h
  · rename_i hn
    obtain ⟨n1, n2, n3⟩ := okName_ok hn
    split at h
    · rename_i hk
      rw [Option.map_eq_some_iff] at h
      obtain ⟨i, hi, rfl⟩ := h
      exact s_var (by rw [F.N]; exact slotOf_ok hi) (F.vis hk) n1 n2
    · split at h
      · rename_i hk
        split at h
        · rename_i d hd
          cases h
          obtain ⟨u, v, h1, h2, h3⟩ := M.cst x d hd
          exact s_lit (pe_glob (F.gl hk) h1 h2 n1) h3
        · cases h
      · cases h
  · cases h
theorem str_back (s : Str) : (⟨s.cps.toList.toArray⟩ : Str) = s := by cases s; simp
theorem snd_const {k : Const} {j : Nat} {pos : Pos} {d : D} (h : cConst k = some d) : PE X (.Constant k j pos) (tE C W (ev cl (.lit d))) := by
  cases k <;> cases h
  · exact s_lit pe_non fun _ _ => .non
  · exact s_lit pe_bl fun _ _ => .bl _
  · exact s_lit pe_int fun _ _ => .int _
  · rename_i s
    refine s_lit pe_str fun ι H => ?_
    have := RV.str (C := C) (ι := ι) (H := H) s.cps.toList
    rw [str_back] at this
    exact this
theorem snd_and {f : Expr → Option Ex} (ih : ∀ e c, f e = some c → PE X e (tE C W (ev cl c))) (hK : X.K = C.K) {pos : Pos} : ∀ {es : List Expr} {c : Ex}, cBool .and f es = some c → PE X (.BoolOp .And es pos) (tE C W (ev cl c))
  | [], c, h => by cases h
  | [e], c, h => pe_one (ih e c h)
  | e :: e' :: r, c, h => by
    unfold cBool at h
    split at h
    · rename_i a b h1 h2
      cases h
      exact s_and hK (ih e a h1) (snd_and ih hK h2)
    · cases h
theorem snd_or {f : Expr → Option Ex} (ih : ∀ e c, f e = some c → PE X e (tE C W (ev cl c))) (hK : X.K = C.K) {pos : Pos} : ∀ {es : List Expr} {c : Ex}, cBool .or f es = some c → PE X (.BoolOp .Or es pos) (tE C W (ev cl c))
  | [], c, h => by cases h
  | [e], c, h => pe_one (ih e c h)
  | e :: e' :: r, c, h => by
    unfold cBool at h
    split at h
    · rename_i a b h1 h2
      cases h
      exact s_or hK (ih e a h1) (snd_or ih hK h2)
    · cases h
theorem snd_andT {f : Expr → Option Ex} (ih : ∀ e c, f e = some c → PT X e (tB C W (ev cl c))) {pos : Pos} : ∀ {es : List Expr} {c : Ex}, cBool .and f es = some c → PW X (.BoolOp .And es pos) (tB C W (ev cl c))
  | [], c, h => by cases h
  | [e], c, h => pw_and1 (ih e c h)
  | e :: e' :: r, c, h => by
    unfold cBool at h
    split at h
    · rename_i a b h1 h2
      cases h
      exact sw_and (ih e a h1) (snd_andT ih h2)
    · cases h
theorem snd_orT {f : Expr → Option Ex} (ih : ∀ e c, f e = some c → PT X e (tB C W (ev cl c))) {pos : Pos} : ∀ {es : List Expr} {c : Ex}, cBool .or f es = some c → PW X (.BoolOp .Or es pos) (tB C W (ev cl c))
  | [], c, h => by cases h
  | [e], c, h => pw_or1 (ih e c h)
  | e :: e' :: r, c, h => by
    unfold cBool at h
    split at h
    · rename_i a b h1 h2
      cases h
      exact sw_or (ih e a h1) (snd_orT ih h2)
    · cases h
theorem snd_ox {f : Expr → Option Ex} (ih : ∀ e c, f e = some c → PE X e (tE C W (ev cl c))) : ∀ {o : Option Expr} {c : Ox}, cOx f o = some c → PO X o (tO C W (evO cl c))
  | none, c, h => by cases h; exact so_none
  | some e, c, h => by
    unfold cOx at h
    rw [Option.map_eq_some_iff] at h
    obtain ⟨a, h1, rfl⟩ := h
    exact so_some (ih e a h1)

/-! ### targets -/
theorem snd_slot (F : Fits Γ X) {e : Expr} {i : Nat} (h : cSlot Γ e = some i) : PG X e (gName i) ∧ (∃ x p, e = .Name x p) := by
  cases e with
  | Name x p =>
    simp only [cSlot] at h
    split at h
    · rename_i hk
      simp only [Bool.and_eq_true, Bool.or_eq_true] at hk
      have hi := slotOf_ok h
      rw [← F.N] at hi
      refine ⟨?_, x, p, rfl⟩
      rcases hk.2 with q | ⟨q, q2⟩
      · have e := kindIs_ok q
        rw [← F.sc] at e
        exact pg_name F.nd hi (.inl e) (.inr e)
      · have e := kindIs_ok q
        rw [← F.sc] at e
        exact pg_name F.nd hi (.inr e) (.inl (by rw [F.fn]; exact q2))
    · cases h
  | _ => cases h
theorem snd_slots (F : Fits Γ X) : ∀ {es : List Expr} {is : List Nat}, cSlots Γ es = some is → PGs X es (gNames is) ∧ es.length = is.length ∧ assignEach es X.env = es.map fun e => (false, assign e X.env)
  | [], is, h => by cases h; exact ⟨pgs_nil, rfl, rfl⟩
  | e :: es, is, h => by
    unfold cSlots at h
    split at h
    · rename_i i r h1 h2
      cases h
      obtain ⟨g, x, p, rfl⟩ := snd_slot F h1
      obtain ⟨gs, l, a⟩ := snd_slots F h2
      exact ⟨pgs_cons g gs rfl, by simp [l], by show (false, assign (.Name x p) X.env) :: assignEach es X.env = _; rw [a]; rfl⟩
    · cases h
theorem snd_tg (M : Mo C gv cl X) (F : Fits Γ X) {e : Expr} {tg : Tg} (h : cTg Γ e = some tg) : PG X e (gTg C.K tg) := by
  unfold cTg at h
  split at h
  · rename_i es k p
    rw [Option.map_eq_some_iff] at h
    obtain ⟨is, h1, rfl⟩ := h
    obtain ⟨gs, l, a⟩ := snd_slots F h1
    have hK := M.K
    have := pg_tup (k := k) (pos := p) (n := is.length) M.calm gs (by rw [a, List.length_map, l]) (by
      rw [a, List.findIdx?_eq_none_iff]
      intro x hx
      rw [List.mem_map] at hx
      obtain ⟨_, _, rfl⟩ := hx
      rfl)
    rw [hK] at this
    exact this
  · rw [Option.map_eq_some_iff] at h
    obtain ⟨i, h1, rfl⟩ := h
    exact (snd_slot F h1).1

/-! ### what is walked -/
theorem Shy.call {f : Expr → Option Ex} (Y : Shy f) {it : Expr} {c : Ex} (h : f it = some c) (env : PySem.Env) (x : Value) : foldedSetIterable it env x = pure x := by
  cases it <;> first | rfl | (rw [Y.set] at h; cases h)
theorem isTup_ok {e : Expr} (h : isTup e = true) : ∃ es k p, e = .Tuple es k p := by
  cases e <;> first | exact ⟨_, _, _, rfl⟩ | cases h
theorem snd_iter (M : Mo C gv cl X) (F : Fits Γ X) {f : Expr → Option Ex} (Y : Shy f) (ih : ∀ e c, f e = some c → PE X e (tE C W (ev cl c))) {tg it : Expr} {c : Ix} (h : cIter gv Γ f tg it = some c) :
    PI X tg it (tI C W (evI cl c)) ∧ ∀ x, foldedSetIterable it X.env x = pure x := by
  have val : ∀ {e : Expr} {c : Ix}, (f e).map Ix.val = some c → PI X tg e (tI C W (evI cl c)) ∧ ∀ x, foldedSetIterable e X.env x = pure x := fun {e c} h => by
    rw [Option.map_eq_some_iff] at h
    obtain ⟨a, h1, rfl⟩ := h
    exact ⟨si_val M.K (ih e a h1), Y.call h1 X.env⟩
  unfold cIter at h
  split at h
  · rename_i x p es pos
    refine ⟨?_, fun _ => rfl⟩
    split at h
    · rename_i hk
      simp only [Bool.and_eq_true, beq_iff_eq] at hk
      obtain ⟨hg, rfl⟩ := hk
      obtain ⟨k1, k2, k3⟩ := glob_ok hg
      have g := F.gl k1
      have m := M.bl (by decide) k2
      split at h
      · rename_i a
        rw [Option.map_eq_some_iff] at h
        obtain ⟨a', h1, rfl⟩ := h
        exact si_rng1 g m (ih a a' h1) (star_of Y.star h1 [] _)
      · rename_i a b
        split at h
        · rename_i a' b' h1 h2
          cases h
          exact si_rng2 g m (ih a a' h1) (ih b b' h2) (by rw [star_of Y.star h1, star_of Y.star h2] <;> rfl) (star_of Y.star h2 [] _)
        · cases h
      · rename_i a b d
        split at h
        · rename_i a' b' d' h1 h2 h3
          cases h
          exact si_rng3 g m (ih a a' h1) (ih b b' h2) (ih d d' h3) (star_of Y.star h1 _ _) (star_of Y.star h2 _ _) (star_of Y.star h3 _ _)
        · cases h
      · cases h
    · split at h
      · rename_i hk
        simp only [Bool.and_eq_true, beq_iff_eq] at hk
        obtain ⟨⟨hg, rfl⟩, ht⟩ := hk
        obtain ⟨k1, k2, k3⟩ := glob_ok hg
        obtain ⟨ts, kk, tp, rfl⟩ := isTup_ok ht
        split at h
        · rename_i a b
          split at h
          · rename_i a' b' h1 h2
            cases h
            exact si_zip M.K (F.gl k1) (M.bl (by decide) k2) (ih a a' h1) (ih b b' h2) (star_of Y.star h1 _ _) (star_of Y.star h2 _ _)
          · cases h
        · cases h
      · split at h
        · rename_i hk
          simp only [Bool.and_eq_true, beq_iff_eq] at hk
          obtain ⟨⟨hg, rfl⟩, ht⟩ := hk
          obtain ⟨k1, k2, k3⟩ := glob_ok hg
          obtain ⟨ts, kk, tp, rfl⟩ := isTup_ok ht
          split at h
          · rename_i a
            rw [Option.map_eq_some_iff] at h
            obtain ⟨a', h1, rfl⟩ := h
            exact si_enum M.K (F.gl k1) (M.bl (by decide) k2) (ih a a' h1) (star_of Y.star h1 [] _)
          · cases h
        · exact (val h).1
  · exact val h

/-! ### the theorem -/
theorem plainTest (e : Expr) (h1 : ∀ o es p, e ≠ .BoolOp o es p) (h2 : ∀ a p, e ≠ .UnaryOp .Not a p) (h3 : ∀ a b c p, e ≠ .IfExp a b c p) (h4 : ∀ a os es p, e ≠ .Compare a os es p) (env : PySem.Env) (whole : Sem Value) :
    isTrue e env whole = (do let v ← whole; standAt e.pos; holding [v] (truthy v)) := by
  cases e with
  | BoolOp o es p => exact absurd rfl (h1 _ _ _)
  | UnaryOp o a p => cases o <;> first | rfl | exact absurd rfl (h2 _ _)
  | IfExp a b c p => exact absurd rfl (h3 _ _ _ _)
  | Compare a os es p => exact absurd rfl (h4 _ _ _ _)
  | _ => rfl
theorem s_cmpO {ra rb : Env → Store → R D} {a b : Expr} {pos : Pos} (M : Mo C gv cl X) (o : CmpOp) (ha : PE X a (tE C W ra)) (hb : PE X b (tE C W rb)) (hm : ∀ o, behindInMarks o b = false) :
    PE X (.Compare a [o] [b] pos) (tE C W fun env S => (ra env S).bind fun x S1 => (rb env S1).bind fun y S2 => (R.of S2 (cmpD (coOf o) x y S2)).bind fun k S3 => .ok (.bl k) S3) ∧
    PT X (.Compare a [o] [b] pos) (tB C W fun env S => (ra env S).bind fun x S1 => (rb env S1).bind fun y S2 => (R.of S2 (cmpD (coOf o) x y S2)).bind fun k S3 => .ok (.bl k) S3) := by
  have k := s_cmp (pos := pos) M.K M.w M.units (coOf o) ha hb (hm _)
  have k2 := st_cmp (pos := pos) M.K M.w M.units (coOf o) ha hb (hm _)
  rw [coOf_ok] at k k2
  exact ⟨k, k2⟩
theorem s_chainO {ra rb rc : Env → Store → R D} {a b c : Expr} {pos : Pos} (M : Mo C gv cl X) (o p : CmpOp) (ha : PE X a (tE C W ra)) (hb : PE X b (tE C W rb)) (hc : PE X c (tE C W rc)) (hm : ∀ o, behindInMarks o c = false) :
    PE X (.Compare a [o, p] [b, c] pos) (tE C W fun env S => (ra env S).bind fun x S1 => (rb env S1).bind fun y S2 => match cmpD (coOf o) x y S2 with
      | some true => (rc env S2).bind fun z S3 => (R.of S3 (cmpD (coOf p) y z S3)).bind fun k S4 => .ok (.bl k) S4
      | some false => .ok (.bl false) S2
      | none => .err) ∧
    PT X (.Compare a [o, p] [b, c] pos) (tB C W fun env S => (ra env S).bind fun x S1 => (rb env S1).bind fun y S2 => match cmpD (coOf o) x y S2 with
      | some true => (rc env S2).bind fun z S3 => (R.of S3 (cmpD (coOf p) y z S3)).bind fun k S4 => .ok (.bl k) S4
      | some false => .ok (.bl false) S2
      | none => .err) := by
  have k := s_chain (pos := pos) M.K M.w M.units (coOf o) (coOf p) ha hb hc (hm _)
  have k2 := st_chain (pos := pos) M.K M.w M.units (coOf o) (coOf p) ha hb hc (hm _)
  rw [coOf_ok, coOf_ok] at k k2
  exact ⟨k, k2⟩
theorem snd (n : Nat) : ∀ {X : Cx} {Γ : Gam} {W : WX}, Mo C gv cl X → Fits Γ X → Takes X W → ∀ e c, cE gv n Γ e = some c → PE X e (tE C W (ev cl c)) ∧ PT X e (tB C W (ev cl c)) := by
  induction n with
  | zero => intro X Γ W M F tk e c h; cases h
  | succ n ihn =>
    intro X Γ W M F tk e c h
    have Y := cE_shy (gv := gv) n Γ
    have ihE : ∀ e c, cE gv n Γ e = some c → PE X e (tE C W (ev cl c)) := fun e c h => (ihn M F tk e c h).1
    have ihT : ∀ e c, cE gv n Γ e = some c → PT X e (tB C W (ev cl c)) := fun e c h => (ihn M F tk e c h).2
    have tru : ∀ {e : Expr} {c : Ex}, PE X e (tE C W (ev cl c)) → (∀ o es p, e ≠ .BoolOp o es p) → (∀ a p, e ≠ .UnaryOp .Not a p) → (∀ a b c p, e ≠ .IfExp a b c p) → (∀ a os es p, e ≠ .Compare a os es p) → PE X e (tE C W (ev cl c)) ∧ PT X e (tB C W (ev cl c)) :=
      fun {e c} h h1 h2 h3 h4 => ⟨h, st_tru M.K h (plainTest e h1 h2 h3 h4 _)⟩
    unfold cE at h
    split at h
    · rw [Option.map_eq_some_iff] at h
      obtain ⟨d, h1, rfl⟩ := h
      exact tru (snd_const h1) (by intros; nofun) (by intros; nofun) (by intros; nofun) (by intros; nofun)
    · exact tru (snd_name M F h) (by intros; nofun) (by intros; nofun) (by intros; nofun) (by intros; nofun)
    · split at h
      · rename_i o' a' b' h1 h2 h3
        cases h
        have e := boOf_ok h1
        subst e
        exact tru (s_bin M.K o' (ihE _ _ h2) (ihE _ _ h3)) (by intros; nofun) (by intros; nofun) (by intros; nofun) (by intros; nofun)
      · cases h
    · rw [Option.map_eq_some_iff] at h
      obtain ⟨a', h1, rfl⟩ := h
      exact ⟨s_not M.K (ihE _ _ h1), st_not (ihT _ _ h1)⟩
    · rw [Option.map_eq_some_iff] at h
      obtain ⟨a', h1, rfl⟩ := h
      exact tru (s_neg (ihE _ _ h1)) (by intros; nofun) (by intros; nofun) (by intros; nofun) (by intros; nofun)
    · exact ⟨snd_and ihE M.K h, (snd_andT ihT h).pt⟩
    · exact ⟨snd_or ihE M.K h, (snd_orT ihT h).pt⟩
    · split at h
      · rename_i h1 h2
        cases h
        exact s_cmpO M _ (ihE _ _ h1) (ihE _ _ h2) (Y.marks h2)
      · cases h
    · split at h
      · rename_i h1 h2 h3
        cases h
        exact s_chainO M _ _ (ihE _ _ h1) (ihE _ _ h2) (ihE _ _ h3) (Y.marks h3)
      · cases h
    · split at h
      · rename_i c' a' b' h1 h2 h3
        cases h
        exact ⟨s_ite (ihT _ _ h1) (ihE _ _ h2) (ihE _ _ h3), st_ite (ihT _ _ h1) (ihT _ _ h2) (ihT _ _ h3)⟩
      · cases h
    · split at h
      · rename_i a' l hh h1 h2 h3
        cases h
        exact tru (s_slc M.K (ihE _ _ h1) (snd_ox ihE h2) (snd_ox ihE h3)) (by intros; nofun) (by intros; nofun) (by intros; nofun) (by intros; nofun)
      · cases h
    · split at h
      · rename_i a' b' h1 h2
        cases h
        exact tru (s_idx M.K M.w (ihE _ _ h1) (ihE _ _ h2) (Y.plain h2)) (by intros; nofun) (by intros; nofun) (by intros; nofun) (by intros; nofun)
      · cases h
    · rw [Option.map_eq_some_iff] at h
      obtain ⟨cs, h1, rfl⟩ := h
      exact tru (s_tup (snd_args Y.star ihE h1)) (by intros; nofun) (by intros; nofun) (by intros; nofun) (by intros; nofun)
    · rw [Option.map_eq_some_iff] at h
      obtain ⟨cs, h1, rfl⟩ := h
      exact tru (s_lst (snd_args Y.star ihE h1)) (by intros; nofun) (by intros; nofun) (by intros; nofun) (by intros; nofun)
    · exact tru (snd_call M F tk Y ihE h) (by intros; nofun) (by intros; nofun) (by intros; nofun) (by intros; nofun)
    · exact tru (snd_meth M Y ihE h) (by intros; nofun) (by intros; nofun) (by intros; nofun) (by intros; nofun)
    · rename_i elt tg it ifs scope pos
      split at h
      · rename_i tg' it' elt' h1 h2 h3
        split at h
        · rename_i hb
          simp only [Bool.and_eq_true, List.all_eq_true, List.contains_iff_mem] at hb
          obtain ⟨pi, hf⟩ := snd_iter (tg := tg) M F Y ihE h2
          have ok : BlkOk X.N X.env.scope scope (ownOf Γ.N scope) := by rw [F.N, F.sc]; exact blkOk_by hb.1
          have hg : ∀ (s : Shared) (H : Hp) (Cc : Addr) (cs : List (Str × Addr)) (fp : List Addr), PG (X.blk s H scope (compEnvC scope cs Cc X.env) fp) tg (gTg C.K tg') := fun s H Cc cs fp => snd_tg (M.blk s H scope _ fp) (F.blk s H scope Cc cs fp) h1
          have he : ∀ (s : Shared) (H : Hp) (Cc : Addr) (cs : List (Str × Addr)) (fp : List Addr), PE (X.blk s H scope (compEnvC scope cs Cc X.env) fp) elt (tE C W0 (ev cl elt')) := fun s H Cc cs fp => (ihn (M.blk s H scope _ fp) (F.blk s H scope Cc cs fp) takes0 elt elt' h3).1
          split at h
          · cases h
            have := pe_lc (pos := pos) M.calm F.nd pi ok hg (fun _ _ _ _ _ => sc_nil (C := C)) he hf
            exact tru (PE.weak this fun σ H Q q => comp_step hb.2 q) (by intros; nofun) (by intros; nofun) (by intros; nofun) (by intros; nofun)
          · rename_i cnd
            split at h
            · rename_i c' h4
              cases h
              have := pe_lc (pos := pos) M.calm F.nd pi ok hg (fun s H Cc cs fp => sc_one (ihn (M.blk s H scope _ fp) (F.blk s H scope Cc cs fp) takes0 cnd c' h4).2) he hf
              exact tru (PE.weak this fun σ H Q q => comp_step hb.2 q) (by intros; nofun) (by intros; nofun) (by intros; nofun) (by intros; nofun)
            · cases h
          · cases h
        · cases h
      · cases h
    · cases h
end
end Dp

set_option Elab.async false
set_option maxRecDepth 100000
set_option linter.all false
set_option maxHeartbeats 4000000
/-! The core is right: statements, defs. -/
namespace Dp
open PySem PySem.Spec PyProof.Rows L2 TL

/-! ### the compiler -/
def isLC : Expr → Bool
  | .ListComp _ _ _ _ => true
  | _ => false
/-- where a comprehension's list is stored within its own frame -/
def swOk (Γ : Gam) (tg e : Expr) : Bool :=
  match e with
  | .ListComp _ _ scope cpos => match tg with
    | .Name y p => kindIs Γ y .local && (p.line == cpos.line) && !(scope.names.any fun (n, k) => n == y && (k == .local || k == .cell))
    | _ => false
  | _ => true
/-- .. and where not -/
def plainStore (Γ : Gam) (tg e : Expr) : Bool :=
  match e with
  | .ListComp _ _ _ _ => match tg with
    | .Name y _ => kindIs Γ y .cell
    | _ => false
  | .Tuple _ _ _ => match tg with
    | .Tuple _ _ _ => false
    | _ => true
  | _ => true
def cSms (f : Stmt → Option Sm) : List Stmt → Option Sms
  | [] => some .nil
  | s :: r => match f s, cSms f r with
    | some a, some b => some (.cons a b)
    | _, _ => none
def cSm (gv : Gs) : Nat → Gam → Stmt → Option Sm
  | 0, _, _ => none
  | n + 1, Γ, s => match s with
    | .Expr e _ => if isLC e then none else (cE gv n Γ e).map .expr
    | .Return (some e) _ => (cE gv n Γ e).map .ret
    | .Return none _ => some .retn
    | .If c a b _ => match cE gv n Γ c, cSms (cSm gv n Γ) a, cSms (cSm gv n Γ) b with
      | some c', some a', some b' => some (.ife c' a' b')
      | _, _, _ => none
    | .While c b [] _ => match cE gv n Γ c, cSms (cSm gv n Γ) b with
      | some c', some b' => some (.whl c' b')
      | _, _ => none
    | .For tg it b [] _ => match cTg Γ tg, cIter gv Γ (cE gv n Γ) tg it, cSms (cSm gv n Γ) b with
      | some tg', some it', some b' => some (.for_ tg' it' b')
      | _, _, _ => none
    | .Assign [.Subscript o i _] e _ => if isLC e then none else match cE gv n Γ o, cE gv n Γ i, cE gv n Γ e with
      | some o', some i', some e' => some (.seti o' i' e')
      | _, _, _ => none
    | .Assign [tg] e _ => match cTg Γ tg, cE gv n Γ e with
      | some tg', some e' => if plainStore Γ tg e || (isLC e && swOk Γ tg e) then some (.asg tg' e') else none
      | _, _ => none
    | .Break _ => some .brk
    | .Pass _ => some .pass
    | .Raise _ _ _ => some .never
    | _ => none

/-! ### readings -/
def ERQ (C : MC) (ι : List Addr) (H : Hp) (W : WX) (Dn : Ends) : ER → Prop
  | .nx env S => ∀ ι' H' σ', Grow ι H ι' H' → Rel C ι' S H' → EnvR C ι' H' env σ' → Dn.nx σ' H'
  | .bk env S => ∀ ι' H' σ', Grow ι H ι' H' → Rel C ι' S H' → EnvR C ι' H' env σ' → Dn.bk σ' H'
  | .ct env S => ∀ ι' H' σ', Grow ι H ι' H' → Rel C ι' S H' → EnvR C ι' H' env σ' → Dn.ct σ' H'
  | .rt d S => ∀ ι' H' v, Grow ι H ι' H' → Rel C ι' S H' → RV C ι' H' d v → Dn.rt v H'
  | .xc x env S => ∀ ι' H' σ' c dx, Grow ι H ι' H' → Rel C ι' S H' → EnvR C ι' H' env σ' → RX C ι' H' x c dx → W c dx σ' H'
  | .err => False
def tS (C : MC) (W : WX) (r : Env → Store → ER) : TS := fun Dn σ H => ∃ ι env S, Rel C ι S H ∧ EnvR C ι H env σ ∧ ERQ C ι H W Dn (r env S)
section
variable {C : MC} {W : WX} {ι ι' ι1 : List Addr} {H H' H1 : Hp} {S S' : Store} {env : Env} {σ : L2.St} {Dn : Ends}
theorem ERQ.grow (g : Grow ι H ι1 H1) {r : ER} (h : ERQ C ι H W Dn r) : ERQ C ι1 H1 W Dn r := by
  cases r with
  | nx env S => exact fun ι' H' σ' k => h ι' H' σ' (g.trans k)
  | bk env S => exact fun ι' H' σ' k => h ι' H' σ' (g.trans k)
  | ct env S => exact fun ι' H' σ' k => h ι' H' σ' (g.trans k)
  | rt d S => exact fun ι' H' σ' k => h ι' H' σ' (g.trans k)
  | xc x env S => exact fun ι' H' σ' c dx k => h ι' H' σ' c dx (g.trans k)
  | err => exact h
theorem ERQ.ex {r : R D} {f : D → Store → ER} (h : ERQ C ι H W Dn (r.ex env f)) : Wp r (fun d S' => ERQ C ι H W Dn (f d S')) (fun x S' => ERQ C ι H W Dn (.xc x env S')) := by
  cases r <;> exact h
theorem ERQ.qx (Re : Rel C ι S H) (N : EnvR C ι H env σ) {x : Exn} {S' : Store} (h : ERQ C ι H W Dn (.xc x env S')) : QX C ι H (fun c d H' => W c d σ H') x S' :=
  fun ι' H' c dx g R r => h ι' H' σ c dx g R (N.mono Re g) r
variable {X : Cx} {a b c e : Expr} {pos : Pos} {ra rb rc : Env → Store → R D} {s : Stmt} {ss : List Stmt} {rs rt : Env → Store → ER}
theorem PS.weak {t t' : TS} (h : PS X s t) (w : ∀ D σ H, t' D σ H → t D σ H) : PS X s t' := ⟨fun pins s σ H D I q => h.run pins s σ H D I (w D σ H q)⟩
theorem PSs.weak {t t' : TS} (h : PSs X ss t) (w : ∀ D σ H, t' D σ H → t D σ H) : PSs X ss t' := ⟨fun pins s σ H D I q => h.run pins s σ H D I (w D σ H q)⟩
/-- ahead of a statement's own work: its expression -/
theorem tS.ex {Q : VK} {f : D → Store → ER} (Re : Rel C ι S H) (N : EnvR C ι H env σ) (h : ERQ C ι H W Dn ((ra env S).ex env f))
    (hq : ∀ d S1 ι1 H1 v, Grow ι H ι1 H1 → Rel C ι1 S1 H1 → EnvR C ι1 H1 env σ → RV C ι1 H1 d v → ERQ C ι1 H1 W Dn (f d S1) → Q v H1) : tE C W ra σ H Q :=
  tE.of Re N h.ex (fun _ _ z => ERQ.qx Re N z) fun d S1 h1 ι1 H1 v g R1 r1 => hq d S1 ι1 H1 v g R1 (N.mono Re g) r1 (h1.grow g)
theorem z_expr (he : PE X e (tE C W ra)) (hs : swapsWith e none pos.line X.env = pure false) : PS X (.Expr e pos) (tS C W fun env S => (ra env S).ex env fun _ S1 => .nx env S1) := by
  refine PS.weak (ps_expr he hs) fun D σ H ⟨ι, env, S, Re, N, h⟩ => ?_
  exact tS.ex Re N h fun d S1 ι1 H1 v g R1 N1 r1 h1 => h1 ι1 H1 σ .refl R1 N1
theorem z_ret (he : PE X e (tE C W ra)) : PS X (.Return (some e) pos) (tS C W fun env S => (ra env S).ex env fun d S1 => .rt d S1) := by
  refine PS.weak (ps_ret he) fun D σ H ⟨ι, env, S, Re, N, h⟩ => ?_
  exact tS.ex Re N h fun d S1 ι1 H1 v g R1 N1 r1 h1 => h1 ι1 H1 v .refl R1 r1
theorem z_retN : PS X (.Return none pos) (tS C W fun _ S => .rt .non S) :=
  PS.weak ps_retN fun D σ H ⟨ι, env, S, Re, N, h⟩ => h ι H .non .refl Re .non
theorem z_pass : PS X (.Pass pos) (tS C W fun env S => .nx env S) := PS.weak ps_pass fun D σ H ⟨ι, env, S, Re, N, h⟩ => h ι H σ .refl Re N
theorem z_brk : PS X (.Break pos) (tS C W fun env S => .bk env S) := PS.weak ps_break fun D σ H ⟨ι, env, S, Re, N, h⟩ => h ι H σ .refl Re N
theorem z_never : PS X s (tS C W fun _ _ => .err) := PS.weak ps_never fun D σ H ⟨ι, env, S, Re, N, h⟩ => h.elim
theorem z_asg {tg : Expr} {t : Tg} (he : PE X e (tE C W ra)) (hg : PG X tg (gTg C.K t)) (hs : swapsWithSole [tg] e pos.line X.env = pure false) (hw : swappedStores [tg] e X.env = pure none) (h1 : (assignEach [tg] X.env).map (·.2) = [assign tg X.env]) :
    PS X (.Assign [tg] e pos) (tS C W fun env S => (ra env S).ex env fun d S1 => match asgT t d env with
      | some env' => .nx env' S1
      | none => .err) := by
  refine PS.weak (ps_asg he hg hs hw h1) fun D σ H ⟨ι, env, S, Re, N, h⟩ => ?_
  refine tS.ex Re N h fun d S1 ι1 H1 v g R1 N1 r1 h1 => ?_
  cases ea : asgT t d env with
  | none => rw [ea] at h1; exact h1.elim
  | some env' =>
    rw [ea] at h1
    exact gTg_ok N1 r1 ea fun vs N2 => h1 ι1 H1 _ .refl R1 N2
theorem z_seti {o i : Expr} {tp : Pos} (ho : PE X o (tE C W rb)) (hi : PE X i (tE C W rc)) (he : PE X e (tE C W ra)) (hsl : ∀ a b c d, i ≠ .Slice a b c d) (hs : swapsWithSole [.Subscript o i tp] e pos.line X.env = pure false) (hw : swappedStores [.Subscript o i tp] e X.env = pure none) :
    PS X (.Assign [.Subscript o i tp] e pos) (tS C W fun env S => (ra env S).ex env fun d S1 => (rb env S1).ex env fun x S2 => (rc env S2).ex env fun y S3 => match x, y with
      | .ref n, .int k => match getL S3 n with
        | some xs => match L2.ixN xs.length k with
          | some j => .nx env (S3.set n (.lst (xs.set j d)))
          | none => .err
        | none => .err
      | _, _ => .err) := by
  refine PS.weak (ps_asg he (pg_sub ho hi set_list (by intro _; cases i <;> first | rfl | exact absurd rfl (hsl _ _ _ _))) hs hw rfl) fun D σ H ⟨ι, env, S, Re, N, h⟩ => ?_
  refine tS.ex Re N h fun d S1 ι1 H1 v g1 R1 N1 r1 h1 => ?_
  refine tS.ex R1 N1 h1 fun x S2 ι2 H2 vx g2 R2 N2 r2 h2 => ?_
  refine tS.ex R2 N2 h2 fun y S3 ι3 H3 vy g3 R3 N3 r3 h3 => ?_
  have rd := (r1.mono R1 g2).mono R2 g3
  have rx := r2.mono R2 g3
  cases x with
  | ref n =>
    cases y with
    | int k =>
      simp only at h3
      cases ex : getL S3 n with
      | none => rw [ex] at h3; exact h3.elim
      | some xs =>
        rw [ex] at h3
        simp only at h3
        cases ej : L2.ixN xs.length k with
        | none => rw [ej] at h3; exact h3.elim
        | some j =>
          rw [ej] at h3
          cases rx with
          | ref hn =>
            cases r3
            obtain ⟨p, vs, q1, q2, q3⟩ := R3.list ex
            rw [hn] at q1; cases q1
            refine ⟨_, vs, k, j, rfl, rfl, q2, by rw [← q3.len]; exact ej, ?_⟩
            obtain ⟨R4, g4⟩ := R3.set ex hn (q3.set rd j)
            exact h3 ι3 _ σ g4 R4 (N3.mono R3 g4)
    | _ => exact (show False from h3).elim
  | _ => cases y <;> exact (show False from h3).elim
theorem z_if {p q : List Stmt} (hc : PT X c (tB C W rc)) (ha : PSs X p (tS C W rs)) (hb : PSs X q (tS C W rt)) : PS X (.If c p q pos) (tS C W fun env S => (rc env S).ex env fun d S1 => match truth S1 d with
    | some true => rs env S1
    | some false => rt env S1
    | none => .err) := by
  refine PS.weak (ps_if hc ha hb) fun D σ H ⟨ι, env, S, Re, N, h⟩ => ?_
  refine tB.of Re N h.ex (fun _ _ z => ERQ.qx Re N z) fun d S1 h1 => ?_
  cases et : truth S1 d with
  | none => rw [et] at h1; exact h1.elim
  | some k =>
    rw [et] at h1
    refine ⟨k, rfl, fun ι1 H1 g R1 => ?_⟩
    have N1 := N.mono Re g
    cases k with
    | true => rw [if_pos rfl]; exact ⟨ι1, env, S1, R1, N1, h1.grow g⟩
    | false => rw [if_neg Bool.false_ne_true]; exact ⟨ι1, env, S1, R1, N1, h1.grow g⟩
theorem z_while {p : List Stmt} {fuel : Nat} (hp : PassesOwn (model X.prog X.w) X.A X.env X.xe) (hc : PT X c (tB C W rc)) (hb : PSs X p (tS C W rs)) : PS X (.While c p [] pos) (tS C W fun env S => whileGo rc rs fuel env S) := by
  refine PS.weak (ps_while hp hc hb) fun D σ H ⟨ι, env, S, Re, N, h⟩ => ?_
  refine ⟨fun m σ' H' => ∃ ι' env' S', Rel C ι' S' H' ∧ EnvR C ι' H' env' σ' ∧ Grow ι H ι' H' ∧ ERQ C ι H W D (whileGo rc rs m env' S'), ⟨fuel, ι, env, S, Re, N, .refl, h⟩, ?_⟩
  rintro m σ' H' ⟨ι1, env1, S1, R1, N1, g1, h1⟩
  cases m with
  | zero => exact h1.elim
  | succ k =>
    unfold whileGo at h1
    have h2 := h1.ex
    refine tB.of R1 N1 h2 (fun _ _ z => ERQ.qx R1 N1 (z.grow g1)) fun d S2 h3 => ?_
    cases et : truth S2 d with
    | none => rw [et] at h3; exact h3.elim
    | some t =>
      rw [et] at h3
      refine ⟨t, rfl, fun ι2 H2 g2 R2 => ?_⟩
      have N2 := N1.mono R1 g2
      cases t with
      | false => rw [if_neg Bool.false_ne_true]; exact h3 ι2 H2 σ' (g1.trans g2) R2 N2
      | true =>
        rw [if_pos rfl]
        refine ⟨_, fun σ3 H3 z => ⟨k, Nat.lt_succ_self k, z⟩, ι2, env1, S2, R2, N2, ?_⟩
        simp only at h3
        cases eb : rs env1 S2 with
        | nx e3 S3 => rw [eb] at h3; exact fun ι3 H3 σ3 g3 R3 N3 => ⟨ι3, e3, S3, R3, N3, (g1.trans g2).trans g3, h3⟩
        | ct e3 S3 => rw [eb] at h3; exact fun ι3 H3 σ3 g3 R3 N3 => ⟨ι3, e3, S3, R3, N3, (g1.trans g2).trans g3, h3⟩
        | bk e3 S3 => rw [eb] at h3; exact fun ι3 H3 σ3 g3 R3 N3 => h3 ι3 H3 σ3 ((g1.trans g2).trans g3) R3 N3
        | rt d3 S3 => rw [eb] at h3; exact fun ι3 H3 v g3 R3 r3 => h3 ι3 H3 v ((g1.trans g2).trans g3) R3 r3
        | xc x e3 S3 => rw [eb] at h3; exact fun ι3 H3 σ3 c dx g3 R3 N3 r3 => h3 ι3 H3 σ3 c dx ((g1.trans g2).trans g3) R3 N3 r3
        | err => rw [eb] at h3; exact h3.elim
theorem z_for {tg it : Expr} {t : Tg} {p : List Stmt} {ri : Env → Store → R Itr} (hp : PassesOwn (model X.prog X.w) X.A X.env X.xe) (hc : X.calm = true) (hi : PI X tg it (tI C W ri)) (hg : PG X tg (gTg C.K t)) (hb : PSs X p (tS C W rs)) (hs : ∀ x, foldedSetIterable it X.env x = pure x) :
    PS X (.For tg it p [] pos) (tS C W fun env S => match ri env S with
      | .ok I S1 => forGo I.get (fun d e S2 => match asgT t d e with
          | some e' => rs e' S2
          | none => .err) I.max 0 env S1
      | .exc x S1 => .xc x env S1
      | .err => .err) := by
  refine PS.weak (ps_for hp hc hi hg hb hs) fun D σ H ⟨ι, env, S, Re, N, h⟩ => ?_
  refine ⟨ι, env, S, Re, N, ?_⟩
  dsimp only at h
  cases er : ri env S with
  | err => rw [er] at h; exact h.elim
  | exc x S1 => rw [er] at h; exact ERQ.qx Re N h
  | ok I S1 =>
    rw [er] at h
    intro ι1 H1 J g1 R1 jr
    refine ⟨fun i m σ' H' => ∃ ι' env' S', Rel C ι' S' H' ∧ EnvR C ι' H' env' σ' ∧ Grow ι1 H1 ι' H' ∧ ERQ C ι H W D (forGo I.get (fun d e S2 => match asgT t d e with
          | some e' => rs e' S2
          | none => .err) m i env' S'), ⟨I.max, ι1, env, S1, R1, N.mono Re g1, .refl, h⟩, ?_⟩
    rintro i m σ' H' ⟨ι2, env2, S2, R2, N2, g2, h2⟩
    have g12 := g1.trans g2
    have stop : I.get i S2 = some none → ERQ C ι H W D (.nx env2 S2) → J.stop i H' ∧ D.nx σ' H' := fun e1 h3 => ⟨(jr ι2 S2 H' R2 g2 i).1 e1, h3 ι2 H' σ' g12 R2 N2⟩
    cases m with
    | zero =>
      cases e : I.get i S2 with
      | none => simp only [forGo, e] at h2; exact h2.elim
      | some o =>
        cases o with
        | none => simp only [forGo, e] at h2; exact .inl (stop e h2)
        | some d => simp only [forGo, e] at h2; exact h2.elim
    | succ k =>
      cases e : I.get i S2 with
      | none => simp only [forGo, e] at h2; exact h2.elim
      | some o =>
        cases o with
        | none => simp only [forGo, e] at h2; exact .inl (stop e h2)
        | some d =>
          simp only [forGo, e] at h2
          obtain ⟨hgo, hy⟩ := (jr ι2 S2 H' R2 g2 i).2 d e
          refine .inr ⟨hgo, _, fun σ3 H3 z => ⟨k, Nat.lt_succ_self k, z⟩, fun x H3 y => ?_⟩
          obtain ⟨R3, g3, rx⟩ := hy x H3 y
          have N3 := N2.mono R2 g3
          cases ea : asgT t d env2 with
          | none => rw [ea] at h2; exact h2.elim
          | some env3 =>
            rw [ea] at h2
            refine gTg_ok N3 rx ea fun ws N4 => ⟨ι2, env3, S2, R3, N4, ?_⟩
            have g13 := g2.trans g3
            simp only at h2
            cases eb : rs env3 S2 with
            | nx e3 S3 => rw [eb] at h2; exact fun ι3 H4 σ3 g4 R4 N5 => ⟨ι3, e3, S3, R4, N5, g13.trans g4, h2⟩
            | ct e3 S3 => rw [eb] at h2; exact fun ι3 H4 σ3 g4 R4 N5 => ⟨ι3, e3, S3, R4, N5, g13.trans g4, h2⟩
            | bk e3 S3 => rw [eb] at h2; exact fun ι3 H4 σ3 g4 R4 N5 => h2 ι3 H4 σ3 ((g12.trans g3).trans g4) R4 N5
            | rt d3 S3 => rw [eb] at h2; exact fun ι3 H4 v g4 R4 r4 => h2 ι3 H4 v ((g12.trans g3).trans g4) R4 r4
            | xc x e3 S3 => rw [eb] at h2; exact fun ι3 H4 σ3 c dx g4 R4 N5 r5 => h2 ι3 H4 σ3 c dx ((g12.trans g3).trans g4) R4 N5 r5
            | err => rw [eb] at h2; exact h2.elim
theorem zs_nil : PSs X [] (tS C W fun env S => .nx env S) := PSs.weak pss_nil fun D σ H ⟨ι, env, S, Re, N, h⟩ => h ι H σ .refl Re N
theorem zs_cons (h1 : PS X s (tS C W rs)) (h2 : PSs X ss (tS C W rt)) : PSs X (s :: ss) (tS C W fun env S => match rs env S with
    | .nx e S1 => rt e S1
    | q => q) := by
  refine PSs.weak (pss_cons h1 h2) fun D σ H ⟨ι, env, S, Re, N, h⟩ => ⟨ι, env, S, Re, N, ?_⟩
  dsimp only at h
  cases eb : rs env S with
  | nx e3 S3 => rw [eb] at h; exact fun ι3 H3 σ3 g3 R3 N3 => ⟨ι3, e3, S3, R3, N3, ERQ.grow g3 h⟩
  | ct e3 S3 => rw [eb] at h; exact h
  | bk e3 S3 => rw [eb] at h; exact h
  | rt d3 S3 => rw [eb] at h; exact h
  | xc x e3 S3 => rw [eb] at h; exact h
  | err => rw [eb] at h; exact h.elim

/-! ### the theorem -/
variable {gv : Gs} {cl : Nat → List D → Store → R D} {Γ : Gam} {fuel : Nat}
structure SCx (X : Cx) (Γ : Gam) : Prop where
  kind : Γ.sc.kind = .function
  own : PassesOwn (model X.prog X.w) X.A X.env X.xe
theorem swaps_no {t : Option Expr} {l : Nat} {env : PySem.Env} (h : isLC e = false) (h2 : ∀ a b c d, e ≠ .SetComp a b c d) (h3 : ∀ a b c d f, e ≠ .DictComp a b c d f) : swapsWith e t l env = pure false := by
  cases e <;> first | rfl | (cases h; done) | exact absurd rfl (h2 _ _ _ _) | exact absurd rfl (h3 _ _ _ _ _)
theorem cE_comp (n : Nat) (Γ : Gam) {e : Expr} {c : Ex} (h : cE gv n Γ e = some c) : (∀ a b c d, e ≠ .SetComp a b c d) ∧ ∀ a b c d f, e ≠ .DictComp a b c d f := by
  cases n with
  | zero => cases h
  | succ n => exact ⟨fun a b c d z => (by subst z; cases h), fun a b c d f z => (by subst z; cases h)⟩
theorem cE_lc {n : Nat} {elt : Expr} {gs : List Comprehension} {scope : Scope} {c : Ex} (h : cE gv (n + 1) Γ (.ListComp elt gs scope pos) = some c) : ∃ tg it ifs tg' it' elt', gs = [⟨tg, it, ifs, 0⟩] ∧
    cTg (blkΓ Γ scope) tg = some tg' ∧ cIter gv Γ (cE gv n Γ) tg it = some it' ∧ cE gv n (blkΓ Γ scope) elt = some elt' ∧ blkC Γ.N Γ.sc scope (ownOf Γ.N scope) = true ∧ (∀ i ∈ tgSlots tg', i ∈ (ownOf Γ.N scope).map (·.2)) ∧
    ((ifs = [] ∧ c = .comp elt' tg' it' .none ((ownOf Γ.N scope).map (·.2))) ∨ ∃ cnd c', ifs = [cnd] ∧ cE gv n (blkΓ Γ scope) cnd = some c' ∧ c = .comp elt' tg' it' (.some c') ((ownOf Γ.N scope).map (·.2))) := by
  unfold cE at h
  split at h
  case h_17 elt2 tg it ifs scope2 pos2 heq =>
    cases heq
    split at h
    · rename_i tg' it' elt' h1 h2 h3
      split at h
      · rename_i hb
        simp only [Bool.and_eq_true, List.all_eq_true, List.contains_iff_mem] at hb
        split at h
        · cases h
          exact ⟨tg, it, _, tg', it', elt', rfl, h1, h2, h3, hb.1, hb.2, .inl ⟨rfl, rfl⟩⟩
        · rename_i cnd
          split at h
          · rename_i c' h4
            cases h
            exact ⟨tg, it, _, tg', it', elt', rfl, h1, h2, h3, hb.1, hb.2, .inr ⟨cnd, c', rfl, h4, rfl⟩⟩
          · cases h
        · cases h
      · cases h
    · cases h
  all_goals first | (cases h; done) | (rename_i heq; cases heq; done) | (rename_i heq _; cases heq; done) | skip
theorem sole_eq {t e : Expr} {l : Nat} {env : PySem.Env} : swapsWithSole [t] e l env = swapsWith e (some t) l env := rfl
theorem snd_stm (n : Nat) : ∀ {X : Cx} {Γ : Gam} {W : WX}, Mo C gv cl X → Fits Γ X → Takes X W → SCx X Γ → ∀ s c, cSm gv n Γ s = some c → PS X s (tS C W (exec cl fuel c)) := by
  induction n with
  | zero => intro X Γ W M F tk Z s c h; cases h
  | succ n ihn =>
    intro X Γ W M F tk Z s c h
    have Y := cE_shy (gv := gv) n Γ
    have ihE : ∀ e c, cE gv n Γ e = some c → PE X e (tE C W (ev cl c)) := fun e c h => (snd n M F tk e c h).1
    have ihT : ∀ e c, cE gv n Γ e = some c → PT X e (tB C W (ev cl c)) := fun e c h => (snd n M F tk e c h).2
    have ihs : ∀ {ss : List Stmt} {c : Sms}, cSms (cSm gv n Γ) ss = some c → PSs X ss (tS C W (execs cl fuel c)) := by
      intro ss
      induction ss with
      | nil => intro c h; cases h; exact zs_nil
      | cons s r ih =>
        intro c h
        unfold cSms at h
        split at h
        · rename_i a b h1 h2
          cases h
          exact zs_cons (ihn M F tk Z s a h1) (ih h2)
        · cases h
    unfold cSm at h
    split at h
    · split at h
      · cases h
      · rename_i hl
        rw [Option.map_eq_some_iff] at h
        obtain ⟨a, h1, rfl⟩ := h
        exact z_expr (ihE _ _ h1) (swaps_no (by simpa using hl) (cE_comp n Γ h1).1 (cE_comp n Γ h1).2)
    · rw [Option.map_eq_some_iff] at h
      obtain ⟨a, h1, rfl⟩ := h
      exact z_ret (ihE _ _ h1)
    · cases h; exact z_retN
    · split at h
      · rename_i h1 h2 h3
        cases h
        exact z_if (ihT _ _ h1) (ihs h2) (ihs h3)
      · cases h
    · split at h
      · rename_i h1 h2
        cases h
        exact z_while Z.own (ihT _ _ h1) (ihs h2)
      · cases h
    · split at h
      · rename_i h1 h2 h3
        cases h
        obtain ⟨pi, hf⟩ := snd_iter M F Y ihE h2
        exact z_for Z.own M.calm pi (snd_tg M F h1) (ihs h3) hf
      · cases h
    · split at h
      · cases h
      · rename_i hl
        split at h
        · rename_i h1 h2 h3
          cases h
          exact z_seti (ihE _ _ h1) (ihE _ _ h2) (ihE _ _ h3) (fun a b c d z => (by subst z; rw [Y.slice] at h2; cases h2)) (sole_eq.trans (swaps_no (by simpa using hl) (cE_comp n Γ h3).1 (cE_comp n Γ h3).2)) rfl
        · cases h
    · rename_i tg e pos hns
      split at h
      · rename_i tg' e' h1 h2
        split at h
        · rename_i hb
          cases h
          simp only [Bool.or_eq_true, Bool.and_eq_true] at hb
          have hg := snd_tg M F h1
          have he := ihE _ _ h2
          have hA : (assignEach [tg] X.env).map (·.2) = [assign tg X.env] := by
            unfold cTg at h1
            split at h1
            · rfl
            · rw [Option.map_eq_some_iff] at h1
              obtain ⟨i, q, _⟩ := h1
              obtain ⟨_, x, p, rfl⟩ := snd_slot F q
              rfl
          have gen : isLC e = false → (∀ es k p es' k' p', tg = .Tuple es k p → e ≠ .Tuple es' k' p') → PS X (.Assign [tg] e pos) (tS C W (exec cl fuel (.asg tg' e'))) := by
            intro hl ht
            refine z_asg he hg (sole_eq.trans (swaps_no hl (cE_comp n Γ h2).1 (cE_comp n Γ h2).2)) ?_ hA
            unfold cTg at h1
            split at h1
            · cases e <;> first | rfl | exact absurd rfl (ht _ _ _ _ _ _ rfl)
            · rw [Option.map_eq_some_iff] at h1
              obtain ⟨i, q, _⟩ := h1
              obtain ⟨_, x, p, rfl⟩ := snd_slot F q
              rfl
          rcases hb with hb | ⟨hb, hb2⟩
          · cases e with
            | ListComp elt gs scope cpos =>
              cases tg with
              | Name y p =>
                have hk := kindIs_ok hb
                refine z_asg he hg ?_ rfl hA
                refine sole_eq.trans ?_
                have : (X.env.kindOf y == some NameKind.local) = false := by
                  show (X.env.scope.names.lookup y == _) = _
                  rw [F.sc, hk]; rfl
                unfold swapsWith
                simp only [this, Bool.and_false, Bool.false_and]
              | _ => cases hb
            | Tuple es k p =>
              refine gen rfl fun es' k' p' _ _ _ z => ?_
              subst z
              cases hb
            | _ => exact gen rfl fun _ _ _ _ _ _ _ => nofun
          · cases e with
            | ListComp elt gs scope cpos =>
              cases tg with
              | Name y p =>
                simp only [swOk, Bool.and_eq_true, Bool.not_eq_true'] at hb2
                obtain ⟨⟨hk, hl⟩, ha⟩ := hb2
                have hk := kindIs_ok hk
                have hy : X.env.scope.names.lookup y = some .local := by rw [F.sc]; exact hk
                have hki : X.env.scope.kind = .function := by rw [F.sc]; exact Z.kind
                unfold cTg at h1
                rw [Option.map_eq_some_iff] at h1
                obtain ⟨i, q, rfl⟩ := h1
                have hi : X.N[i]? = some y := by
                  unfold cSlot at q
                  simp only at q
                  split at q
                  · rw [F.N]; exact slotOf_ok q
                  · cases q
                cases n with
                | zero => cases h2
                | succ n =>
                obtain ⟨tg, it, ifs, tg', it', elt', rfl, g1, g2, g3, g4, g5, g6⟩ := cE_lc h2
                obtain ⟨pi, hf⟩ := snd_iter (tg := tg) M F (cE_shy (gv := gv) n Γ) (fun e c h => (snd n M F tk e c h).1) g2
                have ok : BlkOk X.N X.env.scope scope (ownOf Γ.N scope) := by rw [F.N, F.sc]; exact blkOk_by g4
                have hgg : ∀ (s : Shared) (H : Hp) (Cc : Addr) (cs : List (Str × Addr)) (fp : List Addr), PG (X.blk s H scope (compEnvC scope cs Cc X.env) fp) tg (gTg C.K tg') := fun s H Cc cs fp => snd_tg (M.blk s H scope _ fp) (F.blk s H scope Cc cs fp) g1
                have hee : ∀ (s : Shared) (H : Hp) (Cc : Addr) (cs : List (Str × Addr)) (fp : List Addr), PE (X.blk s H scope (compEnvC scope cs Cc X.env) fp) elt (tE C W0 (ev cl elt')) := fun s H Cc cs fp => (snd n (M.blk s H scope _ fp) (F.blk s H scope Cc cs fp) takes0 elt elt' g3).1
                have fin : ∀ {re : Env → Store → R D} {tt : TE}, (∀ σ H Q, tE C W re σ H Q → tt σ H Q) → PS X (.Assign [.Name y p] (.ListComp elt [⟨tg, it, ifs, 0⟩] scope cpos) pos) (tAsg tt (gName i)) →
                    PS X (.Assign [.Name y p] (.ListComp elt [⟨tg, it, ifs, 0⟩] scope cpos) pos) (tS C W fun env S => (re env S).ex env fun d S1 => .nx (env.set i (some d)) S1) := fun {re tt} hw hp => by
                  refine PS.weak hp fun D σ H ⟨ι, env, S, Re, N, h⟩ => hw _ _ _ ?_
                  exact tS.ex Re N h fun d S1 ι1 H1 v g R1 N1 r1 h1 => h1 ι1 H1 _ .refl R1 (N1.set r1)
                have hsw := sw_true (elt := elt) (gs := [⟨tg, it, ifs, 0⟩]) (l := pos.line) hki hy hl ha
                rcases g6 with ⟨rfl, rfl⟩ | ⟨cnd, c', rfl, g7, rfl⟩
                · exact fin (fun σ H Q q => comp_step g5 q) (ps_setLc (pos := cpos) M.calm F.nd hi hy hsw pi ok hgg (fun _ _ _ _ _ => sc_nil (C := C)) hee hf)
                · exact fin (fun σ H Q q => comp_step g5 q) (ps_setLc (pos := cpos) M.calm F.nd hi hy hsw pi ok hgg (fun s H Cc cs fp => sc_one (snd n (M.blk s H scope _ fp) (F.blk s H scope Cc cs fp) takes0 cnd c' g7).2) hee hf)
              | _ => cases hb2
            | _ => cases hb
        · cases h
      · cases h
    · cases h; exact z_brk
    · cases h; exact z_pass
    · cases h; exact z_never
    · cases h
end
end Dp

set_option Elab.async false
set_option maxRecDepth 100000
set_option linter.all false
set_option maxHeartbeats 4000000
/-! Defs, a whole program, a law's end. -/
namespace Dp
open PySem PySem.Spec PyProof.Rows L2 TL

/-- how a def stands in the program and in the core -/
structure FnIn (K : PySem.W.Frag) (mg : Str → Option Value) (gv : Gs) (fns : List Fn) (x : Str) (i : Nat) (f : Addr) (fd : FuncData) (ps : List Str) : Prop where
  ex : ∃ (st : Stmt) (N : List Str) (qual : Str) (body : Sms), Fun K x qual st f fd ∧ FnScope N ps (defScope st) ∧ Binds K fd ps [] ∧ fns[i]? = some ⟨ps.length, N.length, body⟩ ∧ cSms (cSm gv 100 ⟨N, defScope st, fun _ => true⟩) (defBody st) = some body
  mg : mg x = some (.ref f)
structure Prg (C : MC) (mg : Str → Option Value) (gv : Gs) (fns : List Fn) (fdt : Nat → FuncData) (pst : Nat → List Str) : Prop where
  fn : ∀ x i, gv x = some (.fn i) → FnIn C.K mg gv fns x i (C.fa i) (fdt i) (pst i)
  cst : ∀ x d, gv x = some (.cst d) → ∃ u v, mg x = some u ∧ RelV v u ∧ ∀ ι H, RV C ι H d v
  blt : ∀ x : String, x ∈ blts → gv (Str.ofString x) = none → mg (Str.ofString x) = none
theorem lookup_mem {α : Type} {x : Str} {g : α} : ∀ {T : List (Str × α)}, T.lookup x = some g → (x, g) ∈ T
  | (y, h) :: T, e => by
    unfold List.lookup at e
    split at e
    · rename_i z; cases e
      have := of_decide_eq_true (show decide (x = y) = true by simpa using z)
      subst this; exact .head _
    · exact .tail _ (lookup_mem e)
/-- the defs by a table, one by one -/
theorem fns_of {T : List (Str × GV)} {Pf : Str → Nat → Prop} (h : ∀ p ∈ T, ∀ i, p.2 = .fn i → Pf p.1 i) (x : Str) (i : Nat) (e : T.lookup x = some (.fn i)) : Pf x i := h _ (lookup_mem e) i rfl
theorem csts_of {T : List (Str × GV)} {Pf : Str → D → Prop} (h : ∀ p ∈ T, ∀ i, p.2 = .cst i → Pf p.1 i) (x : Str) (i : D) (e : T.lookup x = some (.cst i)) : Pf x i := h _ (lookup_mem e) i rfl
section
variable {P : Program} {base : Heap} {mg : Str → Option Value} {C : MC} {gv : Gs} {fns : List Fn} {fdt : Nat → FuncData} {pst : Nat → List Str} {fuel : Nat}
theorem EnvR.start {ι : List Addr} {H : Hp} {N : List Str} {ds : List D} {vs : List V} (r : RVs C ι H ds vs) : EnvR C ι H (ds.map some ++ List.replicate (N.length - ds.length) none) (L2.start N vs) := by
  have hl := r.len
  refine ⟨by unfold L2.start; simp [hl], fun i d e => ?_⟩
  unfold L2.start
  by_cases hi : i < ds.length
  · rw [List.getElem?_append_left (by simpa using hi), List.getElem?_map] at e
    cases z : ds[i]? with
    | none => rw [z] at e; cases e
    | some d' =>
      rw [z] at e; cases e
      obtain ⟨v, h1, h2⟩ := r.get z
      exact ⟨v, by rw [List.getElem?_append_left (by rw [List.length_map, ← hl]; exact hi), List.getElem?_map, h1]; rfl, h2⟩
  · rw [List.getElem?_append_right (by simpa using hi), List.getElem?_replicate] at e
    split at e <;> cases e
theorem callN_some {n i : Nat} {ds : List D} {S : Store} {Q : D → Store → Prop} {X : Exn → Store → Prop} (h : Wp (callN fns fuel n i ds S) Q X) : ∃ m F, n = m + 1 ∧ fns[i]? = some F ∧ ds.length = F.ps ∧
    Wp (execs (callN fns fuel m) fuel F.body (ds.map some ++ List.replicate (F.sl - F.ps) none) S).ret Q X := by
  cases n with
  | zero => exact h.elim
  | succ m =>
    unfold callN at h
    cases e : fns[i]? with
    | none => rw [e] at h; exact h.elim
    | some F =>
      rw [e] at h
      dsimp only at h
      split at h
      · rename_i hl
        exact ⟨m, F, rfl, rfl, hl, h⟩
      · exact h.elim
theorem fn_all (w : World) (hw : w = C.w) (T : Prg C mg gv fns fdt pst) (n : Nat) : ∀ x i, gv x = some (.fn i) → FnOk P w C.K mg base (L2.CX P w) n (C.fa i) (fdt i) (pst i) (spF C (callN fns fuel n i)) := by
  subst hw
  induction n with
  | zero =>
    intro x i h
    obtain ⟨st, N, qual, body, F, S, B, hf, hc⟩ := (T.fn x i h).ex
    refine ⟨fun vs H Q E z => ?_, fun A outer s H args us vs Q E _ _ _ _ z => ?_⟩
    · obtain ⟨_, _, _, _, _, z⟩ := z; exact z.elim
    · obtain ⟨_, _, _, _, _, z⟩ := z; exact z.elim
  | succ n ih =>
    intro x i h
    obtain ⟨st, N, qual, body, F, S, B, hf, hc⟩ := (T.fn x i h).ex
    refine F.okX S (fun vs H Q E z => ?_) fun cdv A outer s H vs Q E hr z => ?_
    · obtain ⟨ι, S0, ds, _, rs, z⟩ := z
      obtain ⟨m, F', _, e, hl, _⟩ := callN_some z
      rw [hf] at e; cases e
      rw [← rs.len, hl]
    · obtain ⟨ι, S0, ds, Re, rs, z⟩ := z
      obtain ⟨m, F', e1, e, hl, z⟩ := callN_some z
      cases e1
      rw [hf] at e; cases e
      let X : Cx := cxOf (L2.CX P C.w) P C.w C.K mg base N qual (defScope st) (C.fa i) cdv A outer s H E
      have M : Mo C gv (callN fns fuel n) X := ⟨rfl, rfl, rfl, (show (A.deeper (envOfC qual (defScope st) s.heap.objs.size (C.fa i) cdv)).units + 100 < cLine by have := hr.un; omega), fun y j hj => by
        have G' := T.fn y j hj
        obtain ⟨_, _, _, _, F', _, B', _⟩ := G'.ex
        exact ⟨⟨fdt j, pst j, n, ih y j hj, hr, B'⟩, G'.mg, F'.kp⟩, T.cst, T.blt⟩
      have Fi : Fits ⟨N, defScope st, fun _ => true⟩ X := ⟨rfl, S.nd, rfl, rfl⟩
      have tk : Takes X (fun c d _ H => E c d H) := takes_of rfl rfl rfl rfl
      have Z : SCx X ⟨N, defScope st, fun _ => true⟩ := ⟨S.kind, passes_of rfl⟩
      have body_ok : ∀ {ss : List Stmt} {c : Sms}, cSms (cSm gv 100 ⟨N, defScope st, fun _ => true⟩) ss = some c → PSs X ss (tS C (fun c d _ H => E c d H) (execs (callN fns fuel n) fuel c)) := by
        intro ss
        induction ss with
        | nil => intro c h; cases h; exact zs_nil
        | cons s r ih =>
          intro c h
          unfold cSms at h
          split at h
          · rename_i a b h1 h2
            cases h
            exact zs_cons (snd_stm 100 M Fi tk Z s a h1) (ih h2)
          · cases h
      refine ⟨_, body_ok hc, ι, _, S0, Re, EnvR.start (N := N) rs, ?_⟩
      rw [hl] at *
      generalize execs (callN fns fuel n) fuel body (ds.map some ++ List.replicate (N.length - (pst i).length) none) S0 = r at z
      cases r with
      | nx env S1 => exact fun ι' H' σ' g R N => z ι' H' .non g R .non
      | rt d S1 => exact fun ι' H' v g R r => z ι' H' v g R r
      | xc x env S1 => exact fun ι' H' σ' c dx g R N r => z ι' H' c dx g R r
      | bk _ _ => exact z.elim
      | ct _ _ => exact z.elim
      | err => exact z.elim
end

/-- what law(script) promises -/
def spLaw (K : PySem.W.Frag) : Sp := fun vs H Q _ => ∃ (a : Addr) (ns : List Int), vs = [.ref a] ∧ SqL K H a (ns.map V.int) ∧ ns.length ≤ 63 ∧ Only H ∧ ∀ H', Q (.bl true) H'
theorem rvs_ints {C : MC} {ι : List Addr} {H : Hp} : ∀ ns : List Int, RVs C ι H (ns.map D.int) (ns.map V.int)
  | [] => .nil
  | n :: r => .cons (.int n) (rvs_ints r)
theorem law_ok {P : Program} {base : Heap} {mg : Str → Option Value} {C : MC} {gv : Gs} {fns : List Fn} {fdt : Nat → FuncData} {pst : Nat → List Str} {fuel k i : Nat} (T : Prg C mg gv fns fdt pst) {x : Str} (hi : gv x = some (.fn i))
    (h : ∀ ns : List Int, ns.length ≤ 63 → ∃ S, callN fns fuel k i [.rl (ns.map .int)] [] = .ok (.bl true) S) : FnOk P C.w C.K mg base (L2.CX P C.w) k (C.fa i) (fdt i) (pst i) (spLaw C.K) := by
  refine (fn_all (P := P) (base := base) (fuel := fuel) C.w rfl T k x i hi).imp fun vs H Q E z => ?_
  obtain ⟨a, ns, rfl, hs, hl, ho, q⟩ := z
  obtain ⟨S, e⟩ := h ns hl
  refine ⟨[], [], [.rl (ns.map .int)], ⟨rfl, .nil, fun n o e => by simp at e⟩, .one (.rl (vs := ns.map V.int) ?_ (rvs_ints ns)), ?_⟩
  · rcases hs with (hs | ⟨o, hs⟩) | hs
    · rcases ho a with z | ⟨o, xs, z⟩
      · rw [z] at hs; cases hs
      · rw [z] at hs; cases hs
    · exact .inl ⟨o, hs⟩
    · exact .inr (.inr hs)
  · rw [e]
    intro ι' H' v g R r
    cases r
    exact q H'
theorem walk_dp {l : PySem.W.OpenLaw} {q : Program} {loose : List Str} {XP : (Str → Option Value) → Heap → Prop} {YP : World → Heap → Prop} {d : DefRec} {K : Params → PySem.W.Frag} {k : Nat} {x : Str} (hn : l.most = some 63) (hdf : d.params.defaults = []) (hr : Room k callerA)
    (hY : ∀ (w : World) (h : Heap), YP w h → (K w.params).In h)
    (F : ∀ (w : World) (mg : Str → Option Value) (fa : Addr) (h : Heap), (K w.params).In h → h.Ns mainGlobals mg → mg d.name = some (.ref fa) →
      ∃ fd : FuncData, (∀ (s : Shared) (u : Value), BindsTo s fd ⟨[u], []⟩ [(x, u)]) ∧ ∀ base : Heap, (K w.params).In base → base.Ns mainGlobals mg → FnOk l.prog w (K w.params) mg base (L2.CX l.prog w) k fa fd [x] (spLaw (K w.params))) :
    PySem.W.WalkO q loose XP YP l.row.toRowW d [] (fun f vs => PySem.call f vs) :=
  L2.walk_of (n := 63) (k := k) (x := x) (CX := fun w => L2.CX l.prog w) (sp := fun w => spLaw (K w.params)) hn (by decide) hdf hr hY F (fun _ H a ns hl ho hS => ⟨a, ns, rfl, hS, hl, ho, fun _ => rfl⟩) fun w H s e s' z => by
    obtain ⟨_, _, _, _, _, _, _, _, _, _, _, _, z⟩ := z
    exact z
end Dp
namespace Dp
open PySem PySem.Spec PyProof.Rows L2 TL
theorem all_nil {α : Type} {P : α → Prop} : ∀ p ∈ ([] : List α), P p := by simp
theorem all_cons {α : Type} {P : α → Prop} {a : α} {l : List α} (h : P a) (t : ∀ p ∈ l, P p) : ∀ p ∈ a :: l, P p := by
  intro p hp
  rcases List.mem_cons.mp hp with rfl | hp
  · exact h
  · exact t p hp
theorem in_mk {K : PySem.W.Frag} {mg : Str → Option Value} {gv : Gs} {fns : List Fn} {x : Str} {i : Nat} {f : Addr} {fd : FuncData} {ps N : List Str} {st : Stmt} {body : Sms}
    (F : Fun K x x st f fd) (S : FnScope N ps (defScope st)) (B : Binds K fd ps []) (hf : fns[i]? = some ⟨ps.length, N.length, body⟩) (hc : cSms (cSm gv 100 ⟨N, defScope st, fun _ => true⟩) (defBody st) = some body) (hm : mg x = some (.ref f)) :
    FnIn K mg gv fns x i f fd ps := ⟨⟨st, N, x, body, F, S, B, hf, hc⟩, hm⟩
theorem str_rel {a b : Str} {t : Tok} (h : a = b) : RelV (.str b) (.str a t) := ⟨t, by rw [h]⟩
/-- a module's dict: texts to plain things -/
def KvIs (C : MC) : List DictEntry → List (List Nat × D) → Prop
  | [], [] => True
  | e :: es, p :: ps => RelV (.str ⟨p.1.toArray⟩) e.key ∧ (∃ v, RelV v e.val ∧ ∀ ι H, RV C ι H p.2 v) ∧ KvIs C es ps
  | _, _ => False
theorem kv_res {C : MC} {ι : List Addr} {H : Hp} : ∀ {es : List DictEntry} {ps : List (List Nat × D)}, KvIs C es ps → REs C ι H es (ps.map fun p => .str p.1) (ps.map (·.2))
  | [], [], _ => .nil
  | e :: es, p :: ps, h => by
    obtain ⟨h1, ⟨v, h2, h3⟩, h4⟩ := h
    exact .cons h1 h2 (h3 ι H) (kv_res h4)
  | [], _ :: _, h => h.elim
  | _ :: _, [], h => h.elim
end Dp

set_option Elab.async false
set_option maxRecDepth 100000
set_option linter.all false
set_option maxHeartbeats 0
namespace Wl
open PySem PySem.Spec PyProof.Rows L2 TL Dp
/-- the top, by places -/
def top (i : Nat) : Stmt := PySem.Challenge.pw_worldsay_k10_sentences_written_and_read.main.body.getD i (.Pass ⟨0, 0, 0, 0⟩)
abbrev i_is_name : Nat := 0
abbrev i_are_rising : Nat := 1
abbrev i_is_hands : Nat := 2
abbrev i_parts_of : Nat := 3
abbrev i_can_stand : Nat := 4
abbrev i_within_it : Nat := 5
abbrev i_rows_of : Nat := 6
abbrev i_things_of : Nat := 7
abbrev i_words_of : Nat := 8
abbrev i_shown_sentence : Nat := 9
abbrev i_next_word : Nat := 10
abbrev i_refuse_word : Nat := 11
abbrev i_read_name : Nat := 12
abbrev i_read_hands : Nat := 13
abbrev i_read_step : Nat := 14
abbrev i_begin_thing : Nat := 15
abbrev i_read_binding : Nat := 16
abbrev i_read_head : Nat := 17
abbrev i_read_thing : Nat := 18
abbrev i_read_sentence : Nat := 19
abbrev i__law_cell_at : Nat := 20
abbrev i__law_by : Nat := 21
abbrev i__law_next : Nat := 22
abbrev i__law_hands : Nat := 23
abbrev i__law_step : Nat := 24
abbrev i__law_leaf : Nat := 25
abbrev i__law_sentence : Nat := 26
abbrev i__law_kind : Nat := 27
abbrev i__law_same : Nat := 28
abbrev i__law_step_words : Nat := 29
abbrev i__law_text : Nat := 30
abbrev i_law : Nat := 31
def gvT : List (Str × GV) := [
  (Str.ofString "is_name", GV.fn i_is_name),
  (Str.ofString "are_rising", GV.fn i_are_rising),
  (Str.ofString "is_hands", GV.fn i_is_hands),
  (Str.ofString "parts_of", GV.fn i_parts_of),
  (Str.ofString "can_stand", GV.fn i_can_stand),
  (Str.ofString "within_it", GV.fn i_within_it),
  (Str.ofString "rows_of", GV.fn i_rows_of),
  (Str.ofString "things_of", GV.fn i_things_of),
  (Str.ofString "words_of", GV.fn i_words_of),
  (Str.ofString "shown_sentence", GV.fn i_shown_sentence),
  (Str.ofString "next_word", GV.fn i_next_word),
  (Str.ofString "refuse_word", GV.fn i_refuse_word),
  (Str.ofString "read_name", GV.fn i_read_name),
  (Str.ofString "read_hands", GV.fn i_read_hands),
  (Str.ofString "read_step", GV.fn i_read_step),
  (Str.ofString "begin_thing", GV.fn i_begin_thing),
  (Str.ofString "read_binding", GV.fn i_read_binding),
  (Str.ofString "read_head", GV.fn i_read_head),
  (Str.ofString "read_thing", GV.fn i_read_thing),
  (Str.ofString "read_sentence", GV.fn i_read_sentence),
  (Str.ofString "_law_cell_at", GV.fn i__law_cell_at),
  (Str.ofString "_law_by", GV.fn i__law_by),
  (Str.ofString "_law_next", GV.fn i__law_next),
  (Str.ofString "_law_hands", GV.fn i__law_hands),
  (Str.ofString "_law_step", GV.fn i__law_step),
  (Str.ofString "_law_leaf", GV.fn i__law_leaf),
  (Str.ofString "_law_sentence", GV.fn i__law_sentence),
  (Str.ofString "_law_kind", GV.fn i__law_kind),
  (Str.ofString "_law_same", GV.fn i__law_same),
  (Str.ofString "_law_step_words", GV.fn i__law_step_words),
  (Str.ofString "_law_text", GV.fn i__law_text),
  (Str.ofString "law", GV.fn i_law),
  (Str.ofString "LETTERS", GV.cst (.str [97, 98, 99, 100, 101, 102, 103, 104, 105, 106, 107, 108, 109, 110, 111, 112, 113, 114, 115, 116, 117, 118, 119, 120, 121, 122])),
  (Str.ofString "MOST_LETTERS", GV.cst (.int 8)),
  (Str.ofString "MOST_HANDS", GV.cst (.int 4)),
  (Str.ofString "MOST_THINGS", GV.cst (.int 60)),
  (Str.ofString "MOST_BINDERS", GV.cst (.int 4)),
  (Str.ofString "MOST_SHOWS", GV.cst (.int 3)),
  (Str.ofString "SIZES", GV.cst (.rd [(.str [102, 97, 99, 116]), (.str [119, 105, 115, 104]), (.str [110, 111, 116]), (.str [97, 110, 100]), (.str [111, 114]), (.str [115, 111, 109, 101]), (.str [101, 118, 101, 114, 121]), (.str [108, 101, 97, 115, 116]), (.str [109, 111, 115, 116]), (.str [115, 104, 111, 119])] [(.int 2), (.int 2), (.int 2), (.int 3), (.int 3), (.int 3), (.int 3), (.int 3), (.int 3), (.int 4)])),
  (Str.ofString "OUTSIDE", GV.cst (.tup [(.tup []), (.tup []), (.int 0)])),
  (Str.ofString "COMMA", GV.cst (.str [44]))]
def gv (x : Str) : Option GV := gvT.lookup x
abbrev st0 : Stmt := top 6
abbrev N0 : List Str := [Str.ofString "thing", Str.ofString "sign"]
abbrev P0 : List Str := [Str.ofString "thing"]
abbrev st1 : Stmt := top 8
abbrev N1 : List Str := [Str.ofString "things", Str.ofString "k"]
abbrev P1 : List Str := [Str.ofString "things"]
abbrev st2 : Stmt := top 16
abbrev N2 : List Str := [Str.ofString "thing", Str.ofString "one"]
abbrev P2 : List Str := [Str.ofString "thing"]
abbrev st3 : Stmt := top 17
abbrev N3 : List Str := [Str.ofString "sentence"]
abbrev P3 : List Str := [Str.ofString "sentence"]
abbrev st4 : Stmt := top 18
abbrev N4 : List Str := [Str.ofString "sentence", Str.ofString "where", Str.ofString "free", Str.ofString "binders", Str.ofString "shows"]
abbrev P4 : List Str := [Str.ofString "sentence", Str.ofString "where"]
abbrev st5 : Stmt := top 19
abbrev N5 : List Str := [Str.ofString "sentence", Str.ofString "where", Str.ofString "free", Str.ofString "binders", Str.ofString "shows", Str.ofString "name", Str.ofString "odd"]
abbrev P5 : List Str := [Str.ofString "sentence", Str.ofString "where"]
abbrev st6 : Stmt := top 21
abbrev N6 : List Str := [Str.ofString "sentence", Str.ofString "found", Str.ofString "waiting", Str.ofString "one", Str.ofString "above", Str.ofString "which", Str.ofString "number", Str.ofString "parts", Str.ofString "k"]
abbrev P6 : List Str := [Str.ofString "sentence"]
abbrev st7 : Stmt := top 22
abbrev N7 : List Str := [Str.ofString "sentence", Str.ofString "one", Str.ofString "above", Str.ofString "which"]
abbrev P7 : List Str := [Str.ofString "sentence"]
abbrev st8 : Stmt := top 25
abbrev N8 : List Str := [Str.ofString "thing", Str.ofString "word", Str.ofString "step", Str.ofString "names"]
abbrev P8 : List Str := [Str.ofString "thing"]
abbrev st9 : Stmt := top 26
abbrev N9 : List Str := [Str.ofString "sentence", Str.ofString "words", Str.ofString "thing"]
abbrev P9 : List Str := [Str.ofString "sentence"]
abbrev st10 : Stmt := top 27
abbrev N10 : List Str := [Str.ofString "tape", Str.ofString "words"]
abbrev P10 : List Str := [Str.ofString "tape"]
abbrev st11 : Stmt := top 28
abbrev N11 : List Str := [Str.ofString "tape"]
abbrev P11 : List Str := [Str.ofString "tape"]
abbrev st12 : Stmt := top 29
abbrev N12 : List Str := [Str.ofString "tape", Str.ofString "word"]
abbrev P12 : List Str := [Str.ofString "tape"]
abbrev st13 : Stmt := top 30
abbrev N13 : List Str := [Str.ofString "tape", Str.ofString "hands"]
abbrev P13 : List Str := [Str.ofString "tape"]
abbrev st14 : Stmt := top 31
abbrev N14 : List Str := [Str.ofString "tape", Str.ofString "word"]
abbrev P14 : List Str := [Str.ofString "tape"]
abbrev st15 : Stmt := top 32
abbrev N15 : List Str := [Str.ofString "tape", Str.ofString "known", Str.ofString "most", Str.ofString "word"]
abbrev P15 : List Str := [Str.ofString "tape", Str.ofString "known", Str.ofString "most"]
abbrev st16 : Stmt := top 33
abbrev N16 : List Str := [Str.ofString "tape", Str.ofString "word", Str.ofString "where", Str.ofString "name"]
abbrev P16 : List Str := [Str.ofString "tape", Str.ofString "word", Str.ofString "where"]
abbrev st17 : Stmt := top 34
abbrev N17 : List Str := [Str.ofString "tape", Str.ofString "where", Str.ofString "word", Str.ofString "too_deep"]
abbrev P17 : List Str := [Str.ofString "tape", Str.ofString "where"]
abbrev st18 : Stmt := top 35
abbrev N18 : List Str := [Str.ofString "tape", Str.ofString "where", Str.ofString "head", Str.ofString "inner", Str.ofString "k"]
abbrev P18 : List Str := [Str.ofString "tape", Str.ofString "where"]
abbrev st19 : Stmt := top 36
abbrev N19 : List Str := [Str.ofString "text", Str.ofString "tape", Str.ofString "sentence"]
abbrev P19 : List Str := [Str.ofString "text"]
abbrev st20 : Stmt := top 38
abbrev N20 : List Str := [Str.ofString "_law_script", Str.ofString "_law_k"]
abbrev P20 : List Str := [Str.ofString "_law_script", Str.ofString "_law_k"]
abbrev st21 : Stmt := top 39
abbrev N21 : List Str := [Str.ofString "_law_script", Str.ofString "_law_k", Str.ofString "_law_many", Str.ofString "_law_cell", Str.ofString "_law_part", Str.ofString "_law_seed"]
abbrev P21 : List Str := [Str.ofString "_law_script", Str.ofString "_law_k", Str.ofString "_law_many"]
abbrev st22 : Stmt := top 40
abbrev N22 : List Str := [Str.ofString "_law_tape", Str.ofString "_law_many"]
abbrev P22 : List Str := [Str.ofString "_law_tape", Str.ofString "_law_many"]
abbrev st23 : Stmt := top 41
abbrev N23 : List Str := [Str.ofString "_law_tape", Str.ofString "_law_some"]
abbrev P23 : List Str := [Str.ofString "_law_tape"]
abbrev st24 : Stmt := top 42
abbrev N24 : List Str := [Str.ofString "_law_tape", Str.ofString "_law_way"]
abbrev P24 : List Str := [Str.ofString "_law_tape"]
abbrev st25 : Stmt := top 43
abbrev N25 : List Str := [Str.ofString "_law_tape", Str.ofString "_law_free", Str.ofString "_law_some", Str.ofString "_law_name", Str.ofString "_law_odd"]
abbrev P25 : List Str := [Str.ofString "_law_tape", Str.ofString "_law_free"]
abbrev st26 : Stmt := top 44
abbrev N26 : List Str := [Str.ofString "_law_tape", Str.ofString "_law_size", Str.ofString "_law_free", Str.ofString "_law_binders", Str.ofString "_law_shows", Str.ofString "_law_way", Str.ofString "_law_flipped", Str.ofString "_law_name", Str.ofString "_law_odd", Str.ofString "_law_word", Str.ofString "_law_body", Str.ofString "_law_first", Str.ofString "_law_told", Str.ofString "_law_one"]
abbrev P26 : List Str := [Str.ofString "_law_tape", Str.ofString "_law_size", Str.ofString "_law_free", Str.ofString "_law_binders", Str.ofString "_law_shows"]
abbrev st27 : Stmt := top 45
abbrev N27 : List Str := [Str.ofString "_law_thing"]
abbrev P27 : List Str := [Str.ofString "_law_thing"]
abbrev st28 : Stmt := top 46
abbrev N28 : List Str := [Str.ofString "_law_found", Str.ofString "_law_due", Str.ofString "_law_one", Str.ofString "_law_other"]
abbrev P28 : List Str := [Str.ofString "_law_found", Str.ofString "_law_due"]
abbrev st29 : Stmt := top 47
abbrev N29 : List Str := [Str.ofString "_law_step_here"]
abbrev P29 : List Str := [Str.ofString "_law_step_here"]
abbrev st30 : Stmt := top 48
abbrev N30 : List Str := [Str.ofString "_law_one", Str.ofString "_law_word"]
abbrev P30 : List Str := [Str.ofString "_law_one"]
abbrev st31 : Stmt := top 49
abbrev N31 : List Str := [Str.ofString "_law_script", Str.ofString "_law_tape", Str.ofString "_law_some", Str.ofString "_law_k", Str.ofString "_law_sentence_here", Str.ofString "_law_inner", Str.ofString "_law_text_here"]
abbrev P31 : List Str := [Str.ofString "_law_script"]
def B_is_name : Sms := (.cons (.ife (.or (.not (.bi (.isa .str) (.cons (.var 0) .nil))) (.not (.chain .le .le (.lit (.int 1)) (.bi .len (.cons (.var 0) .nil)) (.lit (.int 8))))) (.cons (.ret (.lit (.bl false))) .nil) .nil) (.cons (.ret (.bi .all (.cons (.comp (.cmp .in_ (.var 1) (.lit (.str [97, 98, 99, 100, 101, 102, 103, 104, 105, 106, 107, 108, 109, 110, 111, 112, 113, 114, 115, 116, 117, 118, 119, 120, 121, 122]))) (.one 1) (.val (.var 0)) .none [1]) .nil))) .nil))
theorem cB0 : cSms (cSm gv 100 ⟨N0, defScope st0, fun _ => true⟩) (defBody st0) = some B_is_name := rfl
def B_are_rising : Sms := (.cons (.ret (.bi .all (.cons (.comp (.cmp .lt (.idx (.var 0) (.var 1)) (.idx (.var 0) (.bin .add (.var 1) (.lit (.int 1))))) (.one 1) (.rng1 (.bin .sub (.bi .len (.cons (.var 0) .nil)) (.lit (.int 1)))) .none [1]) .nil))) .nil)
theorem cB1 : cSms (cSm gv 100 ⟨N1, defScope st1, fun _ => true⟩) (defBody st1) = some B_are_rising := rfl
def B_is_hands : Sms := (.cons (.ife (.or (.not (.bi (.isa .tuple) (.cons (.var 0) .nil))) (.not (.chain .le .le (.lit (.int 1)) (.bi .len (.cons (.var 0) .nil)) (.lit (.int 4))))) (.cons (.ret (.lit (.bl false))) .nil) .nil) (.cons (.ret (.and (.bi .all (.cons (.comp (.call i_is_name (.cons (.var 1) .nil)) (.one 1) (.val (.var 0)) .none [1]) .nil)) (.call i_are_rising (.cons (.var 0) .nil)))) .nil))
theorem cB2 : cSms (cSm gv 100 ⟨N2, defScope st2, fun _ => true⟩) (defBody st2) = some B_is_hands := rfl
def B_parts_of : Sms := (.cons (.ife (.or (.cmp .eq (.idx (.var 0) (.lit (.int 0))) (.lit (.str [102, 97, 99, 116]))) (.cmp .eq (.idx (.var 0) (.lit (.int 0))) (.lit (.str [119, 105, 115, 104])))) (.cons (.ret (.tup .nil)) .nil) .nil) (.cons (.ife (.cmp .in_ (.idx (.var 0) (.lit (.int 0))) (.tup (.cons (.lit (.str [110, 111, 116])) (.cons (.lit (.str [97, 110, 100])) (.cons (.lit (.str [111, 114])) .nil))))) (.cons (.ret (.slc (.var 0) (.some (.lit (.int 1))) .none)) .nil) .nil) (.cons (.ret (.slc (.var 0) (.some (.lit (.int 2))) .none)) .nil)))
theorem cB3 : cSms (cSm gv 100 ⟨N3, defScope st3, fun _ => true⟩) (defBody st3) = some B_parts_of := rfl
def B_can_stand : Sms := (.cons (.asg (.many [2, 3, 4]) (.var 1)) (.cons (.ife (.cmp .eq (.idx (.var 0) (.lit (.int 0))) (.lit (.str [119, 105, 115, 104]))) (.cons (.ret (.cmp .in_ (.tup (.cons (.idx (.var 0) (.lit (.int 1))) (.cons (.lit (.bl false)) .nil))) (.var 2))) .nil) .nil) (.cons (.ife (.or (.cmp .eq (.idx (.var 0) (.lit (.int 0))) (.lit (.str [108, 101, 97, 115, 116]))) (.cmp .eq (.idx (.var 0) (.lit (.int 0))) (.lit (.str [109, 111, 115, 116])))) (.cons (.ret (.and (.cmp .nin (.idx (.var 0) (.lit (.int 1))) (.var 3)) (.cmp .lt (.bi .len (.cons (.var 3) .nil)) (.lit (.int 4))))) .nil) .nil) (.cons (.ret (.or (.cmp .ne (.idx (.var 0) (.lit (.int 0))) (.lit (.str [115, 104, 111, 119]))) (.cmp .lt (.var 4) (.lit (.int 3))))) .nil))))
theorem cB4 : cSms (cSm gv 100 ⟨N4, defScope st4, fun _ => true⟩) (defBody st4) = some B_can_stand := rfl
def B_within_it : Sms := (.cons (.asg (.many [2, 3, 4]) (.var 1)) (.cons (.ife (.cmp .eq (.idx (.var 0) (.lit (.int 0))) (.lit (.str [110, 111, 116]))) (.cons (.ret (.tup (.cons (.bi .tuple (.cons (.comp (.tup (.cons (.var 5) (.cons (.not (.var 6)) .nil))) (.many [5, 6]) (.val (.var 2)) .none [5, 6]) .nil)) (.cons (.var 3) (.cons (.var 4) .nil))))) .nil) .nil) (.cons (.ife (.or (.cmp .eq (.idx (.var 0) (.lit (.int 0))) (.lit (.str [108, 101, 97, 115, 116]))) (.cmp .eq (.idx (.var 0) (.lit (.int 0))) (.lit (.str [109, 111, 115, 116])))) (.cons (.ret (.tup (.cons (.bin .add (.var 2) (.tup (.cons (.tup (.cons (.idx (.var 0) (.lit (.int 1))) (.cons (.lit (.bl false)) .nil))) .nil))) (.cons (.bin .add (.var 3) (.tup (.cons (.idx (.var 0) (.lit (.int 1))) .nil))) (.cons (.var 4) .nil))))) .nil) .nil) (.cons (.ife (.cmp .eq (.idx (.var 0) (.lit (.int 0))) (.lit (.str [115, 104, 111, 119]))) (.cons (.ret (.tup (.cons (.tup .nil) (.cons (.var 3) (.cons (.bin .add (.var 4) (.lit (.int 1))) .nil))))) .nil) .nil) (.cons (.ret (.var 1)) .nil)))))
theorem cB5 : cSms (cSm gv 100 ⟨N5, defScope st5, fun _ => true⟩) (defBody st5) = some B_within_it := rfl
def T1_rows_of : Ex := (.cmp .gt (.bi .len (.cons (.var 2) .nil)) (.lit (.int 0)))
def L2_rows_of : Sms := (.cons (.expr (.mt .append (.var 2) (.cons (.tup (.cons (.idx (.var 7) (.var 8)) (.cons (.var 6) (.cons (.var 8) .nil)))) .nil))) .nil)
def L1_rows_of : Sms := (.cons (.asg (.many [3, 4, 5]) (.mt .pop (.var 2) .nil)) (.cons (.asg (.one 6) (.bi .len (.cons (.var 1) .nil))) (.cons (.expr (.mt .append (.var 1) (.cons (.tup (.cons (.var 3) (.cons (.var 4) (.cons (.var 5) .nil)))) .nil))) (.cons (.asg (.one 7) (.call i_parts_of (.cons (.var 3) .nil))) (.cons (.for_ (.one 8) (.rng3 (.bin .sub (.bi .len (.cons (.var 7) .nil)) (.lit (.int 1))) (.neg (.lit (.int 1))) (.neg (.lit (.int 1)))) L2_rows_of) .nil)))))
def B_rows_of : Sms := (.cons (.asg (.one 1) (.lst .nil)) (.cons (.asg (.one 2) (.lst (.cons (.tup (.cons (.var 0) (.cons (.lit .non) (.cons (.lit (.int 0)) .nil)))) .nil))) (.cons (.whl T1_rows_of L1_rows_of) (.cons (.ret (.var 1)) .nil))))
theorem cB6 : cSms (cSm gv 100 ⟨N6, defScope st6, fun _ => true⟩) (defBody st6) = some B_rows_of := rfl
def B_things_of : Sms := (.cons (.ret (.comp (.var 1) (.many [1, 2, 3]) (.val (.call i_rows_of (.cons (.var 0) .nil))) .none [1, 2, 3])) .nil)
theorem cB7 : cSms (cSm gv 100 ⟨N7, defScope st7, fun _ => true⟩) (defBody st7) = some B_things_of := rfl
def B_words_of : Sms := (.cons (.asg (.one 1) (.idx (.var 0) (.lit (.int 0)))) (.cons (.ife (.cmp .in_ (.var 1) (.tup (.cons (.lit (.str [102, 97, 99, 116])) (.cons (.lit (.str [119, 105, 115, 104])) (.cons (.lit (.str [108, 101, 97, 115, 116])) (.cons (.lit (.str [109, 111, 115, 116])) .nil)))))) (.cons (.ret (.lst (.cons (.var 1) (.cons (.idx (.var 0) (.lit (.int 1))) .nil)))) .nil) .nil) (.cons (.ife (.or (.cmp .eq (.var 1) (.lit (.str [115, 111, 109, 101]))) (.cmp .eq (.var 1) (.lit (.str [101, 118, 101, 114, 121])))) (.cons (.asg (.one 2) (.idx (.var 0) (.lit (.int 1)))) (.cons (.ret (.bin .add (.lst (.cons (.var 1) (.cons (.idx (.var 2) (.lit (.int 0))) .nil))) (.comp (.mt .join (.lit (.str [44])) (.cons (.var 3) .nil)) (.one 3) (.val (.slc (.var 2) (.some (.lit (.int 1))) .none)) .none [3]))) .nil)) .nil) (.cons (.ife (.cmp .eq (.var 1) (.lit (.str [115, 104, 111, 119]))) (.cons (.ret (.lst (.cons (.var 1) (.cons (.mt .join (.lit (.str [44])) (.cons (.idx (.var 0) (.lit (.int 1))) .nil)) .nil)))) .nil) .nil) (.cons (.ret (.lst (.cons (.var 1) .nil))) .nil)))))
theorem cB8 : cSms (cSm gv 100 ⟨N8, defScope st8, fun _ => true⟩) (defBody st8) = some B_words_of := rfl
def L1_shown_sentence : Sms := (.cons (.expr (.mt .extend (.var 1) (.cons (.call i_words_of (.cons (.var 2) .nil)) .nil))) .nil)
def B_shown_sentence : Sms := (.cons (.asg (.one 1) (.lst .nil)) (.cons (.for_ (.one 2) (.val (.call i_things_of (.cons (.var 0) .nil))) L1_shown_sentence) (.cons (.ret (.mt .join (.lit (.str [32])) (.cons (.var 1) .nil))) .nil)))
theorem cB9 : cSms (cSm gv 100 ⟨N9, defScope st9, fun _ => true⟩) (defBody st9) = some B_shown_sentence := rfl
def B_next_word : Sms := (.cons (.asg (.one 1) (.idx (.var 0) (.lit (.int 0)))) (.cons (.ife (.cmp .ge (.idx (.var 0) (.lit (.int 1))) (.bi .len (.cons (.var 1) .nil))) (.cons .never .nil) .nil) (.cons (.ret (.idx (.var 1) (.idx (.var 0) (.lit (.int 1))))) .nil)))
theorem cB10 : cSms (cSm gv 100 ⟨N10, defScope st10, fun _ => true⟩) (defBody st10) = some B_next_word := rfl
def B_refuse_word : Sms := (.cons .never .nil)
theorem cB11 : cSms (cSm gv 100 ⟨N11, defScope st11, fun _ => true⟩) (defBody st11) = some B_refuse_word := rfl
def B_read_name : Sms := (.cons (.asg (.one 1) (.call i_next_word (.cons (.var 0) .nil))) (.cons (.ife (.not (.call i_is_name (.cons (.var 1) .nil))) (.cons (.expr (.call i_refuse_word (.cons (.var 0) .nil))) .nil) .nil) (.cons (.seti (.var 0) (.lit (.int 1)) (.bin .add (.idx (.var 0) (.lit (.int 1))) (.lit (.int 1)))) (.cons (.ret (.var 1)) .nil))))
theorem cB12 : cSms (cSm gv 100 ⟨N12, defScope st12, fun _ => true⟩) (defBody st12) = some B_read_name := rfl
def B_read_hands : Sms := (.cons (.asg (.one 1) (.bi .tuple (.cons (.mt .split (.call i_next_word (.cons (.var 0) .nil)) (.cons (.lit (.str [44])) .nil)) .nil))) (.cons (.ife (.not (.call i_is_hands (.cons (.var 1) .nil))) (.cons (.expr (.call i_refuse_word (.cons (.var 0) .nil))) .nil) .nil) (.cons (.seti (.var 0) (.lit (.int 1)) (.bin .add (.idx (.var 0) (.lit (.int 1))) (.lit (.int 1)))) (.cons (.ret (.var 1)) .nil))))
theorem cB13 : cSms (cSm gv 100 ⟨N13, defScope st13, fun _ => true⟩) (defBody st13) = some B_read_hands := rfl
def B_read_step : Sms := (.cons (.asg (.one 1) (.call i_next_word (.cons (.var 0) .nil))) (.cons (.ife (.cmp .nin (.var 1) (.tup (.cons (.lit (.str [111, 110])) (.cons (.lit (.str [98, 97, 99, 107])) (.cons (.lit (.str [111, 110, 101])) (.cons (.lit (.str [112, 111, 111, 108])) .nil)))))) (.cons (.expr (.call i_refuse_word (.cons (.var 0) .nil))) .nil) .nil) (.cons (.seti (.var 0) (.lit (.int 1)) (.bin .add (.idx (.var 0) (.lit (.int 1))) (.lit (.int 1)))) (.cons (.ife (.or (.cmp .eq (.var 1) (.lit (.str [111, 110]))) (.cmp .eq (.var 1) (.lit (.str [98, 97, 99, 107])))) (.cons (.ret (.tup (.cons (.var 1) .nil))) .nil) .nil) (.cons (.ret (.tup (.cons (.var 1) (.cons (.call i_read_hands (.cons (.var 0) .nil)) .nil)))) .nil)))))
theorem cB14 : cSms (cSm gv 100 ⟨N14, defScope st14, fun _ => true⟩) (defBody st14) = some B_read_step := rfl
def B_begin_thing : Sms := (.cons (.asg (.one 3) (.call i_next_word (.cons (.var 0) .nil))) (.cons (.ife (.or (.cmp .nin (.var 3) (.var 1)) (.cmp .eq (.idx (.var 0) (.lit (.int 2))) (.var 2))) (.cons (.expr (.call i_refuse_word (.cons (.var 0) .nil))) .nil) .nil) (.cons (.seti (.var 0) (.lit (.int 1)) (.bin .add (.idx (.var 0) (.lit (.int 1))) (.lit (.int 1)))) (.cons (.seti (.var 0) (.lit (.int 2)) (.bin .add (.idx (.var 0) (.lit (.int 2))) (.lit (.int 1)))) (.cons (.ret (.var 3)) .nil)))))
theorem cB15 : cSms (cSm gv 100 ⟨N15, defScope st15, fun _ => true⟩) (defBody st15) = some B_begin_thing := rfl
def B_read_binding : Sms := (.cons (.asg (.one 3) (.call i_next_word (.cons (.var 0) .nil))) (.cons (.ife (.or (.not (.call i_is_name (.cons (.var 3) .nil))) (.not (.call i_can_stand (.cons (.tup (.cons (.var 1) (.cons (.var 3) .nil))) (.cons (.var 2) .nil))))) (.cons (.expr (.call i_refuse_word (.cons (.var 0) .nil))) .nil) .nil) (.cons (.seti (.var 0) (.lit (.int 1)) (.bin .add (.idx (.var 0) (.lit (.int 1))) (.lit (.int 1)))) (.cons (.ret (.tup (.cons (.var 1) (.cons (.var 3) .nil)))) .nil))))
theorem cB16 : cSms (cSm gv 100 ⟨N16, defScope st16, fun _ => true⟩) (defBody st16) = some B_read_binding := rfl
def B_read_head : Sms := (.cons (.asg (.one 2) (.call i_begin_thing (.cons (.var 0) (.cons (.bi .list (.cons (.lit (.rd [(.str [102, 97, 99, 116]), (.str [119, 105, 115, 104]), (.str [110, 111, 116]), (.str [97, 110, 100]), (.str [111, 114]), (.str [115, 111, 109, 101]), (.str [101, 118, 101, 114, 121]), (.str [108, 101, 97, 115, 116]), (.str [109, 111, 115, 116]), (.str [115, 104, 111, 119])] [(.int 2), (.int 2), (.int 2), (.int 3), (.int 3), (.int 3), (.int 3), (.int 3), (.int 3), (.int 4)])) .nil)) (.cons (.lit (.int 60)) .nil))))) (.cons (.asg (.one 3) (.and (.cmp .in_ (.var 2) (.tup (.cons (.lit (.str [108, 101, 97, 115, 116])) (.cons (.lit (.str [109, 111, 115, 116])) .nil)))) (.cmp .eq (.bi .len (.cons (.idx (.var 1) (.lit (.int 1))) .nil)) (.lit (.int 4))))) (.cons (.ife (.or (.var 3) (.and (.cmp .eq (.var 2) (.lit (.str [115, 104, 111, 119]))) (.not (.call i_can_stand (.cons (.tup (.cons (.var 2) .nil)) (.cons (.var 1) .nil)))))) (.cons .never .nil) .nil) (.cons (.ife (.cmp .eq (.var 2) (.lit (.str [102, 97, 99, 116]))) (.cons (.ret (.tup (.cons (.var 2) (.cons (.call i_read_name (.cons (.var 0) .nil)) .nil)))) .nil) .nil) (.cons (.ife (.cmp .in_ (.var 2) (.tup (.cons (.lit (.str [119, 105, 115, 104])) (.cons (.lit (.str [108, 101, 97, 115, 116])) (.cons (.lit (.str [109, 111, 115, 116])) .nil))))) (.cons (.ret (.call i_read_binding (.cons (.var 0) (.cons (.var 2) (.cons (.var 1) .nil))))) .nil) .nil) (.cons (.ife (.or (.cmp .eq (.var 2) (.lit (.str [115, 111, 109, 101]))) (.cmp .eq (.var 2) (.lit (.str [101, 118, 101, 114, 121])))) (.cons (.ret (.tup (.cons (.var 2) (.cons (.call i_read_step (.cons (.var 0) .nil)) .nil)))) .nil) .nil) (.cons (.ife (.cmp .eq (.var 2) (.lit (.str [115, 104, 111, 119]))) (.cons (.ret (.tup (.cons (.var 2) (.cons (.call i_read_hands (.cons (.var 0) .nil)) .nil)))) .nil) .nil) (.cons (.ret (.tup (.cons (.var 2) .nil))) .nil))))))))
theorem cB17 : cSms (cSm gv 100 ⟨N17, defScope st17, fun _ => true⟩) (defBody st17) = some B_read_head := rfl
def L1_read_thing : Sms := (.cons (.asg (.one 2) (.bin .add (.var 2) (.tup (.cons (.call i_read_thing (.cons (.var 0) (.cons (.var 3) .nil))) .nil)))) .nil)
def B_read_thing : Sms := (.cons (.asg (.one 2) (.call i_read_head (.cons (.var 0) (.cons (.var 1) .nil)))) (.cons (.asg (.one 3) (.call i_within_it (.cons (.var 2) (.cons (.var 1) .nil)))) (.cons (.for_ (.one 4) (.rng1 (.bin .sub (.idx (.lit (.rd [(.str [102, 97, 99, 116]), (.str [119, 105, 115, 104]), (.str [110, 111, 116]), (.str [97, 110, 100]), (.str [111, 114]), (.str [115, 111, 109, 101]), (.str [101, 118, 101, 114, 121]), (.str [108, 101, 97, 115, 116]), (.str [109, 111, 115, 116]), (.str [115, 104, 111, 119])] [(.int 2), (.int 2), (.int 2), (.int 3), (.int 3), (.int 3), (.int 3), (.int 3), (.int 3), (.int 4)])) (.idx (.var 2) (.lit (.int 0)))) (.bi .len (.cons (.var 2) .nil)))) L1_read_thing) (.cons (.ret (.var 2)) .nil))))
theorem cB18 : cSms (cSm gv 100 ⟨N18, defScope st18, fun _ => true⟩) (defBody st18) = some B_read_thing := rfl
def B_read_sentence : Sms := (.cons (.asg (.one 1) (.lst (.cons (.mt .split (.var 0) (.cons (.lit (.str [32])) .nil)) (.cons (.lit (.int 0)) (.cons (.lit (.int 0)) .nil))))) (.cons (.asg (.one 2) (.call i_read_thing (.cons (.var 1) (.cons (.lit (.tup [(.tup []), (.tup []), (.int 0)])) .nil)))) (.cons (.ife (.cmp .lt (.idx (.var 1) (.lit (.int 1))) (.bi .len (.cons (.idx (.var 1) (.lit (.int 0))) .nil))) (.cons (.expr (.call i_refuse_word (.cons (.var 1) .nil))) .nil) .nil) (.cons (.ret (.var 2)) .nil))))
theorem cB19 : cSms (cSm gv 100 ⟨N19, defScope st19, fun _ => true⟩) (defBody st19) = some B_read_sentence := rfl
def B__law_cell_at : Sms := (.cons (.ife (.cmp .gt (.bi .len (.cons (.var 0) .nil)) (.lit (.int 0))) (.cons (.ret (.idx (.var 0) (.bin .mod (.var 1) (.bi .len (.cons (.var 0) .nil))))) .nil) .nil) (.cons (.ret (.lit (.int 0))) .nil))
theorem cB20 : cSms (cSm gv 100 ⟨N20, defScope st20, fun _ => true⟩) (defBody st20) = some B__law_cell_at := rfl
def B__law_by : Sms := (.cons (.asg (.one 3) (.call i__law_cell_at (.cons (.var 0) (.cons (.var 1) .nil)))) (.cons (.asg (.one 4) (.lit (.int 0))) (.cons (.ife (.cmp .ge (.var 3) (.bin .pow (.lit (.int 10)) (.lit (.int 18)))) (.cons (.asg (.one 4) (.bin .shr (.var 3) (.bin .mul (.lit (.int 20)) (.bin .fdiv (.var 1) (.bi .len (.cons (.var 0) .nil)))))) .nil) .nil) (.cons (.ife (.cmp .gt (.var 4) (.lit (.int 0))) (.cons (.ret (.bin .mod (.var 4) (.var 2))) .nil) .nil) (.cons (.asg (.one 5) (.bin .add (.bin .add (.bin .mod (.var 3) (.lit (.int 1000003))) (.bin .mul (.bin .mul (.lit (.int 31)) (.var 1)) (.var 1))) (.lit (.int 1)))) (.cons (.ret (.bin .mod (.bin .mod (.bin .mul (.bin .mod (.bin .mul (.var 5) (.lit (.int 48271))) (.lit (.int 999983))) (.lit (.int 7919))) (.lit (.int 524287))) (.var 2))) .nil))))))
theorem cB21 : cSms (cSm gv 100 ⟨N21, defScope st21, fun _ => true⟩) (defBody st21) = some B__law_by := rfl
def B__law_next : Sms := (.cons (.seti (.var 0) (.lit (.int 1)) (.bin .add (.idx (.var 0) (.lit (.int 1))) (.lit (.int 1)))) (.cons (.ret (.call i__law_by (.cons (.idx (.var 0) (.lit (.int 0))) (.cons (.idx (.var 0) (.lit (.int 1))) (.cons (.var 1) .nil))))) .nil))
theorem cB22 : cSms (cSm gv 100 ⟨N22, defScope st22, fun _ => true⟩) (defBody st22) = some B__law_next := rfl
def B__law_hands : Sms := (.cons (.asg (.one 1) (.lst (.cons (.tup (.cons (.lit (.str [97])) .nil)) (.cons (.tup (.cons (.lit (.str [97, 98])) .nil)) (.cons (.tup (.cons (.lit (.str [98])) .nil)) (.cons (.tup (.cons (.lit (.str [97])) (.cons (.lit (.str [98])) .nil))) (.cons (.tup (.cons (.lit (.str [97])) (.cons (.lit (.str [97, 98])) .nil))) (.cons (.tup (.cons (.lit (.str [97])) (.cons (.lit (.str [97, 98])) (.cons (.lit (.str [98])) .nil)))) (.cons (.tup (.cons (.lit (.str [97, 98])) (.cons (.lit (.str [98])) .nil))) (.cons (.tup (.cons (.lit (.str [97])) (.cons (.lit (.str [122, 122])) .nil))) .nil)))))))))) (.cons (.ret (.idx (.var 1) (.call i__law_next (.cons (.var 0) (.cons (.lit (.int 8)) .nil))))) .nil))
theorem cB23 : cSms (cSm gv 100 ⟨N23, defScope st23, fun _ => true⟩) (defBody st23) = some B__law_hands := rfl
def B__law_step : Sms := (.cons (.asg (.one 1) (.call i__law_next (.cons (.var 0) (.cons (.lit (.int 6)) .nil)))) (.cons (.ife (.cmp .lt (.var 1) (.lit (.int 2))) (.cons (.ret (.tup (.cons (.lit (.str [111, 110])) .nil))) .nil) .nil) (.cons (.ife (.cmp .eq (.var 1) (.lit (.int 2))) (.cons (.ret (.tup (.cons (.lit (.str [98, 97, 99, 107])) .nil))) .nil) .nil) (.cons (.ret (.tup (.cons (.idx (.lst (.cons (.lit (.str [111, 110, 101])) (.cons (.lit (.str [111, 110, 101])) (.cons (.lit (.str [112, 111, 111, 108])) .nil)))) (.bin .sub (.var 1) (.lit (.int 3)))) (.cons (.call i__law_hands (.cons (.var 0) .nil)) .nil)))) .nil))))
theorem cB24 : cSms (cSm gv 100 ⟨N24, defScope st24, fun _ => true⟩) (defBody st24) = some B__law_step := rfl
def B__law_leaf : Sms := (.cons (.asg (.one 2) (.comp (.var 3) (.many [3, 4]) (.val (.var 1)) (.some (.not (.var 4))) [3, 4])) (.cons (.ife (.and (.cmp .ne (.var 2) (.lst .nil)) (.cmp .gt (.call i__law_next (.cons (.var 0) (.cons (.lit (.int 3)) .nil))) (.lit (.int 0)))) (.cons (.ret (.tup (.cons (.lit (.str [119, 105, 115, 104])) (.cons (.idx (.var 2) (.call i__law_next (.cons (.var 0) (.cons (.bi .len (.cons (.var 2) .nil)) .nil)))) .nil)))) .nil) .nil) (.cons (.ret (.tup (.cons (.lit (.str [102, 97, 99, 116])) (.cons (.idx (.lst (.cons (.lit (.str [112])) (.cons (.lit (.str [112, 113])) (.cons (.lit (.str [113])) (.cons (.lit (.str [122, 122])) .nil))))) (.call i__law_next (.cons (.var 0) (.cons (.lit (.int 4)) .nil)))) .nil)))) .nil)))
theorem cB25 : cSms (cSm gv 100 ⟨N25, defScope st25, fun _ => true⟩) (defBody st25) = some B__law_leaf := rfl
def B__law_sentence : Sms := (.cons (.asg (.one 5) (.call i__law_next (.cons (.var 0) (.cons (.lit (.int 12)) .nil)))) (.cons (.ife (.or (.cmp .lt (.var 1) (.lit (.int 2))) (.cmp .eq (.var 5) (.lit (.int 0)))) (.cons (.ret (.call i__law_leaf (.cons (.var 0) (.cons (.var 2) .nil)))) .nil) .nil) (.cons (.ife (.cmp .eq (.var 5) (.lit (.int 1))) (.cons (.asg (.one 6) (.comp (.tup (.cons (.var 7) (.cons (.not (.var 8)) .nil))) (.many [7, 8]) (.val (.var 2)) .none [7, 8])) (.cons (.ret (.tup (.cons (.lit (.str [110, 111, 116])) (.cons (.call i__law_sentence (.cons (.var 0) (.cons (.bin .sub (.var 1) (.lit (.int 1))) (.cons (.var 6) (.cons (.var 3) (.cons (.var 4) .nil)))))) .nil)))) .nil)) .nil) (.cons (.ife (.or (.cmp .lt (.var 5) (.lit (.int 5))) (.cmp .lt (.var 1) (.lit (.int 3)))) (.cons (.asg (.one 9) (.idx (.lst (.cons (.lit (.str [115, 111, 109, 101])) (.cons (.lit (.str [101, 118, 101, 114, 121])) .nil))) (.call i__law_next (.cons (.var 0) (.cons (.lit (.int 2)) .nil))))) (.cons (.ret (.tup (.cons (.var 9) (.cons (.call i__law_step (.cons (.var 0) .nil)) (.cons (.call i__law_sentence (.cons (.var 0) (.cons (.bin .sub (.var 1) (.lit (.int 1))) (.cons (.var 2) (.cons (.var 3) (.cons (.var 4) .nil)))))) .nil))))) .nil)) .nil) (.cons (.ife (.and (.cmp .lt (.var 5) (.lit (.int 8))) (.cmp .lt (.var 3) (.lit (.int 3)))) (.cons (.asg (.one 7) (.idx (.idx (.lst (.cons (.lst (.cons (.lit (.str [120])) (.cons (.lit (.str [120, 121])) (.cons (.lit (.str [121])) .nil)))) (.cons (.lst (.cons (.lit (.str [112])) (.cons (.lit (.str [112, 113])) (.cons (.lit (.str [113])) .nil)))) .nil))) (.call i__law_next (.cons (.var 0) (.cons (.lit (.int 2)) .nil)))) (.var 3))) (.cons (.asg (.one 10) (.call i__law_sentence (.cons (.var 0) (.cons (.bin .sub (.var 1) (.lit (.int 1))) (.cons (.bin .add (.var 2) (.lst (.cons (.tup (.cons (.var 7) (.cons (.lit (.bl false)) .nil))) .nil))) (.cons (.bin .add (.var 3) (.lit (.int 1))) (.cons (.var 4) .nil))))))) (.cons (.ret (.tup (.cons (.idx (.lst (.cons (.lit (.str [108, 101, 97, 115, 116])) (.cons (.lit (.str [109, 111, 115, 116])) .nil))) (.call i__law_next (.cons (.var 0) (.cons (.lit (.int 2)) .nil)))) (.cons (.var 7) (.cons (.var 10) .nil))))) .nil))) .nil) (.cons (.asg (.one 11) (.bin .add (.lit (.int 1)) (.call i__law_next (.cons (.var 0) (.cons (.bin .sub (.var 1) (.lit (.int 2))) .nil))))) (.cons (.ife (.and (.cmp .eq (.var 5) (.lit (.int 8))) (.cmp .lt (.var 4) (.lit (.int 2)))) (.cons (.asg (.one 12) (.call i__law_sentence (.cons (.var 0) (.cons (.var 11) (.cons (.lst .nil) (.cons (.var 3) (.cons (.bin .add (.var 4) (.lit (.int 1))) .nil))))))) (.cons (.ret (.tup (.cons (.lit (.str [115, 104, 111, 119])) (.cons (.call i__law_hands (.cons (.var 0) .nil)) (.cons (.var 12) (.cons (.call i__law_sentence (.cons (.var 0) (.cons (.bin .sub (.bin .sub (.var 1) (.lit (.int 1))) (.var 11)) (.cons (.lst .nil) (.cons (.var 3) (.cons (.bin .add (.var 4) (.lit (.int 1))) .nil)))))) .nil)))))) .nil)) .nil) (.cons (.asg (.one 13) (.call i__law_sentence (.cons (.var 0) (.cons (.var 11) (.cons (.var 2) (.cons (.var 3) (.cons (.var 4) .nil))))))) (.cons (.ret (.tup (.cons (.idx (.lst (.cons (.lit (.str [97, 110, 100])) (.cons (.lit (.str [111, 114])) .nil))) (.call i__law_next (.cons (.var 0) (.cons (.lit (.int 2)) .nil)))) (.cons (.var 13) (.cons (.call i__law_sentence (.cons (.var 0) (.cons (.bin .sub (.bin .sub (.var 1) (.lit (.int 1))) (.var 11)) (.cons (.var 2) (.cons (.var 3) (.cons (.var 4) .nil)))))) .nil))))) .nil)))))))))
theorem cB26 : cSms (cSm gv 100 ⟨N26, defScope st26, fun _ => true⟩) (defBody st26) = some B__law_sentence := rfl
def B__law_kind : Sms := (.cons (.ret (.lst (.cons (.bi (.isa .tuple) (.cons (.var 0) .nil)) (.cons (.bi (.isa .list) (.cons (.var 0) .nil)) (.cons (.bi (.isa .str) (.cons (.var 0) .nil)) (.cons (.bi (.isa .bool) (.cons (.var 0) .nil)) .nil)))))) .nil)
theorem cB27 : cSms (cSm gv 100 ⟨N27, defScope st27, fun _ => true⟩) (defBody st27) = some B__law_kind := rfl
def B__law_same : Sms := (.cons (.ife (.cmp .ne (.call i__law_kind (.cons (.var 0) .nil)) (.call i__law_kind (.cons (.var 1) .nil))) (.cons (.ret (.lit (.bl false))) .nil) .nil) (.cons (.ife (.not (.bi (.isa2 .tuple .list) (.cons (.var 1) .nil))) (.cons (.ret (.cmp .eq (.var 0) (.var 1))) .nil) .nil) (.cons (.ife (.cmp .ne (.bi .len (.cons (.var 0) .nil)) (.bi .len (.cons (.var 1) .nil))) (.cons (.ret (.lit (.bl false))) .nil) .nil) (.cons (.ret (.cmp .nin (.lit (.bl false)) (.comp (.call i__law_same (.cons (.var 2) (.cons (.var 3) .nil))) (.many [2, 3]) (.zip (.var 0) (.var 1)) .none [2, 3]))) .nil))))
theorem cB28 : cSms (cSm gv 100 ⟨N28, defScope st28, fun _ => true⟩) (defBody st28) = some B__law_same := rfl
def B__law_step_words : Sms := (.cons (.ife (.cmp .in_ (.idx (.var 0) (.lit (.int 0))) (.tup (.cons (.lit (.str [111, 110, 101])) (.cons (.lit (.str [112, 111, 111, 108])) .nil)))) (.cons (.ret (.bin .add (.bin .add (.idx (.var 0) (.lit (.int 0))) (.lit (.str [32]))) (.mt .join (.lit (.str [44])) (.cons (.idx (.var 0) (.lit (.int 1))) .nil)))) .nil) .nil) (.cons (.ret (.idx (.var 0) (.lit (.int 0)))) .nil))
theorem cB29 : cSms (cSm gv 100 ⟨N29, defScope st29, fun _ => true⟩) (defBody st29) = some B__law_step_words := rfl
def B__law_text : Sms := (.cons (.asg (.one 1) (.idx (.var 0) (.lit (.int 0)))) (.cons (.ife (.cmp .in_ (.var 1) (.tup (.cons (.lit (.str [102, 97, 99, 116])) (.cons (.lit (.str [119, 105, 115, 104])) .nil)))) (.cons (.ret (.bin .add (.bin .add (.var 1) (.lit (.str [32]))) (.idx (.var 0) (.lit (.int 1))))) .nil) .nil) (.cons (.ife (.cmp .eq (.var 1) (.lit (.str [110, 111, 116]))) (.cons (.ret (.bin .add (.lit (.str [110, 111, 116, 32])) (.call i__law_text (.cons (.idx (.var 0) (.lit (.int 1))) .nil)))) .nil) .nil) (.cons (.ife (.cmp .in_ (.var 1) (.tup (.cons (.lit (.str [97, 110, 100])) (.cons (.lit (.str [111, 114])) .nil)))) (.cons (.ret (.bin .add (.bin .add (.bin .add (.bin .add (.var 1) (.lit (.str [32]))) (.call i__law_text (.cons (.idx (.var 0) (.lit (.int 1))) .nil))) (.lit (.str [32]))) (.call i__law_text (.cons (.idx (.var 0) (.lit (.int 2))) .nil)))) .nil) .nil) (.cons (.ife (.cmp .in_ (.var 1) (.tup (.cons (.lit (.str [115, 111, 109, 101])) (.cons (.lit (.str [101, 118, 101, 114, 121])) .nil)))) (.cons (.ret (.bin .add (.bin .add (.bin .add (.bin .add (.var 1) (.lit (.str [32]))) (.call i__law_step_words (.cons (.idx (.var 0) (.lit (.int 1))) .nil))) (.lit (.str [32]))) (.call i__law_text (.cons (.idx (.var 0) (.lit (.int 2))) .nil)))) .nil) .nil) (.cons (.ife (.cmp .in_ (.var 1) (.tup (.cons (.lit (.str [108, 101, 97, 115, 116])) (.cons (.lit (.str [109, 111, 115, 116])) .nil)))) (.cons (.ret (.bin .add (.bin .add (.bin .add (.bin .add (.var 1) (.lit (.str [32]))) (.idx (.var 0) (.lit (.int 1)))) (.lit (.str [32]))) (.call i__law_text (.cons (.idx (.var 0) (.lit (.int 2))) .nil)))) .nil) .nil) (.cons (.ret (.bin .add (.bin .add (.bin .add (.bin .add (.bin .add (.lit (.str [115, 104, 111, 119, 32])) (.mt .join (.lit (.str [44])) (.cons (.idx (.var 0) (.lit (.int 1))) .nil))) (.lit (.str [32]))) (.call i__law_text (.cons (.idx (.var 0) (.lit (.int 2))) .nil))) (.lit (.str [32]))) (.call i__law_text (.cons (.idx (.var 0) (.lit (.int 3))) .nil)))) .nil)))))))
theorem cB30 : cSms (cSm gv 100 ⟨N30, defScope st30, fun _ => true⟩) (defBody st30) = some B__law_text := rfl
def L1_law : Sms := (.cons (.asg (.one 4) (.call i__law_sentence (.cons (.var 1) (.cons (.bin .add (.lit (.int 1)) (.call i__law_next (.cons (.var 1) (.cons (.lit (.int 40)) .nil)))) (.cons (.lst .nil) (.cons (.lit (.int 0)) (.cons (.bin .sub (.lit (.int 1)) (.bi .int (.cons (.cmp .gt (.var 3) (.lit (.int 0))) .nil))) .nil))))))) (.cons (.ife (.cmp .eq (.idx (.var 4) (.lit (.int 0))) (.lit (.str [102, 97, 99, 116]))) (.cons (.asg (.one 4) (.tup (.cons (.lit (.str [102, 97, 99, 116])) (.cons (.idx (.lst (.cons (.lit (.str [102, 97, 99, 116])) (.cons (.lit (.str [111, 110])) (.cons (.lit (.str [115, 104, 111, 119])) (.cons (.lit (.str [97, 98, 99, 100, 101, 102, 103, 104])) (.cons (.lit (.str [122])) .nil)))))) (.call i__law_next (.cons (.var 1) (.cons (.lit (.int 5)) .nil)))) .nil)))) .nil) .nil) (.cons (.expr (.mt .append (.var 2) (.cons (.var 4) .nil))) .nil)))
def L2_law : Sms := (.cons (.asg (.one 6) (.call i__law_text (.cons (.var 4) .nil))) (.cons (.ife (.or (.not (.call i__law_same (.cons (.call i_shown_sentence (.cons (.var 4) .nil)) (.cons (.var 6) .nil)))) (.not (.call i__law_same (.cons (.call i_read_sentence (.cons (.var 6) .nil)) (.cons (.var 4) .nil))))) (.cons (.ret (.lit (.bl false))) .nil) .nil) .nil))
def B_law : Sms := (.cons (.asg (.one 1) (.lst (.cons (.var 0) (.cons (.lit (.int 0)) .nil)))) (.cons (.asg (.one 2) (.lst .nil)) (.cons (.for_ (.one 3) (.rng1 (.lit (.int 12))) L1_law) (.cons (.asg (.one 5) (.tup (.cons (.lit (.str [101, 118, 101, 114, 121])) (.cons (.tup (.cons (.lit (.str [112, 111, 111, 108])) (.cons (.tup (.cons (.lit (.str [97])) (.cons (.lit (.str [97, 98])) (.cons (.lit (.str [98])) (.cons (.lit (.str [111, 110, 101])) .nil))))) .nil))) (.cons (.tup (.cons (.lit (.str [102, 97, 99, 116])) (.cons (.lit (.str [111, 110])) .nil))) .nil))))) (.cons (.expr (.mt .append (.var 2) (.cons (.tup (.cons (.lit (.str [115, 111, 109, 101])) (.cons (.tup (.cons (.lit (.str [111, 110, 101])) (.cons (.tup (.cons (.lit (.str [97])) (.cons (.lit (.str [97, 98])) (.cons (.lit (.str [97, 98, 99])) (.cons (.lit (.str [98])) .nil))))) .nil))) (.cons (.var 5) .nil)))) .nil))) (.cons (.expr (.mt .append (.var 2) (.cons (.tup (.cons (.lit (.str [115, 104, 111, 119])) (.cons (.tup (.cons (.lit (.str [97])) (.cons (.lit (.str [98, 97, 99, 107])) (.cons (.lit (.str [111, 110])) (.cons (.lit (.str [112, 111, 111, 108])) .nil))))) (.cons (.idx (.var 2) (.lit (.int 0))) (.cons (.tup (.cons (.lit (.str [102, 97, 99, 116])) (.cons (.lit (.str [115, 104, 111, 119])) .nil))) .nil))))) .nil))) (.cons (.for_ (.one 4) (.val (.bin .add (.var 2) (.slc (.var 2) .none (.some (.lit (.int 3)))))) L2_law) (.cons (.ret (.lit (.bl true))) .nil))))))))
theorem cB31 : cSms (cSm gv 100 ⟨N31, defScope st31, fun _ => true⟩) (defBody st31) = some B_law := rfl
abbrev F_is_name : Fn := ⟨1, 2, B_is_name⟩
abbrev F_are_rising : Fn := ⟨1, 2, B_are_rising⟩
abbrev F_is_hands : Fn := ⟨1, 2, B_is_hands⟩
abbrev F_parts_of : Fn := ⟨1, 1, B_parts_of⟩
abbrev F_can_stand : Fn := ⟨2, 5, B_can_stand⟩
abbrev F_within_it : Fn := ⟨2, 7, B_within_it⟩
abbrev F_rows_of : Fn := ⟨1, 9, B_rows_of⟩
abbrev F_things_of : Fn := ⟨1, 4, B_things_of⟩
abbrev F_words_of : Fn := ⟨1, 4, B_words_of⟩
abbrev F_shown_sentence : Fn := ⟨1, 3, B_shown_sentence⟩
abbrev F_next_word : Fn := ⟨1, 2, B_next_word⟩
abbrev F_refuse_word : Fn := ⟨1, 1, B_refuse_word⟩
abbrev F_read_name : Fn := ⟨1, 2, B_read_name⟩
abbrev F_read_hands : Fn := ⟨1, 2, B_read_hands⟩
abbrev F_read_step : Fn := ⟨1, 2, B_read_step⟩
abbrev F_begin_thing : Fn := ⟨3, 4, B_begin_thing⟩
abbrev F_read_binding : Fn := ⟨3, 4, B_read_binding⟩
abbrev F_read_head : Fn := ⟨2, 4, B_read_head⟩
abbrev F_read_thing : Fn := ⟨2, 5, B_read_thing⟩
abbrev F_read_sentence : Fn := ⟨1, 3, B_read_sentence⟩
abbrev F__law_cell_at : Fn := ⟨2, 2, B__law_cell_at⟩
abbrev F__law_by : Fn := ⟨3, 6, B__law_by⟩
abbrev F__law_next : Fn := ⟨2, 2, B__law_next⟩
abbrev F__law_hands : Fn := ⟨1, 2, B__law_hands⟩
abbrev F__law_step : Fn := ⟨1, 2, B__law_step⟩
abbrev F__law_leaf : Fn := ⟨2, 5, B__law_leaf⟩
abbrev F__law_sentence : Fn := ⟨5, 14, B__law_sentence⟩
abbrev F__law_kind : Fn := ⟨1, 1, B__law_kind⟩
abbrev F__law_same : Fn := ⟨2, 4, B__law_same⟩
abbrev F__law_step_words : Fn := ⟨1, 1, B__law_step_words⟩
abbrev F__law_text : Fn := ⟨1, 2, B__law_text⟩
abbrev F_law : Fn := ⟨1, 7, B_law⟩
def fns : List Fn := [F_is_name, F_are_rising, F_is_hands, F_parts_of, F_can_stand, F_within_it, F_rows_of, F_things_of, F_words_of, F_shown_sentence, F_next_word, F_refuse_word, F_read_name, F_read_hands, F_read_step, F_begin_thing, F_read_binding, F_read_head, F_read_thing, F_read_sentence, F__law_cell_at, F__law_by, F__law_next, F__law_hands, F__law_step, F__law_leaf, F__law_sentence, F__law_kind, F__law_same, F__law_step_words, F__law_text, F_law]
def pst (i : Nat) : List Str := [P0, P1, P2, P3, P4, P5, P6, P7, P8, P9, P10, P11, P12, P13, P14, P15, P16, P17, P18, P19, P20, P21, P22, P23, P24, P25, P26, P27, P28, P29, P30, P31].getD i []
theorem sc0 : FnScope N0 P0 (defScope st0) := ⟨rfl, rfl, rfl, by decide +kernel, rfl, by decide +kernel, by decide +kernel⟩
theorem sc1 : FnScope N1 P1 (defScope st1) := ⟨rfl, rfl, rfl, by decide +kernel, rfl, by decide +kernel, by decide +kernel⟩
theorem sc2 : FnScope N2 P2 (defScope st2) := ⟨rfl, rfl, rfl, by decide +kernel, rfl, by decide +kernel, by decide +kernel⟩
theorem sc3 : FnScope N3 P3 (defScope st3) := ⟨rfl, rfl, rfl, by decide +kernel, rfl, by decide +kernel, by decide +kernel⟩
theorem sc4 : FnScope N4 P4 (defScope st4) := ⟨rfl, rfl, rfl, by decide +kernel, rfl, by decide +kernel, by decide +kernel⟩
theorem sc5 : FnScope N5 P5 (defScope st5) := ⟨rfl, rfl, rfl, by decide +kernel, rfl, by decide +kernel, by decide +kernel⟩
theorem sc6 : FnScope N6 P6 (defScope st6) := ⟨rfl, rfl, rfl, by decide +kernel, rfl, by decide +kernel, by decide +kernel⟩
theorem sc7 : FnScope N7 P7 (defScope st7) := ⟨rfl, rfl, rfl, by decide +kernel, rfl, by decide +kernel, by decide +kernel⟩
theorem sc8 : FnScope N8 P8 (defScope st8) := ⟨rfl, rfl, rfl, by decide +kernel, rfl, by decide +kernel, by decide +kernel⟩
theorem sc9 : FnScope N9 P9 (defScope st9) := ⟨rfl, rfl, rfl, by decide +kernel, rfl, by decide +kernel, by decide +kernel⟩
theorem sc10 : FnScope N10 P10 (defScope st10) := ⟨rfl, rfl, rfl, by decide +kernel, rfl, by decide +kernel, by decide +kernel⟩
theorem sc11 : FnScope N11 P11 (defScope st11) := ⟨rfl, rfl, rfl, by decide +kernel, rfl, by decide +kernel, by decide +kernel⟩
theorem sc12 : FnScope N12 P12 (defScope st12) := ⟨rfl, rfl, rfl, by decide +kernel, rfl, by decide +kernel, by decide +kernel⟩
theorem sc13 : FnScope N13 P13 (defScope st13) := ⟨rfl, rfl, rfl, by decide +kernel, rfl, by decide +kernel, by decide +kernel⟩
theorem sc14 : FnScope N14 P14 (defScope st14) := ⟨rfl, rfl, rfl, by decide +kernel, rfl, by decide +kernel, by decide +kernel⟩
theorem sc15 : FnScope N15 P15 (defScope st15) := ⟨rfl, rfl, rfl, by decide +kernel, rfl, by decide +kernel, by decide +kernel⟩
theorem sc16 : FnScope N16 P16 (defScope st16) := ⟨rfl, rfl, rfl, by decide +kernel, rfl, by decide +kernel, by decide +kernel⟩
theorem sc17 : FnScope N17 P17 (defScope st17) := ⟨rfl, rfl, rfl, by decide +kernel, rfl, by decide +kernel, by decide +kernel⟩
theorem sc18 : FnScope N18 P18 (defScope st18) := ⟨rfl, rfl, rfl, by decide +kernel, rfl, by decide +kernel, by decide +kernel⟩
theorem sc19 : FnScope N19 P19 (defScope st19) := ⟨rfl, rfl, rfl, by decide +kernel, rfl, by decide +kernel, by decide +kernel⟩
theorem sc20 : FnScope N20 P20 (defScope st20) := ⟨rfl, rfl, rfl, by decide +kernel, rfl, by decide +kernel, by decide +kernel⟩
theorem sc21 : FnScope N21 P21 (defScope st21) := ⟨rfl, rfl, rfl, by decide +kernel, rfl, by decide +kernel, by decide +kernel⟩
theorem sc22 : FnScope N22 P22 (defScope st22) := ⟨rfl, rfl, rfl, by decide +kernel, rfl, by decide +kernel, by decide +kernel⟩
theorem sc23 : FnScope N23 P23 (defScope st23) := ⟨rfl, rfl, rfl, by decide +kernel, rfl, by decide +kernel, by decide +kernel⟩
theorem sc24 : FnScope N24 P24 (defScope st24) := ⟨rfl, rfl, rfl, by decide +kernel, rfl, by decide +kernel, by decide +kernel⟩
theorem sc25 : FnScope N25 P25 (defScope st25) := ⟨rfl, rfl, rfl, by decide +kernel, rfl, by decide +kernel, by decide +kernel⟩
theorem sc26 : FnScope N26 P26 (defScope st26) := ⟨rfl, rfl, rfl, by decide +kernel, rfl, by decide +kernel, by decide +kernel⟩
theorem sc27 : FnScope N27 P27 (defScope st27) := ⟨rfl, rfl, rfl, by decide +kernel, rfl, by decide +kernel, by decide +kernel⟩
theorem sc28 : FnScope N28 P28 (defScope st28) := ⟨rfl, rfl, rfl, by decide +kernel, rfl, by decide +kernel, by decide +kernel⟩
theorem sc29 : FnScope N29 P29 (defScope st29) := ⟨rfl, rfl, rfl, by decide +kernel, rfl, by decide +kernel, by decide +kernel⟩
theorem sc30 : FnScope N30 P30 (defScope st30) := ⟨rfl, rfl, rfl, by decide +kernel, rfl, by decide +kernel, by decide +kernel⟩
theorem sc31 : FnScope N31 P31 (defScope st31) := ⟨rfl, rfl, rfl, by decide +kernel, rfl, by decide +kernel, by decide +kernel⟩
theorem f_is_name : fns[i_is_name]? = some F_is_name := rfl
theorem f_are_rising : fns[i_are_rising]? = some F_are_rising := rfl
theorem f_is_hands : fns[i_is_hands]? = some F_is_hands := rfl
theorem f_parts_of : fns[i_parts_of]? = some F_parts_of := rfl
theorem f_can_stand : fns[i_can_stand]? = some F_can_stand := rfl
theorem f_within_it : fns[i_within_it]? = some F_within_it := rfl
theorem f_rows_of : fns[i_rows_of]? = some F_rows_of := rfl
theorem f_things_of : fns[i_things_of]? = some F_things_of := rfl
theorem f_words_of : fns[i_words_of]? = some F_words_of := rfl
theorem f_shown_sentence : fns[i_shown_sentence]? = some F_shown_sentence := rfl
theorem f_next_word : fns[i_next_word]? = some F_next_word := rfl
theorem f_refuse_word : fns[i_refuse_word]? = some F_refuse_word := rfl
theorem f_read_name : fns[i_read_name]? = some F_read_name := rfl
theorem f_read_hands : fns[i_read_hands]? = some F_read_hands := rfl
theorem f_read_step : fns[i_read_step]? = some F_read_step := rfl
theorem f_begin_thing : fns[i_begin_thing]? = some F_begin_thing := rfl
theorem f_read_binding : fns[i_read_binding]? = some F_read_binding := rfl
theorem f_read_head : fns[i_read_head]? = some F_read_head := rfl
theorem f_read_thing : fns[i_read_thing]? = some F_read_thing := rfl
theorem f_read_sentence : fns[i_read_sentence]? = some F_read_sentence := rfl
theorem f__law_cell_at : fns[i__law_cell_at]? = some F__law_cell_at := rfl
theorem f__law_by : fns[i__law_by]? = some F__law_by := rfl
theorem f__law_next : fns[i__law_next]? = some F__law_next := rfl
theorem f__law_hands : fns[i__law_hands]? = some F__law_hands := rfl
theorem f__law_step : fns[i__law_step]? = some F__law_step := rfl
theorem f__law_leaf : fns[i__law_leaf]? = some F__law_leaf := rfl
theorem f__law_sentence : fns[i__law_sentence]? = some F__law_sentence := rfl
theorem f__law_kind : fns[i__law_kind]? = some F__law_kind := rfl
theorem f__law_same : fns[i__law_same]? = some F__law_same := rfl
theorem f__law_step_words : fns[i__law_step_words]? = some F__law_step_words := rfl
theorem f__law_text : fns[i__law_text]? = some F__law_text := rfl
theorem f_law : fns[i_law]? = some F_law := rfl
end Wl
set_option Elab.async false
set_option maxRecDepth 100000
set_option linter.all false
set_option maxHeartbeats 4000000
/-! Reckoning with the core: what a run ends with. -/
namespace Dp
open PySem L2
-- EQS
@[simp] theorem lim_val : lim = 16777216 := rfl
section
variable {S : Store} {i j : Int} {a b : List Nat} {xs ys : List D} {d e : D} {p q : Bool} {n k c : Nat} {l h : Option Int} {ty tz : Ty} {m : MT} {is : List Nat} {env : Env} {o : O}
@[simp] theorem bin_add : binD .add (.int i) (.int j) S = .ok (.int (i + j)) S := rfl
@[simp] theorem bin_adds : binD .add (.str a) (.str b) S = if a.length + b.length ≤ lim then .ok (.str (a ++ b)) S else .err := rfl
@[simp] theorem bin_addt : binD .add (.tup xs) (.tup ys) S = if xs.length + ys.length ≤ lim then .ok (.tup (xs ++ ys)) S else .err := rfl
@[simp] theorem bin_addr : binD .add (.ref n) (.ref k) S = match getL S n, getL S k with | some a, some b => if a.length + b.length ≤ lim then alloc (.lst (a ++ b)) S else .err | _, _ => .err := rfl
@[simp] theorem bin_sub : binD .sub (.int i) (.int j) S = .ok (.int (i - j)) S := rfl
@[simp] theorem bin_mul : binD .mul (.int i) (.int j) S = if small i || small j then .ok (.int (i * j)) S else .err := rfl
@[simp] theorem bin_fdiv : binD .fdiv (.int i) (.int j) S = if 0 < j ∧ j < 1073741824 then .ok (.int (i / j)) S else .err := rfl
@[simp] theorem bin_mod : binD .mod (.int i) (.int j) S = if 0 < j then .ok (.int (i % j)) S else .err := rfl
@[simp] theorem bin_pow : binD .pow (.int i) (.int j) S = if 0 ≤ j ∧ j ≤ 1000000 ∧ i.natAbs < 2 ^ 64 then .ok (.int (i ^ j.toNat)) S else .err := rfl
@[simp] theorem bin_shr : binD .shr (.int i) (.int j) S = if 0 ≤ j then .ok (.int (i / 2 ^ j.toNat)) S else .err := rfl
@[simp] theorem flat_non : flat .non = true := rfl
@[simp] theorem flat_bl : flat (.bl p) = true := rfl
@[simp] theorem flat_int : flat (.int i) = true := rfl
@[simp] theorem flat_str : flat (.str a) = true := rfl
@[simp] theorem flat_tup : flat (.tup xs) = false := rfl
@[simp] theorem flat_rl : flat (.rl xs) = false := rfl
@[simp] theorem flat_ref : flat (.ref n) = false := rfl
@[simp] theorem flat_rd : flat (.rd xs ys) = false := rfl
@[simp] theorem feq_nn : feq .non .non = true := rfl
@[simp] theorem feq_bb : feq (.bl p) (.bl q) = (p == q) := rfl
@[simp] theorem feq_ii : feq (.int i) (.int j) = (i == j) := rfl
@[simp] theorem feq_ss : feq (.str a) (.str b) = (a == b) := rfl
@[simp] theorem feq_bi : feq (.bl p) (.int j) = (b2 p == j) := rfl
@[simp] theorem feq_ib : feq (.int i) (.bl p) = (i == b2 p) := rfl
@[simp] theorem feq_non_bl : feq .non (.bl p) = false := rfl
@[simp] theorem feq_non_int : feq .non (.int i) = false := rfl
@[simp] theorem feq_non_str : feq .non (.str a) = false := rfl
@[simp] theorem feq_bl_non : feq (.bl p) .non = false := rfl
@[simp] theorem feq_bl_str : feq (.bl p) (.str a) = false := rfl
@[simp] theorem feq_int_non : feq (.int i) .non = false := rfl
@[simp] theorem feq_int_str : feq (.int i) (.str a) = false := rfl
@[simp] theorem feq_str_non : feq (.str a) .non = false := rfl
@[simp] theorem feq_str_bl : feq (.str a) (.bl p) = false := rfl
@[simp] theorem feq_str_int : feq (.str a) (.int i) = false := rfl
@[simp] theorem dlt_i : dlt (.int i) (.int j) = some (decide (i < j)) := rfl
@[simp] theorem dlt_s : dlt (.str a) (.str b) = some (lexN a b) := rfl
@[simp] theorem seq_tup : seqOf S (.tup xs) = some xs := rfl
@[simp] theorem seq_rl : seqOf S (.rl xs) = some xs := rfl
@[simp] theorem seq_ref : seqOf S (.ref n) = getL S n := rfl
@[simp] theorem key_str : keyOk (.str a) = true := rfl
@[simp] theorem din_s : dinD S (.str [c]) (.str b) = some (decide (c ∈ b)) := rfl
@[simp] theorem din_rd : dinD S (.str a) (.rd xs ys) = some (dget (.str a) xs ys).isSome := rfl
@[simp] theorem ecmp_eq : cmpD .eq d e S = deq S d e := rfl
@[simp] theorem ecmp_ne : cmpD .ne d e S = (deq S d e).map (!·) := rfl
@[simp] theorem ecmp_lt : cmpD .lt d e S = dlt d e := rfl
@[simp] theorem ecmp_le : cmpD .le (.int i) (.int j) S = some (decide (i ≤ j)) := rfl
@[simp] theorem ecmp_les : cmpD .le (.str a) (.str b) S = some (!lexN b a) := rfl
@[simp] theorem ecmp_gt : cmpD .gt (.int i) (.int j) S = some (decide (j < i)) := rfl
@[simp] theorem ecmp_gts : cmpD .gt (.str a) (.str b) S = some (lexN b a) := rfl
@[simp] theorem ecmp_ge : cmpD .ge (.int i) (.int j) S = some (decide (j ≤ i)) := rfl
@[simp] theorem ecmp_in : cmpD .in_ d e S = dinD S d e := rfl
@[simp] theorem ecmp_nin : cmpD .nin d e S = (dinD S d e).map (!·) := rfl
@[simp] theorem ecmp_is_bl : cmpD .is_ (.bl p) .non S = some false := rfl
@[simp] theorem ecmp_isnt_bl : cmpD .isnt (.bl p) .non S = some true := rfl
@[simp] theorem ecmp_is_int : cmpD .is_ (.int i) .non S = some false := rfl
@[simp] theorem ecmp_isnt_int : cmpD .isnt (.int i) .non S = some true := rfl
@[simp] theorem ecmp_is_str : cmpD .is_ (.str a) .non S = some false := rfl
@[simp] theorem ecmp_isnt_str : cmpD .isnt (.str a) .non S = some true := rfl
@[simp] theorem ecmp_is_tup : cmpD .is_ (.tup xs) .non S = some false := rfl
@[simp] theorem ecmp_isnt_tup : cmpD .isnt (.tup xs) .non S = some true := rfl
@[simp] theorem ecmp_is_ref : cmpD .is_ (.ref n) .non S = some false := rfl
@[simp] theorem ecmp_isnt_ref : cmpD .isnt (.ref n) .non S = some true := rfl
@[simp] theorem ecmp_is_non : cmpD .is_ .non .non S = some true := rfl
@[simp] theorem ecmp_isnt_non : cmpD .isnt .non .non S = some false := rfl
@[simp] theorem ecmp_is_bb : cmpD .is_ (.bl p) (.bl q) S = some (p == q) := rfl
@[simp] theorem ecmp_isnt_bb : cmpD .isnt (.bl p) (.bl q) S = some (!(p == q)) := rfl
@[simp] theorem tr_non : truth S .non = some false := rfl
@[simp] theorem tr_bl : truth S (.bl p) = some p := rfl
@[simp] theorem tr_int : truth S (.int i) = some (i != 0) := rfl
@[simp] theorem tr_str : truth S (.str a) = if a.length ≤ lim then some (!a.isEmpty) else none := rfl
@[simp] theorem tr_tup : truth S (.tup xs) = some (!xs.isEmpty) := rfl
@[simp] theorem tr_rl : truth S (.rl xs) = some (!xs.isEmpty) := rfl
@[simp] theorem tr_ref : truth S (.ref n) = (getL S n).map fun xs => !xs.isEmpty := rfl
@[simp] theorem eix_tup : idxD S (.tup xs) (.int i) = L2.atI xs i := rfl
@[simp] theorem eix_rl : idxD S (.rl xs) (.int i) = L2.atI xs i := rfl
@[simp] theorem eix_ref : idxD S (.ref n) (.int i) = (getL S n).bind fun xs => L2.atI xs i := rfl
@[simp] theorem eix_rd : idxD S (.rd xs ys) (.str a) = dget (.str a) xs ys := rfl
@[simp] theorem eslc_tup : slcD S (.tup xs) l h = .ok (.tup (cut xs l h)) S := rfl
@[simp] theorem eslc_ref : slcD S (.ref n) l h = match getL S n with | some xs => alloc (.lst (cut xs l h)) S | none => .err := rfl
@[simp] theorem eslc_str : slcD S (.str a) l h = if a.length ≤ lim then .ok (.str (cut a l h)) S else .err := rfl
@[simp] theorem isTy_non : isTy S .non ty = some false := by cases ty <;> rfl
@[simp] theorem isTy_int : isTy S (.int i) ty = some (ty == .int) := by cases ty <;> rfl
@[simp] theorem isTy_str : isTy S (.str a) ty = some (ty == .str) := by cases ty <;> rfl
@[simp] theorem isTy_tup : isTy S (.tup xs) ty = some (ty == .tuple) := by cases ty <;> rfl
@[simp] theorem isTy_rl : isTy S (.rl xs) ty = some (ty == .list) := by cases ty <;> rfl
@[simp] theorem isTy_rd : isTy S (.rd xs ys) ty = some (ty == .dict) := by cases ty <;> rfl
@[simp] theorem isTy_bl : isTy S (.bl p) ty = some (ty == .bool || ty == .int) := by cases ty <;> rfl
theorem isTy_ref (h : getL S n = some xs) : isTy S (.ref n) ty = some (ty == .list) := by
  unfold getL at h
  split at h
  · rename_i e; unfold isTy; simp only [e]
  · cases h
@[simp] theorem ebi_len_s : biD .len [.str a] S = if a.length ≤ lim then .ok (.int a.length) S else .err := rfl
@[simp] theorem ebi_len_t : biD .len [.tup xs] S = .ok (.int xs.length) S := rfl
@[simp] theorem ebi_len_l : biD .len [.rl xs] S = .ok (.int xs.length) S := rfl
@[simp] theorem ebi_len_r : biD .len [.ref n] S = match getL S n with | some xs => .ok (.int xs.length) S | none => .err := rfl
@[simp] theorem ebi_tuple : biD .tuple [d] S = match seqOf S d with | some xs => .ok (.tup xs) S | none => .err := by cases d <;> rfl
@[simp] theorem ebi_list_t : biD .list [.tup xs] S = alloc (.lst xs) S := rfl
@[simp] theorem ebi_list_rd : biD .list [.rd xs ys] S = if xs.length ≤ lim then alloc (.lst xs) S else .err := rfl
@[simp] theorem ebi_list_rf : biD .list [.ref n] S = match getL S n with | some xs => alloc (.lst xs) S | none => .err := rfl
@[simp] theorem ebi_all_ : biD .all [.ref n] S = match (getL S n).bind blsOf with | some bs => .ok (.bl (bs.all id)) S | none => .err := rfl
@[simp] theorem ebi_any_ : biD .any [.ref n] S = match (getL S n).bind blsOf with | some bs => .ok (.bl (bs.any id)) S | none => .err := rfl
@[simp] theorem ebi_sum_ : biD .sum [.ref n] S = match (getL S n).bind intsOf with | some bs => .ok (.int bs.sum) S | none => .err := rfl
@[simp] theorem ebi_int_b : biD .int [.bl p] S = .ok (.int (b2 p)) S := rfl
@[simp] theorem ebi_int_i : biD .int [.int i] S = .ok (.int i) S := rfl
@[simp] theorem ebi_isa : biD (.isa ty) [d] S = match isTy S d ty with | some b => .ok (.bl b) S | none => .err := by cases d <;> rfl
@[simp] theorem ebi_isa2 : biD (.isa2 ty tz) [d] S = match isTy S d ty, isTy S d tz with | some b, some c => .ok (.bl (b || c)) S | _, _ => .err := by cases d <;> rfl
@[simp] theorem ok_str : mtOk m S (.str a) = (m == .join || m == .split) := by cases m <;> rfl
@[simp] theorem ok_ref : mtOk m S (.ref n) = (!(m == .join || m == .split) && (getL S n).isSome) := by cases m <;> rfl
@[simp] theorem emt_app : mtD .append (.ref n) [d] S = match getL S n with | some xs => if xs.length < lim then .ok .non (S.set n (.lst (xs ++ [d]))) else .err | none => .err := rfl
@[simp] theorem emt_ext : mtD .extend (.ref n) [.ref k] S = match getL S n, getL S k with | some xs, some ys => if xs.length + ys.length ≤ lim then .ok .non (S.set n (.lst (xs ++ ys))) else .err | _, _ => .err := rfl
@[simp] theorem emt_pop : mtD .pop (.ref n) [] S = match getL S n with | some xs => (match xs[xs.length - 1]? with | some d => .ok d (S.set n (.lst xs.dropLast)) | none => .err) | none => .err := rfl
@[simp] theorem emt_rev : mtD .reverse (.ref n) [] S = match getL S n with | some xs => .ok .non (S.set n (.lst xs.reverse)) | none => .err := rfl
@[simp] theorem emt_clear : mtD .clear (.ref n) [] S = match getL S n with | some xs => .ok .non (S.set n (.lst [])) | none => .err := rfl
@[simp] theorem emt_join : mtD .join (.str a) [d] S = match (seqOf S d).bind strsOf with | some ys => if (ys.map (·.length)).sum + ys.length * a.length ≤ lim then .ok (.str (joinL a ys)) S else .err | none => .err := rfl
@[simp] theorem emt_split : mtD .split (.str a) [.str [c]] S = if a.length + 2 ≤ lim ∧ c < 256 then alloc (.lst ((spl1 c [] a).map .str)) S else .err := rfl
@[simp] theorem asg_one : asgT (.one n) d env = some (env.set n (some d)) := rfl
@[simp] theorem asg_many : asgT (.many is) (.tup xs) env = if is.length = xs.length then some ((is.zip xs).foldl (fun e p => e.set p.1 (some p.2)) env) else none := rfl
@[simp] theorem alloc_eq : alloc o S = .ok (.ref S.length) (S ++ [o]) := rfl
end
-- EQE
section
variable {α β : Type} {Q : α → Store → Prop} {X : Exn → Store → Prop}
@[simp] theorem wp_ok {a : α} {S : Store} : Wp (.ok a S) Q X ↔ Q a S := Iff.rfl
@[simp] theorem wp_exc {x : Exn} {S : Store} : Wp (.exc x S : R α) Q X ↔ X x S := Iff.rfl
@[simp] theorem wp_err : Wp (.err : R α) Q X ↔ False := Iff.rfl
@[simp] theorem bind_ok {a : α} {S : Store} {f : α → Store → R β} : (R.ok a S).bind f = f a S := rfl
@[simp] theorem bind_exc {x : Exn} {S : Store} {f : α → Store → R β} : (R.exc x S : R α).bind f = .exc x S := rfl
@[simp] theorem bind_err {f : α → Store → R β} : (R.err : R α).bind f = .err := rfl
@[simp] theorem of_some {a : α} {S : Store} : R.of S (some a) = .ok a S := rfl
@[simp] theorem of_none {S : Store} : R.of S (none : Option α) = .err := rfl
@[simp] theorem nox_ok {a : α} {S : Store} : (R.ok a S).nox = .ok a S := rfl
theorem bind_assoc {γ : Type} {r : R α} {f : α → Store → R β} {g : β → Store → R γ} : (r.bind f).bind g = r.bind fun a S => (f a S).bind g := by cases r <;> rfl
end
@[simp] theorem ex_ok {d : D} {S : Store} {env : Env} {f : D → Store → ER} : (R.ok d S).ex env f = f d S := rfl
@[simp] theorem ret_rt {d : D} {S : Store} : (ER.rt d S).ret = .ok d S := rfl
@[simp] theorem ret_nx {e : Env} {S : Store} : (ER.nx e S).ret = .ok .non S := rfl
@[simp] theorem ret_xc {e : Env} {x : Exn} {S : Store} : (ER.xc x e S).ret = .exc x S := rfl
theorem call_eq {fns : List Fn} {fuel n i : Nat} {ds : List D} {S : Store} {F : Fn} (h : fns[i]? = some F) (hl : ds.length = F.ps) :
    callN fns fuel (n + 1) i ds S = (execs (callN fns fuel n) fuel F.body (ds.map some ++ List.replicate (F.sl - F.ps) none) S).ret := by
  unfold callN; rw [h]; simp only [hl]; rfl
@[simp] theorem getL_app {S T : Store} {n : Nat} (h : n < S.length) : getL (S ++ T) n = getL S n := by unfold getL; rw [List.getElem?_append_left h]
@[simp] theorem getL_new {S T : Store} {xs : List D} : getL (S ++ O.lst xs :: T) S.length = some xs := by unfold getL; rw [List.getElem?_append_right (Nat.le_refl _)]; simp
theorem getL_lt {S : Store} {n : Nat} {xs : List D} (h : getL S n = some xs) : n < S.length := by
  unfold getL at h
  split at h
  · rename_i e; exact (List.getElem?_eq_some_iff.mp e).1
  · cases h
@[simp] theorem getL_set {S : Store} {n : Nat} {xs : List D} (h : n < S.length) : getL (S.set n (.lst xs)) n = some xs := by unfold getL; rw [List.getElem?_set_self h]
@[simp] theorem getL_set_ne {S : Store} {n m : Nat} {o : O} (h : m ≠ n) : getL (S.set n o) m = getL S m := by unfold getL; rw [List.getElem?_set_ne (by omega)]
theorem atI_ok {α : Type} {xs : List α} {i : Nat} : atI xs (i : Int) = xs[i]? := by
  unfold atI ixN
  by_cases h : i < xs.length
  · rw [if_pos (by omega : (0 : Int) ≤ i), if_pos (by omega)]; simp
  · rw [if_pos (by omega : (0 : Int) ≤ i), if_neg (by omega), List.getElem?_eq_none (by omega)]; rfl
end Dp
namespace Dp
theorem small_of {i : Int} (h0 : -(2 ^ 64) < i) (h1 : i < 2 ^ 64) : small i = true := by unfold small; simp only [Bool.and_eq_true, decide_eq_true_eq]; exact ⟨h0, h1⟩
end Dp
namespace Dp
open PySem L2
section
variable {S : Store} {a b : List Nat} {i j : Int} {xs ys : List D} {d e : D} {p q : Bool}
@[simp] theorem deq_ss : deq S (.str a) (.str b) = some (a == b) := rfl
@[simp] theorem deq_ii : deq S (.int i) (.int j) = some (i == j) := rfl
@[simp] theorem deq_bb : deq S (.bl p) (.bl q) = some (p == q) := rfl
@[simp] theorem deq_nn : deq S .non .non = some true := rfl
theorem din_flat0 (h : flat d = true) : dinD S d (.tup xs) = if xs.all flat then some (xs.any fun y => feq y d) else dinP (pd S 66 d) (pd S 66 (.tup xs)) := by
  have : dinD S d (.tup xs) = (if flat d && xs.all flat then some (xs.any fun y => feq y d) else dinP (pd S 66 d) (pd S 66 (.tup xs))) := by cases d <;> rfl
  rw [this, h]; rfl
@[simp] theorem din_str : dinD S (.str a) (.tup xs) = if xs.all flat then some (xs.any fun y => feq y (.str a)) else dinP (pd S 66 (.str a)) (pd S 66 (.tup xs)) := din_flat0 rfl
@[simp] theorem din_int : dinD S (.int i) (.tup xs) = if xs.all flat then some (xs.any fun y => feq y (.int i)) else dinP (pd S 66 (.int i)) (pd S 66 (.tup xs)) := din_flat0 rfl
@[simp] theorem din_bl : dinD S (.bl p) (.tup xs) = if xs.all flat then some (xs.any fun y => feq y (.bl p)) else dinP (pd S 66 (.bl p)) (pd S 66 (.tup xs)) := din_flat0 rfl
theorem din_flat (h : flat d = true) (hx : xs.all flat = true) : dinD S d (.tup xs) = some (xs.any fun y => feq y d) := by
  have : dinD S d (.tup xs) = (if flat d && xs.all flat then some (xs.any fun y => feq y d) else dinP (pd S 66 d) (pd S 66 (.tup xs))) := by cases d <;> rfl
  rw [this, h, hx]; rfl
theorem din_flatR {n : Nat} (hn : getL S n = some xs) (h : flat d = true) (hx : xs.all flat = true) : dinD S d (.ref n) = some (xs.any fun y => feq y d) := by
  have : dinD S d (.ref n) = (match getL S n with | some xs => (if flat d && xs.all flat then some (xs.any fun y => feq y d) else dinP (pd S 66 d) (pd S 66 (.ref n))) | none => none) := by cases d <;> rfl
  rw [this, hn]; simp only [h, hx]; rfl
@[simp] theorem all_str {l : List (List Nat)} : (l.map D.str).all flat = true := by simp
@[simp] theorem any_str {l : List (List Nat)} : ((l.map D.str).any fun y => feq y (.str a)) = decide (a ∈ l) := by
  induction l with
  | nil => simp
  | cons x l ih =>
    simp only [List.map_cons, List.any_cons, ih, feq_ss, List.mem_cons]
    rw [Bool.eq_iff_iff]; simp; constructor <;> (rintro (h | h) <;> simp [h])
@[simp] theorem any_str2 {l : List (List Nat)} : (l.any ((fun y => feq y (.str a)) ∘ D.str)) = decide (a ∈ l) := by rw [← List.any_map, any_str]
@[simp] theorem ty_beq {a b : Ty} : (a == b) = decide (a = b) := by cases a <;> cases b <;> rfl
theorem cut_from {α : Type} {xs : List α} {k : Nat} : cut xs (some (k : Int)) none = xs.drop k := by
  unfold cut
  have e1 : HT.sIx xs.length xs.length none = xs.length := rfl
  have e2 : HT.sIx xs.length 0 (some (k : Int)) = min k xs.length := HT.sIx_nat _ _ _
  rw [e1, e2]
  by_cases h : k ≤ xs.length
  · rw [Nat.min_eq_left h, List.take_of_length_le (by simp)]
  · rw [Nat.min_eq_right (by omega), List.drop_eq_nil_of_le (by omega : xs.length ≤ xs.length), List.drop_eq_nil_of_le (by omega : xs.length ≤ k)]; simp
theorem cut_to {α : Type} {xs : List α} {k : Nat} : cut xs none (some (k : Int)) = xs.take k := by
  unfold cut
  have e1 : HT.sIx xs.length 0 none = 0 := rfl
  have e2 : HT.sIx xs.length xs.length (some (k : Int)) = min k xs.length := HT.sIx_nat _ _ _
  rw [e1, e2, List.drop_zero]; simp [List.take_eq_take_iff]
@[simp] theorem cut1 {α : Type} {xs : List α} : cut xs (some 1) none = xs.drop 1 := cut_from (k := 1)
@[simp] theorem cut2 {α : Type} {xs : List α} : cut xs (some 2) none = xs.drop 2 := cut_from (k := 2)
@[simp] theorem cut3 {α : Type} {xs : List α} : cut xs (some 3) none = xs.drop 3 := cut_from (k := 3)
@[simp] theorem cutT1 {α : Type} {xs : List α} : cut xs none (some 1) = xs.take 1 := cut_to (k := 1)
@[simp] theorem cutT2 {α : Type} {xs : List α} : cut xs none (some 2) = xs.take 2 := cut_to (k := 2)
@[simp] theorem cutT3 {α : Type} {xs : List α} : cut xs none (some 3) = xs.take 3 := cut_to (k := 3)
@[simp] theorem at0 {α : Type} {xs : List α} : atI xs 0 = xs[0]? := atI_ok (i := 0)
@[simp] theorem at1 {α : Type} {xs : List α} : atI xs 1 = xs[1]? := atI_ok (i := 1)
@[simp] theorem at2 {α : Type} {xs : List α} : atI xs 2 = xs[2]? := atI_ok (i := 2)
@[simp] theorem at3 {α : Type} {xs : List α} : atI xs 3 = xs[3]? := atI_ok (i := 3)
@[simp] theorem at4 {α : Type} {xs : List α} : atI xs 4 = xs[4]? := atI_ok (i := 4)
@[simp] theorem atn {α : Type} {xs : List α} {k : Nat} : atI xs (k : Int) = xs[k]? := atI_ok
end
/-! ### data -/
def good (a : List Nat) : Bool := a.all (· < 1114112)
theorem strOk_of {a : List Nat} (h : good a = true) : PyData.strOk ⟨a.toArray⟩ = true := by unfold PyData.strOk; simpa [good] using h
theorem mapM_str {S : Store} {n : Nat} : ∀ l : List (List Nat), (l.map D.str).mapM (pd S n) = some (l.map fun a => PyData.str ⟨a.toArray⟩)
  | [] => rfl
  | a :: l => by
    rw [List.map_cons, List.mapM_cons, mapM_str l]
    cases n <;> rfl
theorem mapM_bl {S : Store} {n : Nat} : ∀ l : List Bool, (l.map D.bl).mapM (pd S n) = some (l.map PyData.bool)
  | [] => rfl
  | a :: l => by
    rw [List.map_cons, List.mapM_cons, mapM_bl l]
    cases n <;> rfl
theorem getL_some {S : Store} {n : Nat} {xs : List D} (h : getL S n = some xs) : S[n]? = some (.lst xs) := by
  unfold getL at h
  split at h
  · rename_i e; cases h; exact e
  · cases h
theorem pd_ref {S : Store} {n k : Nat} {xs : List D} {ps : List PyData} (h : getL S n = some xs) (hm : xs.mapM (pd S k) = some ps) : pd S (k + 1) (.ref n) = some (.list ps) := by
  unfold pd; rw [getL_some h]; simp only [hm]; rfl
theorem lay_str {l : List (List Nat)} (h : ∀ a ∈ l, good a = true) : PyData.canLayAll0 (l.map fun a => PyData.str ⟨a.toArray⟩) = true := by
  induction l with
  | nil => rfl
  | cons a l ih => simp only [List.map_cons, PyData.canLayAll0, PyData.canLay0, strOk_of (h a (.head _)), ih fun b m => h b (.tail _ m)]; rfl
theorem dep_str {l : List (List Nat)} : PyData.depthAll (l.map fun a => PyData.str ⟨a.toArray⟩) ≤ 1 := by
  induction l with
  | nil => simp [PyData.depthAll]
  | cons a l ih => simp only [List.map_cons, PyData.depthAll, PyData.depth]; omega
theorem lay_bl {l : List Bool} : PyData.canLayAll0 (l.map PyData.bool) = true := by
  induction l with
  | nil => rfl
  | cons a l ih => simp only [List.map_cons, PyData.canLayAll0, PyData.canLay0, ih]; rfl
theorem dep_bl {l : List Bool} : PyData.depthAll (l.map PyData.bool) ≤ 1 := by
  induction l with
  | nil => simp [PyData.depthAll]
  | cons a l ih => simp only [List.map_cons, PyData.depthAll, PyData.depth]; omega
theorem eqv_bl : ∀ l r : List Bool, PyData.eqvAll (l.map PyData.bool) (r.map PyData.bool) = (l == r)
  | [], [] => rfl
  | [], _ :: _ => rfl
  | _ :: _, [] => rfl
  | a :: l, b :: r => by simp only [List.map_cons, PyData.eqvAll, PyData.eqv, eqv_bl l r]; rfl
theorem deq_bls {S : Store} {m n : Nat} {l r : List Bool} (h1 : getL S m = some (l.map .bl)) (h2 : getL S n = some (r.map .bl)) : deq S (.ref m) (.ref n) = some (l == r) := by
  unfold deq
  rw [pd_ref h1 (mapM_bl l), pd_ref h2 (mapM_bl r)]
  have e1 : SeqAt.shaped (.list (l.map PyData.bool)) = true := by
    have := dep_bl (l := l); simp [SeqAt.shaped, PyData.canLay0, lay_bl, PyData.depth]; omega
  have e2 : SeqAt.shaped (.list (r.map PyData.bool)) = true := by
    have := dep_bl (l := r); simp [SeqAt.shaped, PyData.canLay0, lay_bl, PyData.depth]; omega
  simp only [flat_ref, Bool.false_and, e1, e2, Bool.and_self, if_true, PyData.eqv, eqv_bl]; rfl
theorem deq_strs0 {S : Store} {m n : Nat} {l : List (List Nat)} (hg : ∀ a ∈ l, good a = true) (h1 : getL S m = some (l.map .str)) (h2 : getL S n = some []) : deq S (.ref m) (.ref n) = some l.isEmpty := by
  unfold deq
  rw [pd_ref h1 (mapM_str l), pd_ref (ps := []) h2 rfl]
  have e1 : SeqAt.shaped (.list (l.map fun a => PyData.str ⟨a.toArray⟩)) = true := by
    have := dep_str (l := l); simp [SeqAt.shaped, PyData.canLay0, lay_str hg, PyData.depth]; omega
  have e2 : SeqAt.shaped (.list []) = true := by decide
  simp only [flat_ref, Bool.false_and, e1, e2, Bool.and_self, if_true, PyData.eqv]
  cases l <;> simp [PyData.eqvAll]
end Dp
namespace Dp
section
variable {S T : Store} {k : Nat} {xs : List D} {o : O}
@[simp] theorem getL_app0 : getL (S ++ T) S.length = getL T 0 := by unfold getL; rw [List.getElem?_append_right (Nat.le_refl _)]; simp
@[simp] theorem getL_add : getL (S ++ T) (S.length + k) = getL T k := by unfold getL; rw [List.getElem?_append_right (by omega)]; simp
@[simp] theorem getL_c0 : getL (.lst xs :: T) 0 = some xs := rfl
@[simp] theorem getL_c1 : getL (o :: T) (k + 1) = getL T k := rfl
@[simp] theorem getL_cc : getL (o :: T) 1 = getL T 0 := rfl
@[simp] theorem set_app0 : (S ++ T).set S.length o = S ++ T.set 0 o := by rw [List.set_append_right _ _ (Nat.le_refl _)]; simp
@[simp] theorem set_add : (S ++ T).set (S.length + k) o = S ++ T.set k o := by rw [List.set_append_right _ _ (by omega)]; simp
end
end Dp

set_option Elab.async false
set_option maxRecDepth 100000
set_option linter.all false
set_option maxHeartbeats 4000000
/-! Loops and comprehensions of the core, by what they keep. -/
namespace Dp
open PySem L2
theorem comp_ext {get : Nat → Store → Option (Option D)} {turn : D → Store → R (Option D)} {g : D → Option D} {xs : List D} {S : Store} (hget : ∀ G i, get i (S ++ G) = some xs[i]?)
    (ht : ∀ d ∈ xs, ∀ G, ∃ G', turn d (S ++ G) = .ok (g d) (S ++ (G ++ G'))) : ∀ (k i : Nat) (acc : List D) (G : Store), i + k = xs.length → acc.length + k ≤ 16777216 →
      ∃ G', compGo get turn k i acc (S ++ G) = .ok (acc ++ (xs.drop i).filterMap g) (S ++ (G ++ G'))
  | 0, i, acc, G, e, hl => by
    refine ⟨[], ?_⟩
    have : xs.drop i = [] := List.drop_eq_nil_of_le (by omega)
    unfold compGo; rw [hget, List.getElem?_eq_none (by omega), this]; simp
  | k + 1, i, acc, G, e, hl => by
    have hi : i < xs.length := by omega
    obtain ⟨G1, h1⟩ := ht xs[i] (List.getElem_mem hi) G
    unfold compGo; rw [hget, List.getElem?_eq_getElem hi]
    simp only [h1, bind_ok]
    rw [List.drop_eq_getElem_cons hi]
    cases hg : g xs[i] with
    | none =>
      obtain ⟨G2, h2⟩ := comp_ext hget ht k (i + 1) acc (G ++ G1) (by omega) (by omega)
      exact ⟨G1 ++ G2, by simp only [h2, List.filterMap_cons, hg, List.append_assoc]⟩
    | some x =>
      obtain ⟨G2, h2⟩ := comp_ext hget ht k (i + 1) (acc ++ [x]) (G ++ G1) (by omega) (by simp; omega)
      refine ⟨G1 ++ G2, ?_⟩
      have : acc.length < 16777216 := by omega
      simp only [lim_val, this, if_true, h2, List.filterMap_cons, hg, List.append_assoc, List.singleton_append]
/-- a comprehension in whose turns nothing is made -/
theorem comp_pure {get : Nat → Store → Option (Option D)} {turn : D → Store → R (Option D)} (g : D → Option D) (xs : List D) {S : Store} {k : Nat} (hk : k = xs.length) (hl : xs.length ≤ 16777216) (hget : ∀ i, get i S = some xs[i]?)
    (ht : ∀ d ∈ xs, turn d S = .ok (g d) S) : compGo get turn k 0 [] S = .ok (xs.filterMap g) S := by
  subst hk
  have go : ∀ (k i : Nat) (acc : List D), i + k = xs.length → acc.length + k ≤ 16777216 → compGo get turn k i acc S = .ok (acc ++ (xs.drop i).filterMap g) S := by
    intro k
    induction k with
    | zero =>
      intro i acc e hl
      have : xs.drop i = [] := List.drop_eq_nil_of_le (by omega)
      unfold compGo; rw [hget, List.getElem?_eq_none (by omega), this]; simp
    | succ k ih =>
      intro i acc e hl
      have hi : i < xs.length := by omega
      have h1 := ht xs[i] (List.getElem_mem hi)
      unfold compGo; rw [hget, List.getElem?_eq_getElem hi]
      simp only [h1, bind_ok]
      rw [List.drop_eq_getElem_cons hi]
      cases hg : g xs[i] with
      | none => simp only [ih (i + 1) acc (by omega) (by omega), List.filterMap_cons, hg]
      | some x =>
        have : acc.length < 16777216 := by omega
        simp only [lim_val, this, if_true, ih (i + 1) (acc ++ [x]) (by omega) (by simp; omega), List.filterMap_cons, hg, List.append_assoc, List.singleton_append]
  simpa using go xs.length 0 [] (by omega) (by simpa using hl)
theorem for_inv {get : Nat → Store → Option (Option D)} {body : D → Env → Store → ER} (xs : List D) (Inv : Nat → Env → Store → Prop) (hget : ∀ i e S, Inv i e S → get i S = some xs[i]?)
    (hst : ∀ i d e S, xs[i]? = some d → Inv i e S → ∃ e' S', (body d e S = .nx e' S' ∨ body d e S = .ct e' S') ∧ Inv (i + 1) e' S') :
    ∀ {k i : Nat} {e : Env} {S : Store}, i + k = xs.length → Inv i e S → ∃ e' S', forGo get body k i e S = .nx e' S' ∧ Inv xs.length e' S'
  | 0, i, e, S, h, I => by
    refine ⟨e, S, ?_, by rw [← h]; exact I⟩
    unfold forGo; rw [hget _ _ _ I, List.getElem?_eq_none (by omega)]
  | k + 1, i, e, S, h, I => by
    have hi : i < xs.length := by omega
    obtain ⟨e', S', hb, I'⟩ := hst i xs[i] e S (List.getElem?_eq_getElem hi) I
    obtain ⟨e2, S2, h2, I2⟩ := for_inv xs Inv hget hst (k := k) (i := i + 1) (by omega) I'
    refine ⟨e2, S2, ?_, I2⟩
    unfold forGo; rw [hget _ _ _ I, List.getElem?_eq_getElem hi]
    rcases hb with hb | hb <;> simp only [hb, h2]
/-- a loop that may go away with an answer -/
theorem for_ans {get : Nat → Store → Option (Option D)} {body : D → Env → Store → ER} (xs : List D) (Inv : Nat → Env → Store → Prop) (A : ER → Prop) (hget : ∀ i e S, Inv i e S → get i S = some xs[i]?)
    (hst : ∀ i d e S, xs[i]? = some d → Inv i e S → (∃ e' S', (body d e S = .nx e' S' ∨ body d e S = .ct e' S') ∧ Inv (i + 1) e' S') ∨ (∃ d' S', body d e S = .rt d' S' ∧ A (.rt d' S')) ∨ (∃ e' S', body d e S = .bk e' S' ∧ A (.nx e' S')) ∨ (∃ x e' S', body d e S = .xc x e' S' ∧ A (.xc x e' S')))
    (hend : ∀ e S, Inv xs.length e S → A (.nx e S)) : ∀ {k i : Nat} {e : Env} {S : Store}, i + k = xs.length → Inv i e S → A (forGo get body k i e S)
  | 0, i, e, S, h, I => by
    unfold forGo; rw [hget _ _ _ I, List.getElem?_eq_none (by omega)]
    exact hend _ _ (by rw [← h]; exact I)
  | k + 1, i, e, S, h, I => by
    have hi : i < xs.length := by omega
    unfold forGo; rw [hget _ _ _ I, List.getElem?_eq_getElem hi]
    rcases hst i xs[i] e S (List.getElem?_eq_getElem hi) I with ⟨e', S', hb, I'⟩ | ⟨d', S', hb, a⟩ | ⟨e', S', hb, a⟩ | ⟨x, e', S', hb, a⟩
    · have := for_ans xs Inv A hget hst hend (k := k) (i := i + 1) (by omega) I'
      rcases hb with hb | hb <;> simpa only [hb] using this
    · simpa only [hb] using a
    · simpa only [hb] using a
    · simpa only [hb] using a
/-- while: m bounds the turns to come -/
theorem while_inv {test : Env → Store → R D} {body : Env → Store → ER} (Inv : Nat → Env → Store → Prop)
    (hst : ∀ m e S, Inv m e S → (∃ d S', test e S = .ok d S' ∧ truth S' d = some true ∧ ∃ m' e' S'', m' < m ∧ (body e S' = .nx e' S'' ∨ body e S' = .ct e' S'') ∧ Inv m' e' S'') ∨ (∃ d S', test e S = .ok d S' ∧ truth S' d = some false ∧ Inv 0 e S')) :
    ∀ {k m : Nat} {e : Env} {S : Store}, m < k → Inv m e S → ∃ e' S', whileGo test body k e S = .nx e' S' ∧ Inv 0 e' S' ∧ ∃ S1 d, test e' S1 = .ok d S' ∧ truth S' d = some false
  | 0, m, e, S, h, I => by omega
  | k + 1, m, e, S, h, I => by
    unfold whileGo
    rcases hst m e S I with ⟨d, S', h1, h2, m', e', S'', hm, hb, I'⟩ | ⟨d, S', h1, h2, I'⟩
    · obtain ⟨e2, S2, h3, I2⟩ := while_inv Inv hst (k := k) (m := m') (by omega) I'
      refine ⟨e2, S2, ?_, I2⟩
      rw [h1]; simp only [ex_ok, h2]
      rcases hb with hb | hb <;> simp only [hb, h3]
    · refine ⟨e, S', ?_, I', S, d, h1, h2⟩
      rw [h1]; simp only [ex_ok, h2]
/-! what a loop walks over -/
theorem okI_of {i : Int} (h0 : -1000000000 ≤ i) (h1 : i ≤ 1000000000) : okI i = true := by unfold okI; simp; omega
def ups (lo : Int) (m : Nat) : List D := (List.range m).map fun i => .int (lo + (i : Nat))
theorem itUp_eq {lo hi : Int} (h0 : okI lo = true) (h1 : okI hi = true) : itUp lo hi = some ⟨(hi - lo).toNat, fun i _ => some (ups lo (hi - lo).toNat)[i]?⟩ := by
  unfold itUp; rw [h0, h1]
  simp only [Bool.and_self, if_true, Option.some.injEq, Itr.mk.injEq, true_and]
  funext i _
  unfold ups
  rw [List.getElem?_map]
  by_cases h : i < (hi - lo).toNat
  · rw [if_pos h, List.getElem?_range h]; rfl
  · rw [if_neg h, List.getElem?_eq_none (by simpa using h)]; rfl
def downs (hi : Int) (m : Nat) : List D := (List.range m).map fun i => .int (hi + (i : Nat) * -1)
theorem itDown_eq {hi lo : Int} (h0 : okI lo = true) (h1 : okI hi = true) : itDown hi lo = some ⟨(hi - lo).toNat, fun i _ => some (downs hi (hi - lo).toNat)[i]?⟩ := by
  unfold itDown; rw [h0, h1]
  simp only [Bool.and_self, if_true, Option.some.injEq, Itr.mk.injEq, true_and]
  funext i _
  unfold downs
  rw [List.getElem?_map]
  by_cases h : i < (hi - lo).toNat
  · rw [if_pos h, List.getElem?_range h]; rfl
  · rw [if_neg h, List.getElem?_eq_none (by simpa using h)]; rfl
@[simp] theorem ups_len {lo : Int} {m : Nat} : (ups lo m).length = m := by simp [ups]
@[simp] theorem downs_len {lo : Int} {m : Nat} : (downs lo m).length = m := by simp [downs]
theorem ups_at {lo : Int} {m i : Nat} {d : D} (h : (ups lo m)[i]? = some d) : d = .int (lo + (i : Nat)) ∧ i < m := by
  unfold ups at h; rw [List.getElem?_map] at h
  by_cases hi : i < m
  · rw [List.getElem?_range hi] at h; cases h; exact ⟨rfl, hi⟩
  · rw [List.getElem?_eq_none (by simpa using hi)] at h; cases h
theorem downs_at {lo : Int} {m i : Nat} {d : D} (h : (downs lo m)[i]? = some d) : d = .int (lo - (i : Nat)) ∧ i < m := by
  unfold downs at h; rw [List.getElem?_map] at h
  by_cases hi : i < m
  · rw [List.getElem?_range hi] at h; cases h; exact ⟨by rw [show lo - (i : Int) = lo + (i : Int) * -1 by omega], hi⟩
  · rw [List.getElem?_eq_none (by simpa using hi)] at h; cases h
section
variable {S : Store} {xs : List D} {a : List Nat} {n : Nat}
@[simp] theorem it_tup : itVal S (.tup xs) = some ⟨xs.length, fun i _ => some xs[i]?⟩ := rfl
@[simp] theorem it_rl : itVal S (.rl xs) = some ⟨xs.length, fun i _ => some xs[i]?⟩ := rfl
@[simp] theorem it_str : itVal S (.str a) = some ⟨a.length, fun i _ => some (a[i]?.map fun c => .str [c])⟩ := rfl
@[simp] theorem it_ref : itVal S (.ref n) = match getL S n with | some xs => some ⟨xs.length, fun i S' => (getL S' n).map fun ys => ys[i]?⟩ | none => none := rfl
end
/-! lists of the store -/
theorem getL_grow {S T : Store} {n : Nat} {xs : List D} (h : getL S n = some xs) : getL (S ++ T) n = some xs := by rw [getL_app (getL_lt h)]; exact h
theorem getL_last {S : Store} {xs : List D} : getL (S ++ [.lst xs]) S.length = some xs := getL_new
theorem set_last {S : Store} {o p : O} : (S ++ [o]).set S.length p = S ++ [p] := by simp
theorem set_app {S T : Store} {n : Nat} {o : O} (h : n < S.length) : (S ++ T).set n o = S.set n o ++ T := List.set_append_left _ _ h
end Dp
namespace Dp
open PySem L2
/-- what a run has left behind -/
def gar {α : Type} (r : R α) (S : Store) : Store := match r with
  | .ok _ S' => S'.drop S.length
  | _ => []
theorem gar_eq {α : Type} {r : R α} {a : α} {S : Store} (h : ∃ G, r = .ok a (S ++ G)) : r = .ok a (S ++ gar r S) := by
  obtain ⟨G, rfl⟩ := h
  simp [gar]
theorem comp_rw {get : Nat → Store → Option (Option D)} {turn : D → Store → R (Option D)} {S : Store} {k : Nat} (g : D → Option D) (xs : List D) (hk : k = xs.length) (hl : xs.length ≤ 16777216) (hget : ∀ G i, get i (S ++ G) = some xs[i]?)
    (ht : ∀ d ∈ xs, ∀ G, ∃ G', turn d (S ++ G) = .ok (g d) (S ++ (G ++ G'))) : compGo get turn k 0 [] S = .ok (xs.filterMap g) (S ++ gar (compGo get turn k 0 [] S) S) := by
  subst hk
  refine gar_eq ?_
  obtain ⟨G, h⟩ := comp_ext hget ht xs.length 0 [] [] (by omega) (by simpa using hl)
  exact ⟨G, by simpa using h⟩
/-- pairs (text, truth) -/
def encF (p : List Nat × Bool) : D := .tup [.str p.1, .bl p.2]
theorem pd_F {S : Store} {n : Nat} {p : List Nat × Bool} : pd S (n + 1) (encF p) = some (.tuple [.str ⟨p.1.toArray⟩, .bool p.2]) := by
  cases n <;> rfl
theorem mapM_F {S : Store} {n : Nat} : ∀ l : List (List Nat × Bool), (l.map encF).mapM (pd S (n + 1)) = some (l.map fun p => .tuple [.str ⟨p.1.toArray⟩, .bool p.2])
  | [] => rfl
  | a :: l => by rw [List.map_cons, List.mapM_cons, mapM_F l, pd_F]; rfl
theorem lay_F : ∀ {l : List (List Nat × Bool)}, (∀ p ∈ l, good p.1 = true) → PyData.canLayAll0 (l.map fun p => PyData.tuple [.str ⟨p.1.toArray⟩, .bool p.2]) = true
  | [], _ => by simp [PyData.canLayAll0]
  | p :: l, h => by simp [PyData.canLayAll0, PyData.canLay0, strOk_of (h p (.head _)), lay_F fun q m => h q (.tail _ m)]
theorem dep_F : ∀ {l : List (List Nat × Bool)}, PyData.depthAll (l.map fun p => PyData.tuple [.str ⟨p.1.toArray⟩, .bool p.2]) ≤ 1
  | [] => by simp [PyData.depthAll]
  | p :: l => by have := dep_F (l := l); simp [PyData.depthAll, PyData.depth]; omega
theorem str_beq {a b : List Nat} : ((⟨a.toArray⟩ : Str) == ⟨b.toArray⟩) = (a == b) := by
  rw [Bool.eq_iff_iff]; simp
theorem din_F {S : Store} {l : List (List Nat × Bool)} {p : List Nat × Bool} (hl : ∀ q ∈ l, good q.1 = true) (hp : good p.1 = true) : dinD S (encF p) (.tup (l.map encF)) = some (decide (p ∈ l)) := by
  have : dinD S (encF p) (.tup (l.map encF)) = dinP (pd S 66 (encF p)) (pd S 66 (.tup (l.map encF))) := rfl
  rw [this, pd_F]
  have e : pd S 66 (.tup (l.map encF)) = some (.tuple (l.map fun p => .tuple [.str ⟨p.1.toArray⟩, .bool p.2])) := by
    show ((l.map encF).mapM (pd S 65)).map PyData.tuple = _
    rw [mapM_F]; rfl
  rw [e]
  unfold dinP
  have s1 : SeqAt.shaped (.tuple [.str ⟨p.1.toArray⟩, .bool p.2]) = true := by simp [SeqAt.shaped, PyData.canLay0, PyData.canLayAll0, strOk_of hp, PyData.depth, PyData.depthAll]
  have s2 : SeqAt.shaped (.tuple (l.map fun p => .tuple [.str ⟨p.1.toArray⟩, .bool p.2])) = true := by
    have := dep_F (l := l); simp [SeqAt.shaped, PyData.canLay0, lay_F hl, PyData.depth]; omega
  simp only [s1, s2, Bool.and_self, if_true, List.any_map, Function.comp_def, PyData.eqv, PyData.eqvAll, Bool.and_true, str_beq]
  congr 1
  clear e s2 hl this
  induction l with
  | nil => simp
  | cons q l ih =>
    rw [List.any_cons, ih, Bool.eq_iff_iff]
    obtain ⟨q1, q2⟩ := q
    obtain ⟨p1, p2⟩ := p
    simp only [Bool.or_eq_true, Bool.and_eq_true, beq_iff_eq, decide_eq_true_eq, List.mem_cons, Prod.mk.injEq]
    constructor
    · rintro (⟨rfl, rfl⟩ | h)
      · exact .inl ⟨rfl, rfl⟩
      · exact .inr h
    · rintro (⟨rfl, rfl⟩ | h)
      · exact .inl ⟨rfl, rfl⟩
      · exact .inr h
end Dp
namespace Dp
theorem it_zip_tt {S : Store} {xs ys : List D} : itZ2 S (.tup xs) (.tup ys) = some ⟨min xs.length ys.length, fun i _ => some (((xs.zip ys).map fun p => D.tup [p.1, p.2])[i]?)⟩ := by
  show some (itZip _ _) = _
  congr 1
  unfold itZip
  congr 1
  funext i S'
  simp only [List.getElem?_map, List.getElem?_zip_eq_some]
  cases h1 : xs[i]? with
  | none =>
    have : (xs.zip ys)[i]? = none := List.getElem?_eq_none (by have := List.getElem?_eq_none_iff.mp h1; simp; omega)
    rw [this]; cases ys[i]? <;> rfl
  | some x =>
    cases h2 : ys[i]? with
    | none =>
      have : (xs.zip ys)[i]? = none := List.getElem?_eq_none (by have := List.getElem?_eq_none_iff.mp h2; simp; omega)
      rw [this]; rfl
    | some y =>
      have : (xs.zip ys)[i]? = some (x, y) := List.getElem?_zip_eq_some.mpr ⟨h1, h2⟩
      rw [this]; rfl
end Dp

set_option Elab.async false
set_option maxRecDepth 100000
set_option linter.all false
set_option maxHeartbeats 4000000
namespace Wl
open PySem L2 Dp
variable {S : Store} {n : Nat} {fuel : Nat}
theorem at_rl {ns : List Int} {i : Int} (h0 : 0 ≤ i) (h1 : i < ns.length) : ∃ c, atI (ns.map D.int) i = some (.int c) := by
  obtain ⟨j, rfl⟩ := Int.eq_ofNat_of_zero_le h0
  rw [atI_ok]
  exact ⟨ns[j]'(by omega), by rw [List.getElem?_map, List.getElem?_eq_getElem (by omega)]; rfl⟩
theorem sp_cell_at {ns : List Int} {k : Int} (hk : 0 ≤ k) : ∃ c, (∀ fuel n S, callN fns fuel (n+1) i__law_cell_at [.rl (ns.map .int), .int k] S = .ok (.int c) S) ∧ (ns = [] → c = 0) := by
  by_cases h : 0 < ns.length
  · obtain ⟨c, hc⟩ := at_rl (ns := ns) (i := k % ns.length) (Int.emod_nonneg _ (by omega)) (Int.emod_lt_of_pos _ (by omega))
    refine ⟨c, fun fuel n S => ?_, ?_⟩
    · rw [call_eq f__law_cell_at rfl]
      simp [B__law_cell_at, h, hc]
    · intro e; subst e; simp at h
  · refine ⟨0, fun fuel n S => ?_, fun _ => rfl⟩
    rw [call_eq f__law_cell_at rfl]
    simp [B__law_cell_at, h]
theorem pow18 : binD .pow (.int 10) (.int 18) S = .ok (.int 1000000000000000000) S := rfl
theorem sp_by {ns : List Int} {k m : Int} (hl : ns.length < 1073741824) (hk : 0 ≤ k) (hk2 : k < 2 ^ 50) (hm : 0 < m) : ∃ c, 0 ≤ c ∧ c < m ∧ ∀ fuel n S, callN fns fuel (n+2) i__law_by [.rl (ns.map .int), .int k, .int m] S = .ok (.int c) S := by
  obtain ⟨c, hc, hz⟩ := sp_cell_at (ns := ns) hk
  have m1 := fun x => Int.emod_nonneg x (by omega : m ≠ 0)
  have m2 := fun x => Int.emod_lt_of_pos x hm
  have s20 : small 20 = true := by decide
  have s31 : small 31 = true := by decide
  have s32 : small (31 * k) = true := small_of (by omega) (by omega)
  have sb : small 48271 = true := by decide
  have sc : small 7919 = true := by decide
  by_cases hb : (1000000000000000000 : Int) ≤ c
  · have hp : 0 < ns.length := by
      rcases Nat.eq_zero_or_pos ns.length with h | h
      · have := hz (List.length_eq_zero_iff.mp h); omega
      · exact h
    have h20 : 0 ≤ 20 * (k / ns.length) := Int.mul_nonneg (by omega) (Int.ediv_nonneg hk (by omega))
    have hl2 : (ns.length : Int) < 1073741824 := by omega
    by_cases h2 : 0 < c / 2 ^ (20 * (k / (ns.length : Int))).toNat
    · refine ⟨(c / 2 ^ (20 * (k / (ns.length : Int))).toNat) % m, m1 _, m2 _, fun fuel n S => ?_⟩
      rw [call_eq f__law_by rfl]
      simp [B__law_by, hc, -bin_pow, pow18, s31, s32, sb, sc, hb, hp, hl2, s20, h20, h2, hm]
    · refine ⟨((c % 1000003 + 31 * k * k + 1) * 48271 % 999983 * 7919 % 524287) % m, m1 _, m2 _, fun fuel n S => ?_⟩
      rw [call_eq f__law_by rfl]
      simp [B__law_by, hc, -bin_pow, pow18, s31, s32, sb, sc, hb, hp, hl2, s20, h20, h2, hm]
  · refine ⟨((c % 1000003 + 31 * k * k + 1) * 48271 % 999983 * 7919 % 524287) % m, m1 _, m2 _, fun fuel n S => ?_⟩
    rw [call_eq f__law_by rfl]
    simp [B__law_by, hc, -bin_pow, pow18, s31, s32, sb, sc, hb, hm]
theorem sp_next {ns : List Int} {k m : Int} (hl : ns.length < 1073741824) (hk : 0 ≤ k) (hk2 : k + 1 < 2 ^ 50) (hm : 0 < m) :
    ∃ c, 0 ≤ c ∧ c < m ∧ ∀ fuel n S t, getL S t = some [.rl (ns.map .int), .int k] → callN fns fuel (n+3) i__law_next [.ref t, .int m] S = .ok (.int c) (S.set t (.lst [.rl (ns.map .int), .int (k + 1)])) := by
  obtain ⟨c, h0, h1, hc⟩ := sp_by (ns := ns) hl (by omega : 0 ≤ k + 1) hk2 hm
  refine ⟨c, h0, h1, fun fuel n S t ht => ?_⟩
  rw [call_eq f__law_next rfl]
  simp [B__law_next, ht, getL_set (getL_lt ht), atI, ixN, hc]
/-- few draws -/
def Lo (k : Nat) : Prop := k < 1000000
theorem dv_ex (ns : List Int) (k : Nat) (m : Int) : ∃ c : Nat, ns.length ≤ 63 → Lo k → 0 < m → (c : Int) < m ∧ ∀ fuel n S t, getL S t = some [.rl (ns.map .int), .int k] → callN fns fuel (n+3) i__law_next [.ref t, .int m] S = .ok (.int c) (S.set t (.lst [.rl (ns.map .int), .int ((k + 1 : Nat) : Int)])) := by
  by_cases h : ns.length ≤ 63 ∧ Lo k ∧ 0 < m
  · obtain ⟨h1, h2, h3⟩ := h
    unfold Lo at h2
    obtain ⟨c, c0, c1, hc⟩ := sp_next (ns := ns) (k := k) (m := m) (by omega) (by omega) (by omega) h3
    refine ⟨c.toNat, fun _ _ _ => ⟨by omega, fun fuel n S t ht => ?_⟩⟩
    rw [hc fuel n S t ht, Int.toNat_of_nonneg c0]; rfl
  · exact ⟨0, fun a b c => absurd ⟨a, b, c⟩ h⟩
/-- the draw behind place k, below m -/
noncomputable def dv (ns : List Int) (k : Nat) (m : Int) : Nat := Classical.choose (dv_ex ns k m)
theorem dv_lt {ns : List Int} {k : Nat} {m : Int} (h1 : ns.length ≤ 63) (h2 : Lo k) (h3 : 0 < m) : (dv ns k m : Int) < m := (Classical.choose_spec (dv_ex ns k m) h1 h2 h3).1
end Wl

set_option Elab.async false
set_option maxRecDepth 100000
set_option linter.all false
set_option maxHeartbeats 4000000
/-! Sentences: names, hands, parts. -/
namespace Wl
open PySem L2 Dp
variable {S : Store} {n : Nat} {fuel : Nat}
abbrev Nm := List Nat
@[simp] abbrev w_fact : Nm := [102, 97, 99, 116]
@[simp] abbrev w_wish : Nm := [119, 105, 115, 104]
@[simp] abbrev w_not : Nm := [110, 111, 116]
@[simp] abbrev w_and : Nm := [97, 110, 100]
@[simp] abbrev w_or : Nm := [111, 114]
@[simp] abbrev w_some : Nm := [115, 111, 109, 101]
@[simp] abbrev w_every : Nm := [101, 118, 101, 114, 121]
@[simp] abbrev w_least : Nm := [108, 101, 97, 115, 116]
@[simp] abbrev w_most : Nm := [109, 111, 115, 116]
@[simp] abbrev w_show : Nm := [115, 104, 111, 119]
@[simp] abbrev w_on : Nm := [111, 110]
@[simp] abbrev w_back : Nm := [98, 97, 99, 107]
@[simp] abbrev w_one : Nm := [111, 110, 101]
@[simp] abbrev w_pool : Nm := [112, 111, 111, 108]
inductive Stp where
  | on | back | one (h : List Nm) | pool (h : List Nm)
inductive Sen where
  | fact (n : Nm) | wish (n : Nm) | nt (a : Sen) | an (a b : Sen) | orr (a b : Sen) | som (s : Stp) (a : Sen) | evr (s : Stp) (a : Sen) | lst (n : Nm) (a : Sen) | mst (n : Nm) (a : Sen) | shw (h : List Nm) (a b : Sen)
abbrev encH (h : List Nm) : D := .tup (h.map .str)
def encS : Stp → D
  | .on => .tup [.str w_on] | .back => .tup [.str w_back] | .one h => .tup [.str w_one, encH h] | .pool h => .tup [.str w_pool, encH h]
@[simp] def enc : Sen → D
  | .fact n => .tup [.str w_fact, .str n] | .wish n => .tup [.str w_wish, .str n] | .nt a => .tup [.str w_not, enc a] | .an a b => .tup [.str w_and, enc a, enc b] | .orr a b => .tup [.str w_or, enc a, enc b]
  | .som s a => .tup [.str w_some, encS s, enc a] | .evr s a => .tup [.str w_every, encS s, enc a] | .lst n a => .tup [.str w_least, .str n, enc a] | .mst n a => .tup [.str w_most, .str n, enc a] | .shw h a b => .tup [.str w_show, encH h, enc a, enc b]
def parts : Sen → List Sen
  | .fact _ => [] | .wish _ => [] | .nt a => [a] | .an a b => [a, b] | .orr a b => [a, b] | .som _ a => [a] | .evr _ a => [a] | .lst _ a => [a] | .mst _ a => [a] | .shw _ a b => [a, b]
@[simp] def things : Sen → List Sen
  | .fact n => [.fact n] | .wish n => [.wish n] | .nt a => .nt a :: things a | .an a b => .an a b :: (things a ++ things b) | .orr a b => .orr a b :: (things a ++ things b)
  | .som s a => .som s a :: things a | .evr s a => .evr s a :: things a | .lst n a => .lst n a :: things a | .mst n a => .mst n a :: things a | .shw h a b => .shw h a b :: (things a ++ things b)
@[simp] def sz : Sen → Nat
  | .fact _ => 1 | .wish _ => 1 | .nt a => sz a + 1 | .an a b => sz a + sz b + 1 | .orr a b => sz a + sz b + 1 | .som _ a => sz a + 1 | .evr _ a => sz a + 1 | .lst _ a => sz a + 1 | .mst _ a => sz a + 1 | .shw _ a b => sz a + sz b + 1
section
variable {h : List Nm} {x : Nm} {a b : Sen} {st : Stp}
@[simp] theorem encS_on : encS .on = .tup [.str w_on] := rfl
@[simp] theorem encS_back : encS .back = .tup [.str w_back] := rfl
@[simp] theorem encS_one : encS (.one h) = .tup [.str w_one, encH h] := rfl
@[simp] theorem encS_pool : encS (.pool h) = .tup [.str w_pool, encH h] := rfl
@[simp] theorem pa_fact : parts (.fact x) = [] := rfl
@[simp] theorem pa_wish : parts (.wish x) = [] := rfl
@[simp] theorem pa_nt : parts (.nt a) = [a] := rfl
@[simp] theorem pa_an : parts (.an a b) = [a, b] := rfl
@[simp] theorem pa_orr : parts (.orr a b) = [a, b] := rfl
@[simp] theorem pa_som : parts (.som st a) = [a] := rfl
@[simp] theorem pa_evr : parts (.evr st a) = [a] := rfl
@[simp] theorem pa_lst : parts (.lst x a) = [a] := rfl
@[simp] theorem pa_mst : parts (.mst x a) = [a] := rfl
@[simp] theorem pa_shw : parts (.shw h a b) = [a, b] := rfl
end
theorem things_eq (s : Sen) : things s = s :: (parts s).flatMap things := by cases s <;> simp
theorem sz_eq (s : Sen) : sz s = ((parts s).map sz).sum + 1 := by cases s <;> simp
theorem sp_parts_of {s : Sen} : callN fns fuel (n+1) i_parts_of [enc s] S = .ok (.tup ((parts s).map enc)) S := by
  rw [call_eq f_parts_of rfl]; cases s <;> simp [B_parts_of]
def letters : Nm := [97, 98, 99, 100, 101, 102, 103, 104, 105, 106, 107, 108, 109, 110, 111, 112, 113, 114, 115, 116, 117, 118, 119, 120, 121, 122]
def isName (x : Nm) : Bool := decide (1 ≤ x.length) && decide (x.length ≤ 8) && x.all fun c => decide (c ∈ letters)
theorem bls_map {α : Type} (f : α → Bool) : ∀ l : List α, blsOf (l.map fun a => D.bl (f a)) = some (l.map f)
  | [] => rfl
  | a :: l => by simp [bls_map f l]
theorem fm_some {α β : Type} (f : α → β) (l : List α) : l.filterMap (fun a => some (f a)) = l.map f := by simp
theorem sp_is_name {x : Nm} (hl : x.length ≤ 16777216) : ∃ G, callN fns fuel (n+1) i_is_name [.str x] S = .ok (.bl (isName x)) (S ++ G) := by
  rw [call_eq f_is_name rfl]
  simp [B_is_name, hl]
  by_cases h1 : (1 : Int) ≤ x.length
  · by_cases h2 : (x.length : Int) ≤ 8
    · simp [h1, h2]
      rw [comp_pure (fun d => match d with | .str [c] => some (.bl (decide (c ∈ letters))) | _ => none) (x.map fun c => .str [c]) (by simp) (by simpa using hl) (by intro i; simp) (by
        intro d hd
        obtain ⟨c, hc, rfl⟩ := List.mem_map.mp hd
        simp [letters])]
      simp [List.filterMap_map, Function.comp_def, getL_last, bls_map, isName]
      omega
    · simp [h1, h2, isName]; omega
  · simp [h1, isName]; omega
/-- where a list of names is rising -/
def rising : List Nm → Bool
  | a :: b :: r => lexN a b && rising (b :: r)
  | _ => true
theorem rising_ix : ∀ h : List Nm, ((List.range (h.length - 1)).map fun k => lexN (h.getD k []) (h.getD (k + 1) [])).all id = rising h
  | [] => rfl
  | [_] => rfl
  | a :: b :: r => by
    have ih := rising_ix (b :: r)
    simp only [List.length_cons, Nat.add_sub_cancel] at ih ⊢
    rw [List.range_succ_eq_map]
    simp only [List.map_cons, List.map_map, Function.comp_def, List.getD_cons_succ, List.getD_cons_zero, List.all_cons, id] at ih ⊢
    rw [rising, ← ih]
theorem sp_are_rising {h : List Nm} (hl : h.length ≤ 1000) : ∃ G, callN fns fuel (n+1) i_are_rising [encH h] S = .ok (.bl (rising h)) (S ++ G) := by
  rw [call_eq f_are_rising rfl]
  simp [B_are_rising]
  rw [itUp_eq (okI_of (by omega) (by omega)) (okI_of (by omega) (by omega))]
  simp
  rw [comp_pure (fun d => match d with | .int i => some (.bl (lexN (h.getD i.toNat []) (h.getD (i.toNat + 1) []))) | _ => none) (ups 0 ((h.length : Int) - 1).toNat) (by simp) (by simp; omega) (by intro i; simp) (by
    intro d hd
    obtain ⟨i, hi, rfl⟩ := List.getElem_of_mem hd
    obtain ⟨e, hi'⟩ := ups_at (List.getElem?_eq_getElem hi)
    rw [e]
    have e1 : (0 : Int) + (i : Nat) = (i : Nat) := by omega
    have e2 : (i : Int) + 1 = ((i + 1 : Nat) : Int) := by omega
    have h1 : i < h.length := by omega
    have h2 : i + 1 < h.length := by omega
    have a1 : atI (h.map D.str) (i : Int) = some (.str h[i]) := by rw [atI_ok]; simp [h1]
    have a2 : atI (h.map D.str) ((i : Int) + 1) = some (.str h[i + 1]) := by rw [e2, atI_ok]; simp [h2]
    have a3 : ((i : Int) + 1).toNat = i + 1 := by omega
    rw [e1]
    simp [a1, a2, h1, h2, -atn])]
  have e : ((h.length : Int) - 1).toNat = h.length - 1 := by omega
  simp [ups, e, List.filterMap_map, Function.comp_def, getL_last, bls_map]
  simpa using rising_ix h
def isHands (h : List Nm) : Bool := decide (1 ≤ h.length) && decide (h.length ≤ 4) && h.all isName && rising h
end Wl

set_option Elab.async false
set_option maxRecDepth 100000
set_option linter.all false
set_option maxHeartbeats 4000000
namespace Wl
open PySem L2 Dp
variable {S : Store} {n : Nat} {fuel : Nat}
theorem len_name {x : Nm} (h : isName x = true) : 1 ≤ x.length ∧ x.length ≤ 8 := by simp [isName] at h; omega
theorem sp_is_hands {h : List Nm} (hl : h.length ≤ 1000) (hx : ∀ x ∈ h, x.length ≤ 16777216) : ∃ G, callN fns fuel (n+2) i_is_hands [encH h] S = .ok (.bl (isHands h)) (S ++ G) := by
  rw [call_eq f_is_hands rfl]
  simp [B_is_hands]
  by_cases h1 : (1 : Int) ≤ h.length
  · by_cases h2 : (h.length : Int) ≤ 4
    · simp [h1, h2]
      rw [comp_rw (fun d => match d with | .str c => some (.bl (isName c)) | _ => none) (h.map fun c => .str c) (by simp) (by simp; omega) (by intro G i; simp) (by
        intro d hd G
        obtain ⟨c, hc, rfl⟩ := List.mem_map.mp hd
        obtain ⟨G', e⟩ := sp_is_name (fuel := fuel) (n := n) (S := S ++ G) (hx c hc)
        exact ⟨G', by simp [e]⟩)]
      generalize gar _ S = G
      simp [List.filterMap_map, Function.comp_def, bls_map]
      rw [show S ++ (G ++ [O.lst (h.map fun x => D.bl (isName x))]) = (S ++ G) ++ [O.lst (h.map fun x => D.bl (isName x))] by simp]
      cases ha : h.all isName with
      | false => simp [isHands, ha]
      | true =>
        obtain ⟨G', e⟩ := sp_are_rising (fuel := fuel) (n := n) (S := (S ++ G) ++ [O.lst (h.map fun x => D.bl (isName x))]) hl
        refine ⟨G ++ ([O.lst (h.map fun x => D.bl (isName x))] ++ G'), ?_⟩
        simp only [encH, List.append_assoc] at e
        simp [e, isHands, ha]
        omega
    · simp [h1, h2, isHands]; omega
  · simp [h1, isHands]; omega
abbrev Fr := List (Nm × Bool)
def encW (fr : Fr) (bs : List Nm) (sh : Nat) : D := .tup [.tup (fr.map encF), .tup (bs.map .str), .int sh]
theorem sp_can_wish {fr : Fr} {bs : List Nm} {sh : Nat} {x : Nm} (hf : ∀ p ∈ fr, good p.1 = true) (hx : good x = true) : callN fns fuel (n+1) i_can_stand [.tup [.str w_wish, .str x], encW fr bs sh] S = .ok (.bl (decide ((x, false) ∈ fr))) S := by
  rw [call_eq f_can_stand rfl]
  have e := din_F (S := S) (p := (x, false)) hf hx
  simp only [encF] at e
  simp [B_can_stand, encW, e]
theorem sp_can_bind {fr : Fr} {bs : List Nm} {sh : Nat} {x w : Nm} (hw : w = w_least ∨ w = w_most) : callN fns fuel (n+1) i_can_stand [.tup [.str w, .str x], encW fr bs sh] S = .ok (.bl (decide (x ∉ bs) && decide (bs.length < 4))) S := by
  rw [call_eq f_can_stand rfl]
  have e : ((bs.length : Int) < 4) = (bs.length < 4) := propext (by omega)
  rcases hw with rfl | rfl <;> (by_cases h : x ∈ bs <;> simp [B_can_stand, encW, h, e])
theorem sp_can_show {fr : Fr} {bs : List Nm} {sh : Nat} {r : List D} : callN fns fuel (n+1) i_can_stand [.tup (.str w_show :: r), encW fr bs sh] S = .ok (.bl (decide (sh < 3))) S := by
  rw [call_eq f_can_stand rfl]
  simp [B_can_stand, encW]; omega
/-- a thing's own part -/
def hd : Sen → List D
  | .fact x => [.str w_fact, .str x] | .wish x => [.str w_wish, .str x] | .nt _ => [.str w_not] | .an _ _ => [.str w_and] | .orr _ _ => [.str w_or]
  | .som s _ => [.str w_some, encS s] | .evr s _ => [.str w_every, encS s] | .lst x _ => [.str w_least, .str x] | .mst x _ => [.str w_most, .str x] | .shw h _ _ => [.str w_show, encH h]
def flip1 (p : Nm × Bool) : Nm × Bool := (p.1, !p.2)
def wFr : Sen → Fr → Fr
  | .nt _, fr => fr.map flip1 | .lst x _, fr => fr ++ [(x, false)] | .mst x _, fr => fr ++ [(x, false)] | .shw _ _ _, _ => [] | _, fr => fr
def wBs : Sen → List Nm → List Nm
  | .lst x _, bs => bs ++ [x] | .mst x _, bs => bs ++ [x] | _, bs => bs
def wSh : Sen → Nat → Nat
  | .shw _ _ _, sh => sh + 1 | _, sh => sh
theorem sp_within {s : Sen} {fr : Fr} {bs : List Nm} {sh : Nat} (h1 : fr.length ≤ 1000) (h2 : bs.length ≤ 1000) : ∃ G, callN fns fuel (n+1) i_within_it [.tup (hd s), encW fr bs sh] S = .ok (encW (wFr s fr) (wBs s bs) (wSh s sh)) (S ++ G) := by
  rw [call_eq f_within_it rfl]
  have h1' : fr.length + 1 ≤ 16777216 := by omega
  have h2' : bs.length + 1 ≤ 16777216 := by omega
  cases s with
  | nt a =>
    simp [B_within_it, encW, hd, wFr, wBs, wSh]
    rw [comp_pure (fun d => match d with | .tup [x, .bl b] => some (.tup [x, .bl (!b)]) | _ => none) (fr.map encF) (by simp) (by simp; omega) (by intro i; simp) (by
      intro d hd
      obtain ⟨p, hp, rfl⟩ := List.mem_map.mp hd
      simp [encF])]
    simp [List.filterMap_map, Function.comp_def, encF, getL_last, flip1]
  | _ => simp [B_within_it, encW, hd, wFr, wBs, wSh, encF, h1', h2']
end Wl

set_option Elab.async false
set_option maxRecDepth 100000
set_option linter.all false
set_option maxHeartbeats 4000000
namespace Wl
open PySem L2 Dp
variable {S : Store} {n : Nat} {fuel : Nat}
abbrev Rw := Sen × D × Int
def rowD (y : Rw) : D := .tup [enc y.1, y.2.1, .int y.2.2]
def kids (y : Rw) (k : Int) : List Rw := match parts y.1 with
  | [] => [] | [a] => [(a, .int k, 0)] | [a, b] => [(b, .int k, 1), (a, .int k, 0)] | _ => []
theorem kids_things (y : Rw) (k : Int) : (kids y k).reverse.flatMap (fun z => things z.1) = (parts y.1).flatMap things := by
  obtain ⟨s, a, i⟩ := y
  cases s <;> simp [kids]
def cnt (ws : List Rw) : Nat := (ws.map fun z => sz z.1).sum
theorem kids_cnt (y : Rw) (k : Int) : cnt (kids y k) + 1 = sz y.1 := by
  obtain ⟨s, a, i⟩ := y
  cases s <;> simp [kids, cnt] <;> omega
theorem sz_pos (s : Sen) : 1 ≤ sz s := by rw [sz_eq]; omega
theorem len_cnt : ∀ ws : List Rw, ws.length ≤ cnt ws
  | [] => by simp [cnt]
  | w :: ws => by
    have := len_cnt ws; have := sz_pos w.1
    simp [cnt] at *; omega
theorem cnt_app (a b : List Rw) : cnt (a ++ b) = cnt a + cnt b := by simp [cnt]
structure RowInv (s : Sen) (S : Store) (m : Nat) (e : Dp.Env) (S' : Store) : Prop where
  env : ∃ a b c d x y, e = [some (enc s), some (.ref S.length), some (.ref (S.length + 1)), a, b, c, d, x, y]
  st : ∃ fs ws : List Rw, S' = S ++ [.lst (fs.map rowD), .lst (ws.map rowD)] ∧ fs.map (·.1) ++ ws.reverse.flatMap (fun z => things z.1) = things s ∧ m = cnt ws ∧ fs.length + cnt ws ≤ 1000
theorem rows_run {s : Sen} {a b c d x y : Option D} {fs ws' : List Rw} {z : Rw} (l1 : fs.length < 16777216) (l2 : ws'.length < 16777215) : ∃ a' b' c' d' x' y',
    execs (callN fns fuel (n+1)) fuel L1_rows_of [some (enc s), some (.ref S.length), some (.ref (S.length + 1)), a, b, c, d, x, y] (S ++ [.lst (fs.map rowD), .lst ((ws' ++ [z]).map rowD)]) =
      .nx [some (enc s), some (.ref S.length), some (.ref (S.length + 1)), a', b', c', d', x', y'] (S ++ [.lst ((fs ++ [z]).map rowD), .lst ((ws' ++ kids z fs.length).map rowD)]) := by
  obtain ⟨zs, za, zi⟩ := z
  have l3 : ws'.length + 1 < 16777216 := by omega
  have l4 : ws'.length < 16777216 := by omega
  simp [L1_rows_of, rowD, sp_parts_of, l1]
  cases zs <;> simp [itDown, okI, forGo, L2_rows_of, kids, rowD, l4, l3]
theorem rows_turn {s : Sen} {m : Nat} {e : Dp.Env} {S' : Store} (I : RowInv s S (m + 1) e S') : ∃ m' e' S'', m' < m + 1 ∧ execs (callN fns fuel (n+1)) fuel L1_rows_of e S' = .nx e' S'' ∧ RowInv s S m' e' S'' := by
  obtain ⟨⟨a, b, c, d, x, y, rfl⟩, fs, ws, rfl, ht, hm, hb⟩ := I
  have hw : ws ≠ [] := by rintro rfl; simp [cnt] at hm
  obtain ⟨ws', z, rfl⟩ : ∃ ws' z, ws = ws' ++ [z] := ⟨ws.dropLast, ws.getLast hw, (List.dropLast_concat_getLast hw).symm⟩
  have hc : cnt (kids z fs.length) + 1 = sz z.1 := kids_cnt z _
  have h3 : cnt (ws' ++ [z]) = cnt ws' + sz z.1 := by rw [cnt_app]; simp [cnt]
  have h4 := len_cnt ws'
  obtain ⟨a', b', c', d', x', y', hr⟩ := rows_run (n := n) (fuel := fuel) (S := S) (s := s) (a := a) (b := b) (c := c) (d := d) (x := x) (y := y) (fs := fs) (ws' := ws') (z := z) (by omega) (by omega)
  refine ⟨cnt (ws' ++ kids z fs.length), _, _, ?_, hr, ⟨⟨_, _, _, _, _, _, rfl⟩, fs ++ [z], ws' ++ kids z fs.length, rfl, ?_, rfl, ?_⟩⟩
  · rw [cnt_app]; omega
  · rw [← ht]
    simp only [List.map_append, List.map_cons, List.map_nil, List.append_assoc, List.singleton_append, List.reverse_append, List.flatMap_append, kids_things, List.reverse_cons, List.reverse_nil, List.nil_append, List.flatMap_cons, things_eq z.1, List.cons_append]
  · rw [cnt_app]; simp; omega
theorem sp_rows_of {s : Sen} (hs : sz s ≤ 1000) (hf : 1000 < fuel) : ∃ fs : List Rw, ∃ G, callN fns fuel (n+2) i_rows_of [enc s] S = .ok (.ref S.length) (S ++ .lst (fs.map rowD) :: G) ∧ fs.map (·.1) = things s := by
  rw [call_eq f_rows_of rfl]
  simp [B_rows_of]
  obtain ⟨e', S', h1, ⟨⟨a, b, c, d, x, y, rfl⟩, fs, ws, rfl, ht, hm, _⟩, h3⟩ := while_inv (test := ev (callN fns fuel (n+1)) T1_rows_of) (body := execs (callN fns fuel (n+1)) fuel L1_rows_of) (RowInv s S) (k := fuel) (m := sz s) (e := [some (enc s), some (D.ref S.length), some (D.ref (S.length + 1)), none, none, none, none, none, none]) (S := S ++ [.lst [], .lst [.tup [enc s, .non, .int 0]]]) (fun m e S' I => by
    cases m with
    | zero =>
      right
      obtain ⟨⟨a, b, c, d, x, y, rfl⟩, fs, ws, rfl, ht, hm, hb⟩ := I
      have h4 := len_cnt ws
      have : ws = [] := List.length_eq_zero_iff.mp (by omega)
      subst this
      exact ⟨.bl false, _, by simp [T1_rows_of], rfl, ⟨_, _, _, _, _, _, rfl⟩, fs, [], rfl, ht, hm, hb⟩
    | succ m =>
      left
      obtain ⟨m', e', S'', h1, h2, h3⟩ := rows_turn (n := n) (fuel := fuel) I
      obtain ⟨⟨a, b, c, d, x, y, rfl⟩, fs, ws, rfl, ht, hm, hb⟩ := I
      have hw : 0 < ws.length := by
        rcases Nat.eq_zero_or_pos ws.length with h | h
        · have := List.length_eq_zero_iff.mp h; subst this; simp [cnt] at hm
        · exact h
      exact ⟨.bl true, _, by simp [T1_rows_of, hw], rfl, m', e', S'', h1, .inl h2, h3⟩) (by omega) ⟨⟨_, _, _, _, _, _, rfl⟩, [], [(s, .non, 0)], by simp [rowD], by simp, by simp [cnt], by simp [cnt]; omega⟩
  have h4 := len_cnt ws
  have : ws = [] := List.length_eq_zero_iff.mp (by omega)
  subst this
  rw [h1]
  simp
  exact ⟨fs, rfl, by simpa using ht⟩
end Wl

set_option Elab.async false
set_option maxRecDepth 100000
set_option linter.all false
set_option maxHeartbeats 4000000
namespace Wl
open PySem L2 Dp
variable {S : Store} {n : Nat} {fuel : Nat}
theorem sp_things_of {s : Sen} (hs : sz s ≤ 1000) (hf : 1000 < fuel) : ∃ r G, callN fns fuel (n+3) i_things_of [enc s] S = .ok (.ref r) (S ++ G) ∧ getL (S ++ G) r = some ((things s).map enc) := by
  rw [call_eq f_things_of rfl]
  obtain ⟨fs, G, h1, h2⟩ := sp_rows_of (n := n) (S := S) hs hf
  have hl : fs.length ≤ 16777216 := by
    have := congrArg List.length h2
    have hz : ∀ s : Sen, (things s).length = sz s := fun s => by induction s <;> simp [*]
    simp [hz] at this; omega
  simp [B_things_of, h1]
  rw [comp_pure (fun d => match d with | .tup [x, _, _] => some x | _ => none) (fs.map rowD) (by simp) (by simpa using hl) (by intro i; simp) (by
    intro d hd
    obtain ⟨c, hc, rfl⟩ := List.mem_map.mp hd
    simp [rowD])]
  simp [List.filterMap_map, Function.comp_def, rowD]
  refine ⟨(S ++ .lst (fs.map rowD) :: G).length, _, ⟨by simp, rfl⟩, ?_⟩
  rw [show S ++ O.lst (fs.map rowD) :: (G ++ [O.lst (fs.map fun x => enc x.1)]) = (S ++ O.lst (fs.map rowD) :: G) ++ [O.lst (fs.map fun x => enc x.1)] by simp, getL_app0, ← h2]
  simp
def okStp : Stp → Bool
  | .on => true | .back => true | .one h => isHands h | .pool h => isHands h
def Neat : Sen → Prop
  | .fact x => isName x = true | .wish x => isName x = true | .nt a => Neat a | .an a b => Neat a ∧ Neat b | .orr a b => Neat a ∧ Neat b | .som s a => okStp s = true ∧ Neat a | .evr s a => okStp s = true ∧ Neat a
  | .lst x a => isName x = true ∧ Neat a | .mst x a => isName x = true ∧ Neat a | .shw h a b => isHands h = true ∧ Neat a ∧ Neat b
def swds : Stp → List Nm
  | .on => [w_on] | .back => [w_back] | .one h => [w_one, joinL [44] h] | .pool h => [w_pool, joinL [44] h]
/-- a thing's own words -/
def wds : Sen → List Nm
  | .fact x => [w_fact, x] | .wish x => [w_wish, x] | .nt _ => [w_not] | .an _ _ => [w_and] | .orr _ _ => [w_or] | .som s _ => w_some :: swds s | .evr s _ => w_every :: swds s
  | .lst x _ => [w_least, x] | .mst x _ => [w_most, x] | .shw h _ _ => [w_show, joinL [44] h]
theorem strs_map : ∀ l : List Nm, strsOf (l.map .str) = some l
  | [] => rfl
  | a :: l => by simp [strs_map l]
theorem hands_len {h : List Nm} (hh : isHands h = true) : 1 ≤ h.length ∧ h.length ≤ 4 ∧ (h.map (·.length)).sum + h.length ≤ 40 ∧ ∀ x ∈ h, isName x = true := by
  simp only [isHands, Bool.and_eq_true, decide_eq_true_eq, List.all_eq_true] at hh
  obtain ⟨⟨⟨h1, h2⟩, h3⟩, _⟩ := hh
  refine ⟨h1, h2, ?_, h3⟩
  have : ∀ l : List Nm, (∀ x ∈ l, isName x = true) → (l.map (·.length)).sum ≤ 8 * l.length := by
    intro l
    induction l with
    | nil => simp
    | cons x l ih =>
      intro h
      have a := (len_name (h x (.head _))).2
      have b := ih fun y m => h y (.tail _ m)
      simp; omega
  have := this h h3
  omega
theorem sp_words_of {s : Sen} (hs : Neat s) : ∃ r G, callN fns fuel (n+1) i_words_of [enc s] S = .ok (.ref r) (S ++ G) ∧ getL (S ++ G) r = some ((wds s).map .str) := by
  rw [call_eq f_words_of rfl]
  cases s with
  | som st a =>
    have hst := hs.1
    cases st with
    | one h =>
      have hl := (hands_len hst).2.2.1
      have hl' : (h.map (·.length)).sum + h.length ≤ 16777216 := Nat.le_trans hl (by decide)
      simp [B_words_of, strs_map, hl', compGo]
      simp [wds, swds]
      exact ⟨_, _, ⟨rfl, rfl⟩, by simp⟩
    | pool h =>
      have hl := (hands_len hst).2.2.1
      have hl' : (h.map (·.length)).sum + h.length ≤ 16777216 := Nat.le_trans hl (by decide)
      simp [B_words_of, strs_map, hl', compGo]
      simp [wds, swds]
      exact ⟨_, _, ⟨rfl, rfl⟩, by simp⟩
    | _ =>
      simp [B_words_of, compGo]
      simp [wds, swds]
      exact ⟨_, _, ⟨rfl, rfl⟩, by simp⟩
  | evr st a =>
    have hst := hs.1
    cases st with
    | one h =>
      have hl := (hands_len hst).2.2.1
      have hl' : (h.map (·.length)).sum + h.length ≤ 16777216 := Nat.le_trans hl (by decide)
      simp [B_words_of, strs_map, hl', compGo]
      simp [wds, swds]
      exact ⟨_, _, ⟨rfl, rfl⟩, by simp⟩
    | pool h =>
      have hl := (hands_len hst).2.2.1
      have hl' : (h.map (·.length)).sum + h.length ≤ 16777216 := Nat.le_trans hl (by decide)
      simp [B_words_of, strs_map, hl', compGo]
      simp [wds, swds]
      exact ⟨_, _, ⟨rfl, rfl⟩, by simp⟩
    | _ =>
      simp [B_words_of, compGo]
      simp [wds, swds]
      exact ⟨_, _, ⟨rfl, rfl⟩, by simp⟩
  | shw h a b =>
    have hl := (hands_len hs.1).2.2.1
    have hl' : (h.map (·.length)).sum + h.length ≤ 16777216 := Nat.le_trans hl (by decide)
    simp [B_words_of, strs_map, hl']
    exact ⟨S.length, [_], ⟨rfl, rfl⟩, by simp [wds]⟩
  | _ =>
    simp [B_words_of]
    exact ⟨S.length, [_], ⟨rfl, rfl⟩, by simp [wds]⟩
end Wl

set_option Elab.async false
set_option maxRecDepth 100000
set_option linter.all false
set_option maxHeartbeats 4000000
namespace Wl
open PySem L2 Dp
variable {S : Store} {n : Nat} {fuel : Nat}
def words (s : Sen) : List Nm := (things s).flatMap wds
def text (s : Sen) : Nm := joinL [32] (words s)
def wl (ws : List Nm) : Nat := (ws.map (·.length)).sum + ws.length
theorem wl_app (a b : List Nm) : wl (a ++ b) = wl a + wl b := by simp [wl]; omega
theorem things_len (s : Sen) : (things s).length = sz s := by induction s <;> simp [*]
theorem joinH_len : ∀ h : List Nm, (joinL [44] h).length ≤ (h.map (·.length)).sum + h.length
  | [] => by simp [joinL]
  | [x] => by simp [joinL]
  | x :: y :: r => by
    have := joinH_len (y :: r)
    simp [joinL] at *; omega
theorem hands_wl {h : List Nm} (hh : isHands h = true) : (joinL [44] h).length ≤ 40 := Nat.le_trans (joinH_len h) (hands_len hh).2.2.1
theorem swds_wl {st : Stp} (h : okStp st = true) : wl (swds st) ≤ 46 := by
  cases st with
  | on => decide
  | back => decide
  | one h' => have := hands_wl (show isHands h' = true from h); simp [swds, wl]; omega
  | pool h' => have := hands_wl (show isHands h' = true from h); simp [swds, wl]; omega
theorem wds_wl {s : Sen} (h : Neat s) : wl (wds s) ≤ 60 ∧ (wds s).length ≤ 3 := by
  cases s with
  | fact x => have := (len_name h).2; simp [wds, wl]; omega
  | wish x => have := (len_name h).2; simp [wds, wl]; omega
  | lst x a => have := (len_name h.1).2; simp [wds, wl]; omega
  | mst x a => have := (len_name h.1).2; simp [wds, wl]; omega
  | som st a =>
    have h1 := swds_wl h.1
    have h2 : (swds st).length ≤ 2 := by cases st <;> simp [swds]
    have e : wl (w_some :: swds st) = 5 + wl (swds st) := by simp [wl]; omega
    simp only [wds, e, List.length_cons]; omega
  | evr st a =>
    have h1 := swds_wl h.1
    have h2 : (swds st).length ≤ 2 := by cases st <;> simp [swds]
    have e : wl (w_every :: swds st) = 6 + wl (swds st) := by simp [wl]; omega
    simp only [wds, e, List.length_cons]; omega
  | shw h' a b => have := hands_wl h.1; simp [wds, wl]; omega
  | _ => simp [wds, wl]
theorem neat_things : ∀ {s : Sen}, Neat s → ∀ t ∈ things s, Neat t := by
  intro s
  induction s with
  | fact x => intro h t ht; simp at ht; subst ht; exact h
  | wish x => intro h t ht; simp at ht; subst ht; exact h
  | nt a ih => intro h t ht; simp at ht; rcases ht with rfl | ht; exact h; exact ih h t ht
  | an a b iha ihb => intro h t ht; simp at ht; rcases ht with rfl | ht | ht; exact h; exact iha h.1 t ht; exact ihb h.2 t ht
  | orr a b iha ihb => intro h t ht; simp at ht; rcases ht with rfl | ht | ht; exact h; exact iha h.1 t ht; exact ihb h.2 t ht
  | som st a ih => intro h t ht; simp at ht; rcases ht with rfl | ht; exact h; exact ih h.2 t ht
  | evr st a ih => intro h t ht; simp at ht; rcases ht with rfl | ht; exact h; exact ih h.2 t ht
  | lst x a ih => intro h t ht; simp at ht; rcases ht with rfl | ht; exact h; exact ih h.2 t ht
  | mst x a ih => intro h t ht; simp at ht; rcases ht with rfl | ht; exact h; exact ih h.2 t ht
  | shw h' a b iha ihb => intro h t ht; simp at ht; rcases ht with rfl | ht | ht; exact h; exact iha h.2.1 t ht; exact ihb h.2.2 t ht
theorem wl_flat : ∀ l : List Sen, (∀ t ∈ l, Neat t) → wl (l.flatMap wds) ≤ 60 * l.length
  | [], _ => by simp [wl]
  | t :: l, h => by
    have h1 := (wds_wl (h t (.head _))).1
    have h2 := wl_flat l fun u m => h u (.tail _ m)
    rw [List.flatMap_cons, wl_app, List.length_cons]; omega
theorem words_wl {s : Sen} (h : Neat s) : wl (words s) ≤ 60 * sz s := by rw [← things_len]; exact wl_flat _ (neat_things h)
def ShInv (s : Sen) (S : Store) (r : Nat) (i : Nat) (e : Dp.Env) (S' : Store) : Prop :=
  (∃ x, e = [some (enc s), some (.ref S.length), x]) ∧ ∃ G, S' = S ++ .lst ((((things s).take i).flatMap wds).map .str) :: G ∧ getL S' r = some ((things s).map enc)
theorem shown_turn {s : Sen} {r i : Nat} {d : D} {e : Dp.Env} {S' : Store} (hs : Neat s) (hz : sz s ≤ 1000) (hr : r ≠ S.length) (hd : ((things s).map enc)[i]? = some d) (I : ShInv s S r i e S') :
    ∃ e' S'', execs (callN fns fuel (n+1)) fuel L1_shown_sentence (e.set 2 (some d)) S' = .nx e' S'' ∧ ShInv s S r (i + 1) e' S'' := by
  obtain ⟨⟨x, rfl⟩, G, rfl, hg⟩ := I
  rw [List.getElem?_map, Option.map_eq_some_iff] at hd
  obtain ⟨t, ht, rfl⟩ := hd
  have hi : i < (things s).length := (List.getElem?_eq_some_iff.mp ht).1
  have nt : Neat t := neat_things hs t (List.mem_of_getElem? ht)
  obtain ⟨m, G', h1, h2⟩ := sp_words_of (fuel := fuel) (n := n) (S := S ++ .lst ((((things s).take i).flatMap wds).map .str) :: G) nt
  have lw := (wds_wl nt).2
  have lf : (((things s).take i).flatMap wds).length ≤ 60000 := by
    have := wl_flat ((things s).take i) fun u m => neat_things hs u (List.mem_of_mem_take m)
    have l2 : ((things s).take i).length ≤ 1000 := by rw [List.length_take]; have := things_len s; omega
    simp only [wl] at this; omega
  have ll : (((things s).take i).flatMap wds).length + (wds t).length ≤ 16777216 := by omega
  simp only [List.append_assoc, List.cons_append] at h1 h2
  have es : ((things s).take i).flatMap wds ++ wds t = ((things s).take (i + 1)).flatMap wds := by
    rw [List.take_add_one, ht]; simp
  refine ⟨[some (enc s), some (.ref S.length), some (enc t)], S ++ .lst ((((things s).take (i + 1)).flatMap wds).map .str) :: (G ++ G'), ?_, ⟨_, rfl⟩, _, rfl, ?_⟩
  · simp [L1_shown_sentence, h1, h2, -List.map_flatMap, -List.length_flatMap, ll]
    rw [← List.map_append, es]
  · have e1 : S ++ O.lst ((((things s).take (i + 1)).flatMap wds).map .str) :: (G ++ G') = (S ++ O.lst ((((things s).take i).flatMap wds).map .str) :: (G ++ G')).set S.length (.lst ((((things s).take (i + 1)).flatMap wds).map .str)) := by simp
    rw [e1, getL_set_ne hr]
    rw [show S ++ O.lst ((((things s).take i).flatMap wds).map .str) :: (G ++ G') = (S ++ O.lst ((((things s).take i).flatMap wds).map .str) :: G) ++ G' by simp]
    exact getL_grow hg
theorem sp_shown {s : Sen} (hs : Neat s) (hz : sz s ≤ 1000) (hf : 1000 < fuel) : ∃ G, callN fns fuel (n+4) i_shown_sentence [enc s] S = .ok (.str (text s)) (S ++ G) := by
  rw [call_eq f_shown_sentence rfl]
  obtain ⟨r, G, h1, h2⟩ := sp_things_of (n := n) (S := S ++ [.lst []]) hz hf
  have hr : r ≠ S.length := by
    rintro rfl
    rw [getL_app (by simp)] at h2
    rw [things_eq] at h2
    simp at h2
  simp [B_shown_sentence, h1]
  simp only [List.append_assoc, List.singleton_append] at h2
  obtain ⟨e', S', h3, ⟨x, rfl⟩, G', rfl, _⟩ := for_inv (get := fun i S' => Option.map (fun ys => ys[i]?) (getL S' r)) (body := fun d e S2 => execs (callN fns fuel (n+3)) fuel L1_shown_sentence (e.set 2 (some d)) S2) ((things s).map enc) (ShInv s S r)
    (fun i e S' I => by obtain ⟨_, G, rfl, h⟩ := I; rw [h]; rfl)
    (fun i d e S' hd I => by
      obtain ⟨e', S'', a, b⟩ := shown_turn (n := n + 2) (fuel := fuel) hs hz hr hd I
      exact ⟨e', S'', .inl a, b⟩) (k := (things s).length) (i := 0) (e := [some (enc s), some (.ref S.length), none]) (S := S ++ .lst [] :: G) (by simp) ⟨⟨_, rfl⟩, G, by simp, h2⟩
  have w := words_wl hs
  have ll : ((words s).map (·.length)).sum + (words s).length ≤ 16777216 := by
    have : wl (words s) ≤ 16777216 := by omega
    exact this
  have e1 : ((things s).take ((things s).map enc).length).flatMap wds = words s := by simp [words]
  rw [e1] at h3
  simp [h2]
  rw [h3]
  simp [strs_map, ll, text]
end Wl

set_option Elab.async false
set_option maxRecDepth 100000
set_option linter.all false
set_option maxHeartbeats 4000000
namespace Wl
open PySem L2 Dp
variable {S : Store} {n : Nat} {fuel : Nat}
theorem words_ne (s : Sen) : words s ≠ [] := by
  unfold words
  rw [things_eq]
  cases s <;> simp [wds]
theorem joinL_cons {p w : Nm} : ∀ {ws : List Nm}, ws ≠ [] → joinL p (w :: ws) = w ++ p ++ joinL p ws
  | [], h => absurd rfl h
  | _ :: _, _ => rfl
theorem joinL_app {p : Nm} : ∀ {a b : List Nm}, a ≠ [] → b ≠ [] → joinL p (a ++ b) = joinL p a ++ p ++ joinL p b
  | [], _, h, _ => absurd rfl h
  | [x], b, _, hb => joinL_cons hb
  | x :: y :: r, b, _, hb => by
    have ih := joinL_app (p := p) (a := y :: r) (b := b) (by simp) hb
    rw [List.cons_append, joinL_cons (by simp), ih, joinL_cons (ws := y :: r) (by simp)]
    simp
theorem tx_fact {x : Nm} : text (.fact x) = w_fact ++ [32] ++ x := rfl
theorem tx_wish {x : Nm} : text (.wish x) = w_wish ++ [32] ++ x := rfl
theorem tx_nt {a : Sen} : text (.nt a) = w_not ++ [32] ++ text a := by
  unfold text; rw [show words (.nt a) = w_not :: words a from rfl, joinL_cons (words_ne a)]
theorem tx_an {a b : Sen} : text (.an a b) = w_and ++ [32] ++ text a ++ [32] ++ text b := by
  unfold text
  rw [show words (.an a b) = w_and :: (words a ++ words b) by simp [words, wds], joinL_cons (by simp [words_ne]), joinL_app (words_ne a) (words_ne b)]; simp
theorem tx_orr {a b : Sen} : text (.orr a b) = w_or ++ [32] ++ text a ++ [32] ++ text b := by
  unfold text
  rw [show words (.orr a b) = w_or :: (words a ++ words b) by simp [words, wds], joinL_cons (by simp [words_ne]), joinL_app (words_ne a) (words_ne b)]; simp
theorem swds_ne (st : Stp) : swds st ≠ [] := by cases st <;> simp [swds]
theorem tx_som {st : Stp} {a : Sen} : text (.som st a) = w_some ++ [32] ++ joinL [32] (swds st) ++ [32] ++ text a := by
  unfold text
  rw [show words (.som st a) = w_some :: (swds st ++ words a) by simp [words, wds], joinL_cons (by simp [words_ne]), joinL_app (swds_ne st) (words_ne a)]; simp
theorem tx_evr {st : Stp} {a : Sen} : text (.evr st a) = w_every ++ [32] ++ joinL [32] (swds st) ++ [32] ++ text a := by
  unfold text
  rw [show words (.evr st a) = w_every :: (swds st ++ words a) by simp [words, wds], joinL_cons (by simp [words_ne]), joinL_app (swds_ne st) (words_ne a)]; simp
theorem tx_lst {x : Nm} {a : Sen} : text (.lst x a) = w_least ++ [32] ++ x ++ [32] ++ text a := by
  unfold text
  rw [show words (.lst x a) = w_least :: x :: words a by simp [words, wds], joinL_cons (by simp), joinL_cons (words_ne a)]; simp
theorem tx_mst {x : Nm} {a : Sen} : text (.mst x a) = w_most ++ [32] ++ x ++ [32] ++ text a := by
  unfold text
  rw [show words (.mst x a) = w_most :: x :: words a by simp [words, wds], joinL_cons (by simp), joinL_cons (words_ne a)]; simp
theorem tx_shw {h : List Nm} {a b : Sen} : text (.shw h a b) = w_show ++ [32] ++ joinL [44] h ++ [32] ++ text a ++ [32] ++ text b := by
  unfold text
  rw [show words (.shw h a b) = w_show :: joinL [44] h :: (words a ++ words b) by simp [words, wds], joinL_cons (by simp), joinL_cons (by simp [words_ne]), joinL_app (words_ne a) (words_ne b)]; simp
theorem joinW_len : ∀ h : List Nm, (joinL [32] h).length ≤ wl h
  | [] => by simp [joinL, wl]
  | [x] => by simp [joinL, wl]
  | x :: y :: r => by
    have := joinW_len (y :: r)
    simp [joinL, wl] at *; omega
theorem text_len {s : Sen} (h : Neat s) : (text s).length ≤ 60 * sz s := Nat.le_trans (joinW_len _) (words_wl h)
theorem sp_step_words {st : Stp} (h : okStp st = true) : callN fns fuel (n+1) i__law_step_words [encS st] S = .ok (.str (joinL [32] (swds st))) S := by
  rw [call_eq f__law_step_words rfl]
  cases st with
  | on => simp [B__law_step_words, swds, joinL]
  | back => simp [B__law_step_words, swds, joinL]
  | one h' =>
    have hl := (hands_len (show isHands h' = true from h)).2.2.1
    have hl' : (h'.map (·.length)).sum + h'.length ≤ 16777216 := Nat.le_trans hl (by decide)
    have h2 := hands_wl (show isHands h' = true from h)
    have h3 : 1 + (joinL [44] h').length ≤ 16777216 := by omega
    have h4 : 4 + (joinL [44] h').length ≤ 16777216 := by omega
    simp [B__law_step_words, swds, joinL, strs_map, hl', h4]
  | pool h' =>
    have hl := (hands_len (show isHands h' = true from h)).2.2.1
    have hl' : (h'.map (·.length)).sum + h'.length ≤ 16777216 := Nat.le_trans hl (by decide)
    have h2 := hands_wl (show isHands h' = true from h)
    have h4 : 5 + (joinL [44] h').length ≤ 16777216 := by omega
    simp [B__law_step_words, swds, joinL, strs_map, hl', h4]
theorem sp_law_text : ∀ {s : Sen}, Neat s → sz s ≤ 1000 → ∀ {N : Nat}, sz s < N → callN fns fuel (N+1) i__law_text [enc s] S = .ok (.str (text s)) S := by
  intro s
  induction s with
  | fact x =>
    intro h hz N hN
    have := (len_name h).2
    have h1 : 5 + x.length ≤ 16777216 := by omega
    rw [call_eq f__law_text rfl]; simp [B__law_text, tx_fact, h1]
  | wish x =>
    intro h hz N hN
    have := (len_name h).2
    have h1 : 5 + x.length ≤ 16777216 := by omega
    rw [call_eq f__law_text rfl]; simp [B__law_text, tx_wish, h1]
  | nt a ih =>
    intro h hz N hN
    simp [sz] at hz hN
    obtain ⟨N, rfl⟩ : ∃ M, N = M + 1 := ⟨N - 1, by omega⟩
    have e := ih h (by omega) (N := N) (by omega)
    have l := text_len (s := a) h
    have h1 : 4 + (text a).length ≤ 16777216 := by omega
    rw [call_eq f__law_text rfl]; simp [B__law_text, tx_nt, h1, e]
  | an a b iha ihb =>
    intro h hz N hN
    simp [sz] at hz hN
    obtain ⟨N, rfl⟩ : ∃ M, N = M + 1 := ⟨N - 1, by omega⟩
    have e := iha h.1 (by omega) (N := N) (by omega)
    have e' := ihb h.2 (by omega) (N := N) (by omega)
    have l := text_len (s := a) h.1
    have l' := text_len (s := b) h.2
    have k0 : (97 :: 110 :: 100 :: 32 :: ([] : Nm)).length + List.length (text a) ≤ 16777216 := by simp; omega
    have k1 : (97 :: 110 :: 100 :: 32 :: (text a : Nm)).length + 1 ≤ 16777216 := by simp; omega
    have k2 : (97 :: 110 :: 100 :: 32 :: (text a ++ [32] : Nm)).length + List.length (text b) ≤ 16777216 := by simp; omega
    simp at k0 k1 k2
    rw [call_eq f__law_text rfl]; simp [B__law_text, tx_an, e, e', k0, k1, k2]
  | orr a b iha ihb =>
    intro h hz N hN
    simp [sz] at hz hN
    obtain ⟨N, rfl⟩ : ∃ M, N = M + 1 := ⟨N - 1, by omega⟩
    have e := iha h.1 (by omega) (N := N) (by omega)
    have e' := ihb h.2 (by omega) (N := N) (by omega)
    have l := text_len (s := a) h.1
    have l' := text_len (s := b) h.2
    have k0 : (111 :: 114 :: 32 :: ([] : Nm)).length + List.length (text a) ≤ 16777216 := by simp; omega
    have k1 : (111 :: 114 :: 32 :: (text a : Nm)).length + 1 ≤ 16777216 := by simp; omega
    have k2 : (111 :: 114 :: 32 :: (text a ++ [32] : Nm)).length + List.length (text b) ≤ 16777216 := by simp; omega
    simp at k0 k1 k2
    rw [call_eq f__law_text rfl]; simp [B__law_text, tx_orr, e, e', k0, k1, k2]
  | som st a ih =>
    intro h hz N hN
    simp [sz] at hz hN
    obtain ⟨N, rfl⟩ : ∃ M, N = M + 1 := ⟨N - 1, by omega⟩
    have e := ih h.2 (by omega) (N := N) (by omega)
    have l := text_len (s := a) h.2
    have e' := sp_step_words (fuel := fuel) (n := N) (S := S) h.1
    have l' : (joinL [32] (swds st)).length ≤ 46 := Nat.le_trans (joinW_len _) (swds_wl h.1)
    have k0 : (115 :: 111 :: 109 :: 101 :: 32 :: ([] : Nm)).length + List.length (joinL [32] (swds st)) ≤ 16777216 := by simp; omega
    have k1 : (115 :: 111 :: 109 :: 101 :: 32 :: (joinL [32] (swds st) : Nm)).length + 1 ≤ 16777216 := by simp; omega
    have k2 : (115 :: 111 :: 109 :: 101 :: 32 :: (joinL [32] (swds st) ++ [32] : Nm)).length + List.length (text a) ≤ 16777216 := by simp; omega
    simp at k0 k1 k2
    rw [call_eq f__law_text rfl]; simp [B__law_text, tx_som, e, e', k0, k1, k2]
  | evr st a ih =>
    intro h hz N hN
    simp [sz] at hz hN
    obtain ⟨N, rfl⟩ : ∃ M, N = M + 1 := ⟨N - 1, by omega⟩
    have e := ih h.2 (by omega) (N := N) (by omega)
    have l := text_len (s := a) h.2
    have e' := sp_step_words (fuel := fuel) (n := N) (S := S) h.1
    have l' : (joinL [32] (swds st)).length ≤ 46 := Nat.le_trans (joinW_len _) (swds_wl h.1)
    have k0 : (101 :: 118 :: 101 :: 114 :: 121 :: 32 :: ([] : Nm)).length + List.length (joinL [32] (swds st)) ≤ 16777216 := by simp; omega
    have k1 : (101 :: 118 :: 101 :: 114 :: 121 :: 32 :: (joinL [32] (swds st) : Nm)).length + 1 ≤ 16777216 := by simp; omega
    have k2 : (101 :: 118 :: 101 :: 114 :: 121 :: 32 :: (joinL [32] (swds st) ++ [32] : Nm)).length + List.length (text a) ≤ 16777216 := by simp; omega
    simp at k0 k1 k2
    rw [call_eq f__law_text rfl]; simp [B__law_text, tx_evr, e, e', k0, k1, k2]
  | lst x a ih =>
    intro h hz N hN
    simp [sz] at hz hN
    obtain ⟨N, rfl⟩ : ∃ M, N = M + 1 := ⟨N - 1, by omega⟩
    have e := ih h.2 (by omega) (N := N) (by omega)
    have l := text_len (s := a) h.2
    have l' := (len_name h.1).2
    have k0 : (108 :: 101 :: 97 :: 115 :: 116 :: 32 :: ([] : Nm)).length + List.length (x) ≤ 16777216 := by simp; omega
    have k1 : (108 :: 101 :: 97 :: 115 :: 116 :: 32 :: (x : Nm)).length + 1 ≤ 16777216 := by simp; omega
    have k2 : (108 :: 101 :: 97 :: 115 :: 116 :: 32 :: (x ++ [32] : Nm)).length + List.length (text a) ≤ 16777216 := by simp; omega
    simp at k0 k1 k2
    rw [call_eq f__law_text rfl]; simp [B__law_text, tx_lst, e, k0, k1, k2]
  | mst x a ih =>
    intro h hz N hN
    simp [sz] at hz hN
    obtain ⟨N, rfl⟩ : ∃ M, N = M + 1 := ⟨N - 1, by omega⟩
    have e := ih h.2 (by omega) (N := N) (by omega)
    have l := text_len (s := a) h.2
    have l' := (len_name h.1).2
    have k0 : (109 :: 111 :: 115 :: 116 :: 32 :: ([] : Nm)).length + List.length (x) ≤ 16777216 := by simp; omega
    have k1 : (109 :: 111 :: 115 :: 116 :: 32 :: (x : Nm)).length + 1 ≤ 16777216 := by simp; omega
    have k2 : (109 :: 111 :: 115 :: 116 :: 32 :: (x ++ [32] : Nm)).length + List.length (text a) ≤ 16777216 := by simp; omega
    simp at k0 k1 k2
    rw [call_eq f__law_text rfl]; simp [B__law_text, tx_mst, e, k0, k1, k2]
  | shw h' a b iha ihb =>
    intro h hz N hN
    simp [sz] at hz hN
    obtain ⟨N, rfl⟩ : ∃ M, N = M + 1 := ⟨N - 1, by omega⟩
    have e := iha h.2.1 (by omega) (N := N) (by omega)
    have e' := ihb h.2.2 (by omega) (N := N) (by omega)
    have l := text_len (s := a) h.2.1
    have l' := text_len (s := b) h.2.2
    have l2 := hands_wl h.1
    have hl' : (h'.map (·.length)).sum + h'.length ≤ 16777216 := Nat.le_trans (hands_len h.1).2.2.1 (by decide)
    have k0 : (115 :: 104 :: 111 :: 119 :: 32 :: ([] : Nm)).length + List.length (joinL [44] h') ≤ 16777216 := by simp; omega
    have k1 : (115 :: 104 :: 111 :: 119 :: 32 :: (joinL [44] h' : Nm)).length + 1 ≤ 16777216 := by simp; omega
    have k2 : (115 :: 104 :: 111 :: 119 :: 32 :: (joinL [44] h' ++ [32] : Nm)).length + List.length (text a) ≤ 16777216 := by simp; omega
    have k3 : (115 :: 104 :: 111 :: 119 :: 32 :: (joinL [44] h' ++ [32] ++ text a : Nm)).length + 1 ≤ 16777216 := by simp; omega
    have k4 : (115 :: 104 :: 111 :: 119 :: 32 :: (joinL [44] h' ++ [32] ++ text a ++ [32] : Nm)).length + List.length (text b) ≤ 16777216 := by simp; omega
    simp at k0 k1 k2 k3 k4
    rw [call_eq f__law_text rfl]; simp [B__law_text, tx_shw, e, e', strs_map, hl', k0, k1, k2, k3, k4]
end Wl

set_option Elab.async false
set_option maxRecDepth 100000
set_option linter.all false
set_option maxHeartbeats 4000000
namespace Wl
open PySem L2 Dp
variable {S : Store} {n : Nat} {fuel : Nat}
/-- plain things: texts, numbers, tuples of such -/
inductive Pl : Nat → D → Prop where
  | str {k : Nat} (a : Nm) : Pl k (.str a)
  | tup {k : Nat} {xs : List D} : xs.length ≤ 16777216 → (∀ d ∈ xs, Pl k d) → Pl (k + 1) (.tup xs)
theorem Pl.mono {j k : Nat} {d : D} (h : Pl j d) (hk : j ≤ k) : Pl k d := by
  induction h generalizing k with
  | str a => exact .str a
  | tup hl _ ih =>
    obtain ⟨k, rfl⟩ : ∃ m, k = m + 1 := ⟨k - 1, by omega⟩
    exact .tup hl fun d hd => ih d hd (by omega)
theorem sp_kind_s {a : Nm} : callN fns fuel (n+1) i__law_kind [.str a] S = .ok (.ref S.length) (S ++ [.lst ([false, false, true, false].map D.bl)]) := by
  rw [call_eq f__law_kind rfl]; simp [B__law_kind]
theorem sp_kind_t {xs : List D} : callN fns fuel (n+1) i__law_kind [.tup xs] S = .ok (.ref S.length) (S ++ [.lst ([true, false, false, false].map D.bl)]) := by
  rw [call_eq f__law_kind rfl]; simp [B__law_kind]
theorem same_self : ∀ {k : Nat} {d : D}, Pl k d → ∀ {n : Nat} {S : Store}, k + 1 < n → ∃ G, callN fns fuel (n + 1) i__law_same [d, d] S = .ok (.bl true) (S ++ G) := by
  intro k d h
  induction h with
  | str a =>
    intro n S hn
    obtain ⟨n, rfl⟩ : ∃ m, n = m + 1 := ⟨n - 1, by omega⟩
    rw [call_eq f__law_same rfl]
    have e : deq (S ++ [O.lst ([false, false, true, false].map D.bl)] ++ [O.lst ([false, false, true, false].map D.bl)]) (.ref S.length) (.ref (S.length + 1)) = some true := by
      rw [deq_bls (l := [false, false, true, false]) (r := [false, false, true, false]) (by simp) (by simp)]; rfl
    simp at e
    simp [B__law_same, sp_kind_s, e]
  | tup hl hx ih =>
    rename_i k xs
    intro n S hn
    obtain ⟨n, rfl⟩ : ∃ m, n = m + 1 := ⟨n - 1, by omega⟩
    rw [call_eq f__law_same rfl]
    have e : deq (S ++ [O.lst ([true, false, false, false].map D.bl)] ++ [O.lst ([true, false, false, false].map D.bl)]) (.ref S.length) (.ref (S.length + 1)) = some true := by
      rw [deq_bls (l := [true, false, false, false]) (r := [true, false, false, false]) (by simp) (by simp)]; rfl
    simp at e
    simp [B__law_same, sp_kind_t, e, it_zip_tt]
    rw [comp_rw (fun _ => some (.bl true)) ((xs.zip xs).map fun p => D.tup [p.1, p.2]) (by simp) (by simpa using hl) (by intro G i; simp) (by
      intro d hd G
      obtain ⟨p, hp, rfl⟩ := List.mem_map.mp hd
      obtain ⟨G', e⟩ := ih p.1 (List.of_mem_zip hp).1 (n := n) (S := S ++ [O.lst [D.bl true, D.bl false, D.bl false, D.bl false], O.lst [D.bl true, D.bl false, D.bl false, D.bl false]] ++ G) (by omega)
      have hpe : p.2 = p.1 := by
        obtain ⟨i, hi, rfl⟩ := List.getElem_of_mem hp
        simp
      simp only [List.append_assoc, List.cons_append, List.nil_append] at e
      exact ⟨G', by simp [hpe, e]⟩)]
    generalize gar _ _ = G
    simp
    rw [din_flatR (xs := List.map (fun _ => D.bl true) (xs.zip xs)) (by simp [Function.comp_def]) rfl (by simp)]
    simp
theorem pl_hands {h : List Nm} {k : Nat} (hh : isHands h = true) : Pl (k + 1) (encH h) := .tup (by have := (hands_len hh).2.1; simp; omega) fun d hd => by
  obtain ⟨x, _, rfl⟩ := List.mem_map.mp hd
  exact .str x
theorem pl_stp {st : Stp} {k : Nat} (h : okStp st = true) : Pl (k + 2) (encS st) := by
  cases st with
  | on => exact .tup (by simp) fun d hd => by simp at hd; subst hd; exact .str _
  | back => exact .tup (by simp) fun d hd => by simp at hd; subst hd; exact .str _
  | one h' => exact .tup (by simp) fun d hd => by simp at hd; rcases hd with rfl | rfl; exact .str _; exact pl_hands h
  | pool h' => exact .tup (by simp) fun d hd => by simp at hd; rcases hd with rfl | rfl; exact .str _; exact pl_hands h
theorem pl_enc : ∀ {s : Sen}, Neat s → Pl (sz s + 2) (enc s) := by
  intro s
  induction s with
  | fact x => intro h; exact .tup (by simp) fun d hd => by simp at hd; rcases hd with rfl | rfl <;> exact .str _
  | wish x => intro h; exact .tup (by simp) fun d hd => by simp at hd; rcases hd with rfl | rfl <;> exact .str _
  | nt a ih => intro h; exact .tup (by simp) fun d hd => by simp at hd; rcases hd with rfl | rfl; exact .str _; exact (ih h).mono (by simp)
  | an a b iha ihb => intro h; exact .tup (by simp) fun d hd => by simp at hd; rcases hd with rfl | rfl | rfl; exact .str _; exact (iha h.1).mono (by simp only [sz]; omega); exact (ihb h.2).mono (by simp only [sz]; omega)
  | orr a b iha ihb => intro h; exact .tup (by simp) fun d hd => by simp at hd; rcases hd with rfl | rfl | rfl; exact .str _; exact (iha h.1).mono (by simp only [sz]; omega); exact (ihb h.2).mono (by simp only [sz]; omega)
  | som st a ih => intro h; exact .tup (by simp) fun d hd => by simp at hd; rcases hd with rfl | rfl | rfl; exact .str _; exact pl_stp h.1; exact (ih h.2).mono (by simp [sz])
  | evr st a ih => intro h; exact .tup (by simp) fun d hd => by simp at hd; rcases hd with rfl | rfl | rfl; exact .str _; exact pl_stp h.1; exact (ih h.2).mono (by simp [sz])
  | lst x a ih => intro h; exact .tup (by simp) fun d hd => by simp at hd; rcases hd with rfl | rfl | rfl; exact .str _; exact .str _; exact (ih h.2).mono (by simp [sz])
  | mst x a ih => intro h; exact .tup (by simp) fun d hd => by simp at hd; rcases hd with rfl | rfl | rfl; exact .str _; exact .str _; exact (ih h.2).mono (by simp [sz])
  | shw h' a b iha ihb => intro h; exact .tup (by simp) fun d hd => by simp at hd; rcases hd with rfl | rfl | rfl | rfl; exact .str _; exact pl_hands h.1; exact (iha h.2.1).mono (by simp only [sz]; omega); exact (ihb h.2.2).mono (by simp only [sz]; omega)
end Wl

set_option Elab.async false
set_option maxRecDepth 100000
set_option linter.all false
set_option maxHeartbeats 4000000
/-! Reading. -/
namespace Wl
open PySem L2 Dp
variable {S : Store} {n : Nat} {fuel : Nat}
/-- the reader's tape: words, place, things -/
structure Tp (S : Store) (t u : Nat) (ws : List Nm) (p c : Nat) : Prop where
  tp : getL S t = some [.ref u, .int p, .int c]
  wd : getL S u = some (ws.map .str)
  ne : u ≠ t
def adv (S : Store) (t u p c : Nat) (G : Store) : Store := (S ++ G).set t (.lst [.ref u, .int p, .int c])
variable {t u p c p' c' : Nat} {ws r : List Nm} {x : Nm} {G G' : Store}
theorem Tp.adv (T : Tp S t u ws p c) : Tp (adv S t u p' c' G) t u ws p' c' := by
  have h1 := getL_lt T.tp
  have h2 := getL_lt T.wd
  refine ⟨?_, ?_, T.ne⟩
  · unfold Wl.adv; rw [getL_set (by simp; omega)]
  · unfold Wl.adv; rw [getL_set_ne T.ne, getL_app h2]; exact T.wd
theorem adv_adv (h : t < S.length) : adv (adv S t u p c G) t u p' c' G' = adv S t u p' c' (G ++ G') := by
  unfold adv
  rw [set_app h, List.append_assoc, set_app (by simp; omega), List.set_set, ← set_app h]
theorem adv_app (h : t < S.length) : adv S t u p c G ++ G' = adv S t u p c (G ++ G') := by
  unfold adv; rw [← List.append_assoc, set_app (T := G') (by simp; omega)]
theorem adv_of_app : adv (S ++ G) t u p c G' = adv S t u p c (G ++ G') := by unfold adv; rw [List.append_assoc]
theorem Tp.app (T : Tp S t u ws p c) : Tp (S ++ G) t u ws p c := ⟨getL_grow T.tp, getL_grow T.wd, T.ne⟩
theorem adv_lt (h : t < S.length) : t < (adv S t u p c G).length := by unfold adv; simp; omega
theorem drop_get {a : Nm} (h : ws.drop p = a :: r) : ws[p]? = some a ∧ p < ws.length ∧ ws.drop (p + 1) = r := by
  have h1 : p < ws.length := by
    rcases Nat.lt_or_ge p ws.length with h1 | h1
    · exact h1
    · rw [List.drop_eq_nil_of_le h1] at h; cases h
  rw [List.drop_eq_getElem_cons h1] at h
  cases h
  exact ⟨List.getElem?_eq_getElem h1, h1, rfl⟩
theorem sp_next_word (T : Tp S t u ws p c) (h : ws.drop p = x :: r) : callN fns fuel (n+1) i_next_word [.ref t] S = .ok (.str x) S := by
  obtain ⟨h1, h2, _⟩ := drop_get h
  have h3 : ¬ ((ws.length : Int) ≤ p) := by omega
  rw [call_eq f_next_word rfl]
  simp [B_next_word, T.tp, T.wd, h3, h1]
theorem name_ok {x : Nm} (h : isName x = true) : x.length ≤ 16777216 := by have := (len_name h).2; omega
theorem set_adv (T : Tp S t u ws p c) : (S ++ G).set t (.lst [.ref u, .int ((p : Int) + 1), .int c]) = adv S t u (p + 1) c G := by unfold adv; simp
theorem sp_read_name (T : Tp S t u ws p c) (h : ws.drop p = x :: r) (hx : isName x = true) : ∃ G, callN fns fuel (n+2) i_read_name [.ref t] S = .ok (.str x) (adv S t u (p + 1) c G) := by
  obtain ⟨G, e⟩ := sp_is_name (fuel := fuel) (n := n) (S := S) (name_ok hx)
  rw [hx] at e
  refine ⟨G, ?_⟩
  rw [call_eq f_read_name rfl]
  simp [B_read_name, sp_next_word T h, e, (T.app (G := G)).tp, ixN, set_adv T]
theorem spl_go {c : Nat} : ∀ (w acc : Nm) (rest : List Nat), c ∉ w → spl1 c acc (w ++ c :: rest) = (acc ++ w) :: spl1 c [] rest
  | [], acc, rest, _ => by simp [spl1]
  | a :: w, acc, rest, h => by
    have h1 : a ≠ c := fun e => h (by simp [e])
    have h2 : c ∉ w := fun e => h (by simp [e])
    rw [List.cons_append, spl1, if_neg h1, spl_go w (acc ++ [a]) rest h2]; simp
theorem spl_end {c : Nat} : ∀ (w acc : Nm), c ∉ w → spl1 c acc w = [acc ++ w]
  | [], acc, _ => by simp [spl1]
  | a :: w, acc, h => by
    have h1 : a ≠ c := fun e => h (by simp [e])
    have h2 : c ∉ w := fun e => h (by simp [e])
    rw [spl1, if_neg h1, spl_end w (acc ++ [a]) h2]; simp
theorem spl_join {c : Nat} : ∀ {ws : List Nm}, ws ≠ [] → (∀ w ∈ ws, c ∉ w) → spl1 c [] (joinL [c] ws) = ws
  | [], h, _ => absurd rfl h
  | [w], _, h => by simp [joinL, spl_end w [] (h w (by simp))]
  | w :: v :: r, _, h => by
    rw [joinL_cons (by simp)]
    rw [show w ++ [c] ++ joinL [c] (v :: r) = w ++ c :: joinL [c] (v :: r) by simp, spl_go w [] _ (h w (by simp)), spl_join (by simp) fun z hz => h z (.tail _ hz)]
    simp
theorem name_not {x : Nm} {k : Nat} (h : isName x = true) (hk : k ∉ letters) : k ∉ x := by
  intro hm
  simp only [isName, Bool.and_eq_true, List.all_eq_true, decide_eq_true_eq] at h
  exact hk (h.2 k hm)
theorem sp_read_hands {h : List Nm} (T : Tp S t u ws p c) (hd : ws.drop p = joinL [44] h :: r) (hh : isHands h = true) : ∃ G, callN fns fuel (n+3) i_read_hands [.ref t] S = .ok (encH h) (adv S t u (p + 1) c G) := by
  obtain ⟨l1, l2, l3, l4⟩ := hands_len hh
  have w := hands_wl hh
  have hne : h ≠ [] := by rintro rfl; simp at l1
  have hsp : spl1 44 [] (joinL [44] h) = h := spl_join hne fun x hx => name_not (l4 x hx) (by decide)
  obtain ⟨G, e⟩ := sp_is_hands (fuel := fuel) (n := n) (S := S ++ [O.lst (h.map .str)]) (h := h) (by omega) fun x hx => name_ok (l4 x hx)
  rw [hh] at e
  simp only [List.append_assoc, List.cons_append, List.nil_append] at e
  have lw : (joinL [44] h).length + 2 ≤ 16777216 := by omega
  simp at lw
  refine ⟨O.lst (h.map .str) :: G, ?_⟩
  rw [call_eq f_read_hands rfl]
  simp [B_read_hands, sp_next_word T hd, e, hsp, lw, (T.app (G := O.lst (h.map .str) :: G)).tp, ixN, set_adv T]
theorem sp_read_step {st : Stp} (T : Tp S t u ws p c) (hd : ws.drop p = swds st ++ r) (hs : okStp st = true) : ∃ G, callN fns fuel (n+4) i_read_step [.ref t] S = .ok (encS st) (adv S t u (p + (swds st).length) c G) := by
  have hl := getL_lt T.tp
  cases st with
  | on =>
    refine ⟨[], ?_⟩
    rw [call_eq f_read_step rfl]
    simp [B_read_step, sp_next_word T (show ws.drop p = w_on :: r from hd), T.tp, ixN, adv, swds]
  | back =>
    refine ⟨[], ?_⟩
    rw [call_eq f_read_step rfl]
    simp [B_read_step, sp_next_word T (show ws.drop p = w_back :: r from hd), T.tp, ixN, adv, swds]
  | one h =>
    have hd' : ws.drop p = w_one :: joinL [44] h :: r := hd
    have T' : Tp (adv S t u (p + 1) c []) t u ws (p + 1) c := T.adv
    obtain ⟨G, e⟩ := sp_read_hands (fuel := fuel) (n := n) T' (drop_get hd').2.2 hs
    refine ⟨G, ?_⟩
    rw [adv_adv hl] at e
    rw [call_eq f_read_step rfl]
    have e0 : S.set t (.lst [.ref u, .int ((p : Int) + 1), .int c]) = adv S t u (p + 1) c [] := by unfold adv; simp
    simp [B_read_step, sp_next_word T hd', T.tp, ixN, e0, e, swds]
  | pool h =>
    have hd' : ws.drop p = w_pool :: joinL [44] h :: r := hd
    have T' : Tp (adv S t u (p + 1) c []) t u ws (p + 1) c := T.adv
    obtain ⟨G, e⟩ := sp_read_hands (fuel := fuel) (n := n) T' (drop_get hd').2.2 hs
    refine ⟨G, ?_⟩
    rw [adv_adv hl] at e
    rw [call_eq f_read_step rfl]
    have e0 : S.set t (.lst [.ref u, .int ((p : Int) + 1), .int c]) = adv S t u (p + 1) c [] := by unfold adv; simp
    simp [B_read_step, sp_next_word T hd', T.tp, ixN, e0, e, swds]
end Wl

set_option Elab.async false
set_option maxRecDepth 100000
set_option linter.all false
set_option maxHeartbeats 4000000
namespace Wl
open PySem L2 Dp
variable {S : Store} {n : Nat} {fuel : Nat} {t u p c p' c' : Nat} {ws r : List Nm} {x : Nm} {G G' : Store}
/-- where a sentence can stand -/
def Ok : Sen → Fr → List Nm → Nat → Prop
  | .fact x, _, _, _ => isName x = true
  | .wish x, fr, _, _ => isName x = true ∧ (x, false) ∈ fr
  | .nt a, fr, bs, sh => Ok a (fr.map flip1) bs sh
  | .an a b, fr, bs, sh => Ok a fr bs sh ∧ Ok b fr bs sh
  | .orr a b, fr, bs, sh => Ok a fr bs sh ∧ Ok b fr bs sh
  | .som st a, fr, bs, sh => okStp st = true ∧ Ok a fr bs sh
  | .evr st a, fr, bs, sh => okStp st = true ∧ Ok a fr bs sh
  | .lst x a, fr, bs, sh => isName x = true ∧ x ∉ bs ∧ bs.length < 4 ∧ Ok a (fr ++ [(x, false)]) (bs ++ [x]) sh
  | .mst x a, fr, bs, sh => isName x = true ∧ x ∉ bs ∧ bs.length < 4 ∧ Ok a (fr ++ [(x, false)]) (bs ++ [x]) sh
  | .shw h a b, _, bs, sh => isHands h = true ∧ sh < 3 ∧ Ok a [] bs (sh + 1) ∧ Ok b [] bs (sh + 1)
theorem ok_neat : ∀ {s : Sen} {fr : Fr} {bs : List Nm} {sh : Nat}, Ok s fr bs sh → Neat s := by
  intro s
  induction s with
  | fact x => intro _ _ _ h; exact h
  | wish x => intro _ _ _ h; exact h.1
  | nt a ih => intro _ _ _ h; exact ih h
  | an a b iha ihb => intro _ _ _ h; exact ⟨iha h.1, ihb h.2⟩
  | orr a b iha ihb => intro _ _ _ h; exact ⟨iha h.1, ihb h.2⟩
  | som st a ih => intro _ _ _ h; exact ⟨h.1, ih h.2⟩
  | evr st a ih => intro _ _ _ h; exact ⟨h.1, ih h.2⟩
  | lst x a ih => intro _ _ _ h; exact ⟨h.1, ih h.2.2.2⟩
  | mst x a ih => intro _ _ _ h; exact ⟨h.1, ih h.2.2.2⟩
  | shw h' a b iha ihb => intro _ _ _ h; exact ⟨h.1, iha h.2.2.1, ihb h.2.2.2⟩
theorem ok_less : ∀ {s : Sen} {fr : Fr} {bs : List Nm} {sh sh' : Nat}, sh' ≤ sh → Ok s fr bs sh → Ok s fr bs sh' := by
  intro s
  induction s with
  | fact x => intro _ _ _ _ _ h; exact h
  | wish x => intro _ _ _ _ _ h; exact h
  | nt a ih => intro _ _ _ _ l h; exact ih l h
  | an a b iha ihb => intro _ _ _ _ l h; exact ⟨iha l h.1, ihb l h.2⟩
  | orr a b iha ihb => intro _ _ _ _ l h; exact ⟨iha l h.1, ihb l h.2⟩
  | som st a ih => intro _ _ _ _ l h; exact ⟨h.1, ih l h.2⟩
  | evr st a ih => intro _ _ _ _ l h; exact ⟨h.1, ih l h.2⟩
  | lst x a ih => intro _ _ _ _ l h; exact ⟨h.1, h.2.1, h.2.2.1, ih l h.2.2.2⟩
  | mst x a ih => intro _ _ _ _ l h; exact ⟨h.1, h.2.1, h.2.2.1, ih l h.2.2.2⟩
  | shw h' a b iha ihb => intro _ _ _ _ l h; exact ⟨h.1, by have := h.2.1; omega, iha (by omega) h.2.2.1, ihb (by omega) h.2.2.2⟩
def keysW : List Nm := [w_fact, w_wish, w_not, w_and, w_or, w_some, w_every, w_least, w_most, w_show]
theorem sp_begin {k : Nat} (T : Tp S t u ws p c) (hd : ws.drop p = x :: r) (hk : getL S k = some (keysW.map .str)) (hx : x ∈ keysW) (hc : c < 60) :
    callN fns fuel (n+2) i_begin_thing [.ref t, .ref k, .int 60] S = .ok (.str x) (adv S t u (p + 1) (c + 1) []) := by
  have hl := getL_lt T.tp
  have e := din_flatR (d := .str x) hk rfl (by simp)
  have hc' : ((c : Int) == 60) = false := by simp; omega
  have hx' : decide (x ∈ keysW) = true := by simpa using hx
  rw [any_str, hx'] at e
  rw [call_eq f_begin_thing rfl]
  simp [B_begin_thing, sp_next_word T hd, e, T.tp, ixN, hc', hl, adv]
theorem good_name {x : Nm} (h : isName x = true) : good x = true := by
  simp only [isName, Bool.and_eq_true, List.all_eq_true, decide_eq_true_eq] at h
  simp only [good, List.all_eq_true, decide_eq_true_eq]
  intro a ha
  have h2 := h.2 a ha
  have : ∀ c ∈ letters, c < 1114112 := by decide
  exact this a h2
theorem sp_bind_wish {fr : Fr} {bs : List Nm} {sh : Nat} (T : Tp S t u ws p c) (hd : ws.drop p = x :: r) (hx : isName x = true) (hf : ∀ q ∈ fr, isName q.1 = true) (hm : (x, false) ∈ fr) :
    ∃ G, callN fns fuel (n+3) i_read_binding [.ref t, .str w_wish, encW fr bs sh] S = .ok (.tup [.str w_wish, .str x]) (adv S t u (p + 1) c G) := by
  obtain ⟨G, e⟩ := sp_is_name (fuel := fuel) (n := n + 1) (S := S) (name_ok hx)
  rw [hx] at e
  have e2 := sp_can_wish (fuel := fuel) (n := n + 1) (S := S ++ G) (bs := bs) (sh := sh) (fun q hq => good_name (hf q hq)) (good_name hx)
  rw [decide_eq_true hm] at e2
  refine ⟨G, ?_⟩
  rw [call_eq f_read_binding rfl]
  simp at e2
  simp [B_read_binding, sp_next_word T hd, e, e2, (T.app (G := G)).tp, ixN, set_adv T]
theorem sp_bind_bind {fr : Fr} {bs : List Nm} {sh : Nat} {w : Nm} (hw : w = w_least ∨ w = w_most) (T : Tp S t u ws p c) (hd : ws.drop p = x :: r) (hx : isName x = true) (hb : x ∉ bs) (hl : bs.length < 4) :
    ∃ G, callN fns fuel (n+3) i_read_binding [.ref t, .str w, encW fr bs sh] S = .ok (.tup [.str w, .str x]) (adv S t u (p + 1) c G) := by
  obtain ⟨G, e⟩ := sp_is_name (fuel := fuel) (n := n + 1) (S := S) (name_ok hx)
  rw [hx] at e
  have e2 := sp_can_bind (fuel := fuel) (n := n + 1) (S := S ++ G) (fr := fr) (bs := bs) (sh := sh) (x := x) hw
  have : (decide (x ∉ bs) && decide (bs.length < 4)) = true := by simp [hb, hl]
  rw [this] at e2
  refine ⟨G, ?_⟩
  rw [call_eq f_read_binding rfl]
  simp [B_read_binding, sp_next_word T hd, e, e2, (T.app (G := G)).tp, ixN, set_adv T]
end Wl

set_option Elab.async false
set_option maxRecDepth 100000
set_option linter.all false
set_option maxHeartbeats 4000000
namespace Wl
open PySem L2 Dp
variable {S : Store} {n : Nat} {fuel : Nat} {t u p c p' c' : Nat} {ws r : List Nm} {x : Nm} {G G' : Store} {fr : Fr} {bs : List Nm} {sh : Nat}
theorem head_begin {w : Nm} (T : Tp S t u ws p c) (hd : ws.drop p = w :: r) (hx : w ∈ keysW) (hc : c < 60) :
    callN fns fuel (n+2) i_begin_thing [.ref t, .ref S.length, .int 60] (S ++ [O.lst (keysW.map .str)]) = .ok (.str w) (adv S t u (p + 1) (c + 1) [O.lst (keysW.map .str)]) := by
  have e := sp_begin (fuel := fuel) (n := n) (T.app (G := [O.lst (keysW.map .str)])) hd (k := S.length) (by simp) hx hc
  rw [adv_of_app] at e
  simpa using e
theorem sp_read_head {s : Sen} (ok : Ok s fr bs sh) (hf : ∀ q ∈ fr, isName q.1 = true) (T : Tp S t u ws p c) (hd0 : ws.drop p = wds s ++ r) (hc : c < 60) :
    ∃ G, callN fns fuel (n+5) i_read_head [.ref t, encW fr bs sh] S = .ok (.tup (hd s)) (adv S t u (p + (wds s).length) (c + 1) G) := by
  obtain ⟨K, hK⟩ : ∃ K, K = O.lst (keysW.map D.str) := ⟨_, rfl⟩
  have hK' := hK.symm
  simp [keysW] at hK'
  have hl := getL_lt T.tp
  have bsl : ((bs.length : Int) == 4) = decide (bs.length = 4) := by rw [Bool.eq_iff_iff]; simp; omega
  have T' : ∀ {w : Nm} {r' : List Nm}, ws.drop p = w :: r' → Tp (adv S t u (p + 1) (c + 1) [K]) t u ws (p + 1) (c + 1) := fun _ => T.adv
  have eB : ∀ {w : Nm} {r' : List Nm}, ws.drop p = w :: r' → w ∈ keysW → callN fns fuel (n+4) i_begin_thing [.ref t, .ref S.length, .int 60] (S ++ [K]) = .ok (.str w) (adv S t u (p + 1) (c + 1) [K]) := fun h1 h2 => by
    rw [hK]; exact head_begin (n := n + 2) T h1 h2 hc
  rw [call_eq f_read_head rfl]
  cases s with
  | fact x =>
    have h1 : ws.drop p = w_fact :: x :: r := hd0
    have e1 := eB h1 (by decide)
    obtain ⟨G, e2⟩ := sp_read_name (fuel := fuel) (n := n + 2) (T' h1) (drop_get h1).2.2 ok
    rw [adv_adv hl] at e2
    simp at e1
    simp [B_read_head, hK', e1, e2, encW, hd, wds]
    exact ⟨_, rfl⟩
  | wish x =>
    have h1 : ws.drop p = w_wish :: x :: r := hd0
    have e1 := eB h1 (by decide)
    obtain ⟨G, e2⟩ := sp_bind_wish (fuel := fuel) (n := n + 1) (fr := fr) (bs := bs) (sh := sh) (T' h1) (drop_get h1).2.2 ok.1 hf ok.2
    rw [adv_adv hl] at e2
    simp [encW] at e1 e2
    simp [B_read_head, hK', e1, e2, encW, hd, wds]
    exact ⟨_, rfl⟩
  | nt a =>
    have h1 : ws.drop p = w_not :: r := hd0
    have e1 := eB h1 (by decide)
    simp at e1
    simp [B_read_head, hK', e1, encW, hd, wds]
    exact ⟨_, rfl⟩
  | an a b =>
    have h1 : ws.drop p = w_and :: r := hd0
    have e1 := eB h1 (by decide)
    simp at e1
    simp [B_read_head, hK', e1, encW, hd, wds]
    exact ⟨_, rfl⟩
  | orr a b =>
    have h1 : ws.drop p = w_or :: r := hd0
    have e1 := eB h1 (by decide)
    simp at e1
    simp [B_read_head, hK', e1, encW, hd, wds]
    exact ⟨_, rfl⟩
  | som st a =>
    have h1 : ws.drop p = w_some :: (swds st ++ r) := hd0
    have e1 := eB h1 (by decide)
    obtain ⟨G, e2⟩ := sp_read_step (fuel := fuel) (n := n) (T' h1) (drop_get h1).2.2 ok.1
    rw [adv_adv hl] at e2
    simp at e1
    simp [B_read_head, hK', e1, e2, encW, hd, wds]
    exact ⟨K :: G, by rw [show p + 1 + (swds st).length = p + ((swds st).length + 1) by omega]⟩
  | evr st a =>
    have h1 : ws.drop p = w_every :: (swds st ++ r) := hd0
    have e1 := eB h1 (by decide)
    obtain ⟨G, e2⟩ := sp_read_step (fuel := fuel) (n := n) (T' h1) (drop_get h1).2.2 ok.1
    rw [adv_adv hl] at e2
    simp at e1
    simp [B_read_head, hK', e1, e2, encW, hd, wds]
    exact ⟨K :: G, by rw [show p + 1 + (swds st).length = p + ((swds st).length + 1) by omega]⟩
  | lst x a =>
    have h1 : ws.drop p = w_least :: x :: r := hd0
    have e1 := eB h1 (by decide)
    obtain ⟨G, e2⟩ := sp_bind_bind (fuel := fuel) (n := n + 1) (fr := fr) (bs := bs) (sh := sh) (.inl rfl) (T' h1) (drop_get h1).2.2 ok.1 ok.2.1 ok.2.2.1
    rw [adv_adv hl] at e2
    have hb : ¬ bs.length = 4 := by have := ok.2.2.1; omega
    simp [encW] at e1 e2
    simp [B_read_head, hK', e1, e2, encW, hd, wds, bsl, hb]
    exact ⟨_, rfl⟩
  | mst x a =>
    have h1 : ws.drop p = w_most :: x :: r := hd0
    have e1 := eB h1 (by decide)
    obtain ⟨G, e2⟩ := sp_bind_bind (fuel := fuel) (n := n + 1) (fr := fr) (bs := bs) (sh := sh) (.inr rfl) (T' h1) (drop_get h1).2.2 ok.1 ok.2.1 ok.2.2.1
    rw [adv_adv hl] at e2
    have hb : ¬ bs.length = 4 := by have := ok.2.2.1; omega
    simp [encW] at e1 e2
    simp [B_read_head, hK', e1, e2, encW, hd, wds, bsl, hb]
    exact ⟨_, rfl⟩
  | shw h a b =>
    have h1 : ws.drop p = w_show :: joinL [44] h :: r := hd0
    have e1 := eB h1 (by decide)
    obtain ⟨G, e2⟩ := sp_read_hands (fuel := fuel) (n := n + 1) (T' h1) (drop_get h1).2.2 ok.1
    rw [adv_adv hl] at e2
    have e3 := sp_can_show (fuel := fuel) (n := n + 3) (S := adv S t u (p + 1) (c + 1) [K]) (fr := fr) (bs := bs) (sh := sh) (r := [])
    rw [decide_eq_true ok.2.1] at e3
    simp [encW] at e1 e2 e3
    simp [B_read_head, hK', e1, e2, e3, encW, hd, wds]
    exact ⟨_, rfl⟩
end Wl

set_option Elab.async false
set_option maxRecDepth 100000
set_option linter.all false
set_option maxHeartbeats 4000000
namespace Wl
open PySem L2 Dp
variable {S S1 S2 S3 S4 : Store} {n : Nat} {fuel : Nat} {t u p c p' c' : Nat} {ws r : List Nm} {x : Nm} {G G' : Store} {fr : Fr} {bs : List Nm} {sh : Nat} {W W' d1 d2 : D}
theorem hd_at0 (s : Sen) : ∃ w l, hd s = .str w :: l ∧ w ∈ keysW ∧ dget (.str w) [(.str [102, 97, 99, 116]), (.str [119, 105, 115, 104]), (.str [110, 111, 116]), (.str [97, 110, 100]), (.str [111, 114]), (.str [115, 111, 109, 101]), (.str [101, 118, 101, 114, 121]), (.str [108, 101, 97, 115, 116]), (.str [109, 111, 115, 116]), (.str [115, 104, 111, 119])] [(.int 2), (.int 2), (.int 2), (.int 3), (.int 3), (.int 3), (.int 3), (.int 3), (.int 3), (.int 4)] = some (.int (((parts s).length + (hd s).length : Nat) : Int)) := by
  cases s <;> exact ⟨_, _, rfl, by decide, by simp [hd]⟩
theorem hd_len (s : Sen) : (hd s).length ≤ 2 := by cases s <;> simp [hd]
/-- reading a thing, by how its parts are read -/
theorem thing_by {s : Sen} (h1 : callN fns fuel n i_read_head [.ref t, W] S = .ok (.tup (hd s)) S1) (h2 : callN fns fuel n i_within_it [.tup (hd s), W] S1 = .ok W' S2)
    (h3 : (parts s = [] ∧ S4 = S2) ∨ (∃ a, parts s = [a] ∧ callN fns fuel n i_read_thing [.ref t, W'] S2 = .ok (enc a) S4) ∨ (∃ a b, parts s = [a, b] ∧ callN fns fuel n i_read_thing [.ref t, W'] S2 = .ok (enc a) S3 ∧ callN fns fuel n i_read_thing [.ref t, W'] S3 = .ok (enc b) S4)) :
    callN fns fuel (n+1) i_read_thing [.ref t, W] S = .ok (.tup (hd s ++ (parts s).map enc)) S4 := by
  obtain ⟨w, l, e1, e2, e3⟩ := hd_at0 s
  have hl := hd_len s
  rw [call_eq f_read_thing rfl]
  rw [e1] at h1 h2 e3 hl ⊢
  have ll : l.length ≤ 1 := by simpa using hl
  have ll1 : l.length + 1 + 1 ≤ 16777216 := by omega
  have ll2 : l.length + 1 + 1 + 1 ≤ 16777216 := by omega
  rcases h3 with ⟨hp, rfl⟩ | ⟨a, hp, h4⟩ | ⟨a, b, hp, h4, h5⟩
  · rw [hp] at e3 ⊢
    simp at e3
    simp [B_read_thing, h1, h2, e3, itUp, okI, forGo]
  · rw [hp] at e3 ⊢
    simp at e3
    have e4 : 1 + ((l.length : Int) + 1) - (l.length + 1) = 1 := by omega
    simp [B_read_thing, h1, h2, e3, e4, itUp, okI, forGo, L1_read_thing, h4, ll1]
  · rw [hp] at e3 ⊢
    simp at e3
    have e4 : 2 + ((l.length : Int) + 1) - (l.length + 1) = 2 := by omega
    simp [B_read_thing, h1, h2, e3, e4, itUp, okI, forGo, L1_read_thing, h4, h5, ll1, ll2]
end Wl

set_option Elab.async false
set_option maxRecDepth 100000
set_option linter.all false
set_option maxHeartbeats 4000000
namespace Wl
open PySem L2 Dp
variable {S S1 S2 S3 S4 : Store} {n : Nat} {fuel : Nat} {t u p c p' c' : Nat} {ws r : List Nm} {x : Nm} {G G' : Store} {fr : Fr} {bs : List Nm} {sh : Nat} {W W' d1 d2 : D}
theorem enc_hd (s : Sen) : enc s = .tup (hd s ++ (parts s).map enc) := by cases s <;> simp [hd]
theorem words_eq (s : Sen) : words s = wds s ++ (parts s).flatMap words := by
  unfold words
  rw [things_eq, List.flatMap_cons, List.flatMap_assoc]
theorem parts_cases (s : Sen) : parts s = [] ∨ (∃ a, parts s = [a]) ∨ ∃ a b, parts s = [a, b] := by
  cases s <;> simp
theorem ok_parts {s : Sen} (h : Ok s fr bs sh) : ∀ a ∈ parts s, Ok a (wFr s fr) (wBs s bs) (wSh s sh) := by
  cases s <;> simp [Ok, wFr, wBs, wSh] at h ⊢ <;> simp [h]
theorem ok_fr {s : Sen} (h : Ok s fr bs sh) (hf : ∀ q ∈ fr, isName q.1 = true) : ∀ q ∈ wFr s fr, isName q.1 = true := by
  cases s with
  | nt a => intro q hq; obtain ⟨q', h1, rfl⟩ := List.mem_map.mp hq; exact hf q' h1
  | lst x a => intro q hq; rcases List.mem_append.mp hq with h1 | h1; exact hf q h1; simp at h1; subst h1; exact h.1
  | mst x a => intro q hq; rcases List.mem_append.mp hq with h1 | h1; exact hf q h1; simp at h1; subst h1; exact h.1
  | shw h' a b => intro q hq; simp [wFr] at hq
  | _ => exact hf
theorem ok_len {s : Sen} (h : Ok s fr bs sh) (h1 : fr.length ≤ bs.length) (h2 : bs.length ≤ 4) : (wFr s fr).length ≤ (wBs s bs).length ∧ (wBs s bs).length ≤ 4 := by
  cases s <;> simp [Ok, wFr, wBs, flip1] at h ⊢ <;> omega
theorem sp_read_thing : ∀ (m : Nat) {s : Sen}, sz s ≤ m → ∀ {fr : Fr} {bs : List Nm} {sh : Nat} {S : Store} {p c : Nat} {r : List Nm} {N : Nat}, Ok s fr bs sh → (∀ q ∈ fr, isName q.1 = true) → fr.length ≤ bs.length → bs.length ≤ 4 → Tp S t u ws p c → ws.drop p = words s ++ r → c + sz s ≤ 60 → sz s ≤ N →
    ∃ G, callN fns fuel (N+6) i_read_thing [.ref t, encW fr bs sh] S = .ok (enc s) (adv S t u (p + (words s).length) (c + sz s) G) := by
  intro m
  induction m with
  | zero => intro s hs; have := sz_pos s; omega
  | succ m ih =>
    intro s hs fr bs sh S p c r N ok hf l1 l2 T hd0 hc hN
    have hl := getL_lt T.tp
    have hsz := sz_eq s
    have hw := words_eq s
    obtain ⟨G1, e1⟩ := sp_read_head (fuel := fuel) (n := N) (r := (parts s).flatMap words ++ r) ok hf T (by rw [hd0, hw, List.append_assoc]) (by have := sz_pos s; omega)
    obtain ⟨G2, e2⟩ := sp_within (fuel := fuel) (n := N + 4) (S := adv S t u (p + (wds s).length) (c + 1) G1) (s := s) (fr := fr) (bs := bs) (sh := sh) (by omega) (by omega)
    rw [adv_app hl] at e2
    have T2 : Tp (adv S t u (p + (wds s).length) (c + 1) (G1 ++ G2)) t u ws (p + (wds s).length) (c + 1) := T.adv
    have hd2 : ws.drop (p + (wds s).length) = (parts s).flatMap words ++ r := by
      rw [← List.drop_drop, hd0, hw, List.append_assoc, List.drop_left]
    have okp := ok_parts ok
    have frp := ok_fr ok hf
    have lp := ok_len ok l1 l2
    rw [enc_hd]
    rcases parts_cases s with hp | ⟨a, hp⟩ | ⟨a, b, hp⟩
    · refine ⟨G1 ++ G2, ?_⟩
      have := thing_by (S3 := []) (S4 := adv S t u (p + (wds s).length) (c + 1) (G1 ++ G2)) e1 e2 (.inl ⟨hp, rfl⟩)
      rw [hp] at hsz hw
      simp at hsz hw
      rw [hsz, hw]; exact this
    · rw [hp] at hsz hw hd2
      simp at hsz hw hd2
      obtain ⟨N, rfl⟩ : ∃ M, N = M + 1 := ⟨N - 1, by have := sz_pos a; omega⟩
      obtain ⟨G3, e3⟩ := ih (s := a) (by omega) (N := N) (okp a (by simp [hp])) frp lp.1 lp.2 T2 (r := r) (by rw [hd2]) (by omega) (by omega)
      rw [adv_adv hl] at e3
      have := thing_by (S3 := []) e1 e2 (.inr (.inl ⟨a, hp, e3⟩))
      refine ⟨G1 ++ G2 ++ G3, ?_⟩
      rw [this, hsz, hw, List.length_append, show p + ((wds s).length + (words a).length) = p + (wds s).length + (words a).length by omega, show c + (sz a + 1) = c + 1 + sz a by omega]
    · rw [hp] at hsz hw hd2
      simp at hsz hw hd2
      obtain ⟨N, rfl⟩ : ∃ M, N = M + 1 := ⟨N - 1, by have := sz_pos a; omega⟩
      obtain ⟨G3, e3⟩ := ih (s := a) (by omega) (N := N) (okp a (by simp [hp])) frp lp.1 lp.2 T2 (r := words b ++ r) (by rw [hd2]) (by omega) (by omega)
      rw [adv_adv hl] at e3
      have T3 : Tp (adv S t u (p + (wds s).length + (words a).length) (c + 1 + sz a) (G1 ++ G2 ++ G3)) t u ws (p + (wds s).length + (words a).length) (c + 1 + sz a) := T.adv
      obtain ⟨G4, e4⟩ := ih (s := b) (by omega) (N := N) (okp b (by simp [hp])) frp lp.1 lp.2 T3 (r := r) (by rw [← List.drop_drop, hd2, List.drop_left]) (by omega) (by omega)
      rw [adv_adv hl] at e4
      have := thing_by e1 e2 (.inr (.inr ⟨a, b, hp, e3, e4⟩))
      refine ⟨G1 ++ G2 ++ G3 ++ G4, ?_⟩
      rw [this, hsz, hw, List.length_append, List.length_append, show p + ((wds s).length + ((words a).length + (words b).length)) = p + (wds s).length + (words a).length + (words b).length by omega, show c + (sz a + sz b + 1) = c + 1 + sz a + sz b by omega]
theorem wds_no {s : Sen} (h : Neat s) : ∀ w ∈ wds s, 32 ∉ w := by
  have nm : ∀ {x : Nm}, isName x = true → 32 ∉ x := fun h => name_not h (by decide)
  have hn : ∀ {h : List Nm}, isHands h = true → 32 ∉ joinL [44] h := by
    intro h hh
    have l4 := (hands_len hh).2.2.2
    have : ∀ l : List Nm, (∀ x ∈ l, isName x = true) → 32 ∉ joinL [44] l := by
      intro l
      induction l with
      | nil => simp [joinL]
      | cons a l ih =>
        intro hl
        cases l with
        | nil => simpa [joinL] using nm (hl a (by simp))
        | cons b l =>
          rw [joinL_cons (by simp)]
          have h1 := nm (hl a (by simp))
          have h2 := ih fun x hx => hl x (.tail _ hx)
          simp [h1, h2]
    exact this h l4
  have st : ∀ {st : Stp}, okStp st = true → ∀ w ∈ swds st, 32 ∉ w := by
    intro st hst w hw
    cases st with
    | on => simp [swds] at hw; subst hw; decide
    | back => simp [swds] at hw; subst hw; decide
    | one h => simp [swds] at hw; rcases hw with rfl | rfl; decide; exact hn hst
    | pool h => simp [swds] at hw; rcases hw with rfl | rfl; decide; exact hn hst
  intro w hw
  cases s with
  | fact x => simp [wds] at hw; rcases hw with rfl | rfl; decide; exact nm h
  | wish x => simp [wds] at hw; rcases hw with rfl | rfl; decide; exact nm h
  | nt a => simp [wds] at hw; subst hw; decide
  | an a b => simp [wds] at hw; subst hw; decide
  | orr a b => simp [wds] at hw; subst hw; decide
  | som s a => rcases List.mem_cons.mp hw with rfl | hw; decide; exact st h.1 w hw
  | evr s a => rcases List.mem_cons.mp hw with rfl | hw; decide; exact st h.1 w hw
  | lst x a => simp [wds] at hw; rcases hw with rfl | rfl; decide; exact nm h.1
  | mst x a => simp [wds] at hw; rcases hw with rfl | rfl; decide; exact nm h.1
  | shw h' a b => simp [wds] at hw; rcases hw with rfl | rfl; decide; exact hn h.1
theorem words_no {s : Sen} (h : Neat s) : ∀ w ∈ words s, 32 ∉ w := by
  intro w hw
  obtain ⟨t, ht, hw⟩ := List.mem_flatMap.mp hw
  exact wds_no (neat_things h t ht) w hw
theorem sp_read_sentence {s : Sen} {N : Nat} (ok : Ok s [] [] 0) (hz : sz s ≤ 60) (hN : sz s ≤ N) : ∃ G, callN fns fuel (N+7) i_read_sentence [.str (text s)] S = .ok (enc s) (S ++ G) := by
  have ne := ok_neat ok
  have hsp : spl1 32 [] (text s) = words s := spl_join (words_ne s) (words_no ne)
  have ll : (text s).length + 2 ≤ 16777216 := by have := text_len ne; omega
  simp at ll
  have T : Tp (S ++ [O.lst ((words s).map .str), O.lst [.ref S.length, .int (0 : Nat), .int (0 : Nat)]]) (S.length + 1) S.length (words s) 0 0 := ⟨by simp, by simp, by omega⟩
  obtain ⟨G, e⟩ := sp_read_thing (fuel := fuel) (sz s) (Nat.le_refl _) (N := N) ok (by simp) (by simp) (by simp) T (r := []) (by simp) (by omega) hN
  have T2 := T.adv (p' := 0 + (words s).length) (c' := 0 + sz s) (G := G)
  have hlt : ¬ ((0 + (words s).length : Nat) : Int) < ((words s).length : Int) := by omega
  simp [encW] at e T2 hlt
  rw [call_eq f_read_sentence rfl]
  simp [B_read_sentence, hsp, ll, e, T2.tp, T2.wd]
  exact ⟨_, by unfold adv; simp; rfl⟩
end Wl

set_option Elab.async false
set_option maxRecDepth 100000
set_option linter.all false
set_option maxHeartbeats 4000000
/-! Draws. -/
namespace Wl
open PySem L2 Dp
variable {S S1 S2 : Store} {n : Nat} {fuel : Nat} {t f k k' : Nat} {ns : List Int} {G G' : Store} {fr : Fr} {bs : List Nm} {sh : Nat}
/-- the law's tape -/
structure Dt (S : Store) (t : Nat) (ns : List Int) (k : Nat) : Prop where
  tp : getL S t = some [.rl (ns.map .int), .int k]
  ln : ns.length ≤ 63
def dad (S : Store) (t : Nat) (ns : List Int) (k : Nat) (G : Store) : Store := (S ++ G).set t (.lst [.rl (ns.map .int), .int k])
theorem Dt.lt (T : Dt S t ns k) : t < S.length := getL_lt T.tp
theorem Dt.app (T : Dt S t ns k) : Dt (S ++ G) t ns k := ⟨getL_grow T.tp, T.ln⟩
theorem Dt.dad (T : Dt S t ns k) : Dt (dad S t ns k' G) t ns k' := ⟨by unfold Wl.dad; rw [getL_set (by have := T.lt; simp; omega)], T.ln⟩
theorem dad_dad (h : t < S.length) : dad (dad S t ns k G) t ns k' G' = dad S t ns k' (G ++ G') := by
  unfold dad
  rw [set_app h, List.append_assoc, set_app (by simp; omega), List.set_set, ← set_app h]
theorem dad_app (h : t < S.length) : dad S t ns k G ++ G' = dad S t ns k (G ++ G') := by
  unfold dad; rw [← List.append_assoc, set_app (T := G') (by simp; omega)]
theorem dad_of_app : dad (S ++ G) t ns k G' = dad S t ns k (G ++ G') := by unfold dad; rw [List.append_assoc]
theorem dad_len : (dad S t ns k G).length = S.length + G.length := by simp [dad]
theorem dad_get {xs : List D} (hf : f ≠ t) (h : getL S f = some xs) : getL (dad S t ns k G) f = some xs := by
  unfold dad; rw [getL_set_ne hf]; exact getL_grow h
theorem dad_new {j : Nat} (h : t < S.length) : getL (dad S t ns k G) (S.length + j) = getL G j := by
  unfold dad; rw [getL_set_ne (by omega), getL_add]
theorem dad_new0 (h : t < S.length) : getL (dad S t ns k G) S.length = getL G 0 := by
  unfold dad; rw [getL_set_ne (by omega), getL_app0]
theorem dad_nw2 {T : Store} {j : Nat} (h : t < S.length) : getL (dad S t ns k (G ++ T)) (S.length + G.length + j) = getL T j := by rw [Nat.add_assoc, dad_new h, getL_add]
theorem dad_nw0 {T : Store} (h : t < S.length) : getL (dad S t ns k (G ++ T)) (S.length + G.length) = getL T 0 := by rw [dad_new h, getL_app0]
theorem draw_eq (hl : t < S.length) (h1 : ns.length ≤ 63) (k : Nat) (G : Store) (m : Int) (h2 : Lo k) (h3 : 0 < m) : callN fns fuel (n+3) i__law_next [.ref t, .int m] (dad S t ns k G) = .ok (.int (dv ns k m)) (dad S t ns (k + 1) G) := by
  have h4 : getL (dad S t ns k G) t = some [.rl (ns.map .int), .int k] := by unfold dad; rw [getL_set (by simp; omega)]
  rw [(Classical.choose_spec (dv_ex ns k m) h1 h2 h3).2 fuel n _ t h4]
  unfold dad dv; simp
theorem sp_hands (hl : t < S.length) (h1 : ns.length ≤ 63) (hk : Lo k) : ∃ h G', callN fns fuel (n+4) i__law_hands [.ref t] (dad S t ns k G) = .ok (encH h) (dad S t ns (k + 1) (G ++ G')) ∧ isHands h = true := by
  obtain ⟨L, hL⟩ : ∃ L : List (List Nm), L = [[[97]], [[97, 98]], [[98]], [[97], [98]], [[97], [97, 98]], [[97], [97, 98], [98]], [[97, 98], [98]], [[97], [122, 122]]] := ⟨_, rfl⟩
  have ln : L.length = 8 := by rw [hL]; rfl
  have all : ∀ h ∈ L, isHands h = true := by rw [hL]; decide
  have hc := dv_lt (k := k) (m := 8) h1 hk (by omega)
  refine ⟨L[dv ns k 8]'(by omega), [O.lst (L.map encH)], ?_, all _ (List.getElem_mem _)⟩
  rw [call_eq f__law_hands rfl]
  have g2 : atI (L.map encH) (dv ns k 8 : Int) = some (encH (L[dv ns k 8]'(by omega))) := by rw [atI_ok, List.getElem?_map, List.getElem?_eq_getElem (by omega)]; rfl
  have lit : [D.tup [D.str [97]], D.tup [D.str [97, 98]], D.tup [D.str [98]], D.tup [D.str [97], D.str [98]], D.tup [D.str [97], D.str [97, 98]], D.tup [D.str [97], D.str [97, 98], D.str [98]], D.tup [D.str [97, 98], D.str [98]], D.tup [D.str [97], D.str [122, 122]]] = L.map encH := by rw [hL]; rfl
  simp [B__law_hands, lit, ln, dad_app hl, dad_len, dad_new hl, draw_eq hl h1, hk, g2, -atn]
theorem lo_of {j : Nat} (h : Lo j) (l : k ≤ j) : Lo k := by unfold Lo at *; omega
theorem sp_step (hl : t < S.length) (h1 : ns.length ≤ 63) (hk : Lo (k + 1)) : ∃ st k' G', callN fns fuel (n+5) i__law_step [.ref t] (dad S t ns k G) = .ok (encS st) (dad S t ns k' (G ++ G')) ∧ okStp st = true ∧ k' ≤ k + 2 := by
  have hk0 : Lo k := lo_of hk (by omega)
  have hc := dv_lt (k := k) (m := 6) h1 hk0 (by omega)
  rw [call_eq f__law_step rfl]
  have h4 : dv ns k 6 < 2 ∨ dv ns k 6 = 2 ∨ dv ns k 6 = 3 ∨ dv ns k 6 = 4 ∨ dv ns k 6 = 5 := by omega
  obtain ⟨h, G', e2, hh⟩ := sp_hands (fuel := fuel) (n := n) (G := G ++ [O.lst [.str w_one, .str w_one, .str w_pool]]) hl h1 hk
  simp at e2
  rcases h4 with h4 | h4 | h4 | h4 | h4
  · refine ⟨.on, k + 1, [], ?_, rfl, by omega⟩
    have : (dv ns k 6 : Int) < 2 := by omega
    simp [B__law_step, draw_eq hl h1, hk0, this]
  · refine ⟨.back, k + 1, [], ?_, rfl, by omega⟩
    simp [B__law_step, draw_eq hl h1, hk0, h4]
  · refine ⟨.one h, k + 1 + 1, O.lst [.str w_one, .str w_one, .str w_pool] :: G', ?_, hh, by omega⟩
    simp [B__law_step, draw_eq hl h1, hk0, h4, dad_app hl, dad_len, dad_new hl, e2]
  · refine ⟨.one h, k + 1 + 1, O.lst [.str w_one, .str w_one, .str w_pool] :: G', ?_, hh, by omega⟩
    simp [B__law_step, draw_eq hl h1, hk0, h4, dad_app hl, dad_len, dad_new hl, e2]
  · refine ⟨.pool h, k + 1 + 1, O.lst [.str w_one, .str w_one, .str w_pool] :: G', ?_, hh, by omega⟩
    simp [B__law_step, draw_eq hl h1, hk0, h4, dad_app hl, dad_len, dad_new hl, e2]
end Wl

set_option Elab.async false
set_option maxRecDepth 100000
set_option linter.all false
set_option maxHeartbeats 4000000
namespace Wl
open PySem L2 Dp
variable {S S1 S2 : Store} {n : Nat} {fuel : Nat} {t f k k' : Nat} {ns : List Int} {G G' : Store} {fr : Fr} {bs : List Nm} {sh : Nat}
/-- a list that stays -/
def Fx (S : Store) (t : Nat) (ns : List Int) (G : Store) (f : Nat) (xs : List D) : Prop := ∀ k G', getL (dad S t ns k (G ++ G')) f = some xs
theorem Fx.z {xs : List D} (h : Fx S t ns G f xs) (k : Nat) : getL (dad S t ns k G) f = some xs := by simpa using h k []
theorem Fx.app {xs : List D} (h : Fx S t ns G f xs) : Fx S t ns (G ++ G') f xs := fun k G2 => by rw [List.append_assoc]; exact h k _
theorem Fx.new {xs : List D} (hl : t < S.length) : Fx S t ns (G ++ .lst xs :: G') (S.length + G.length) xs := fun k G2 => by rw [dad_new hl, List.append_assoc, getL_app0]; rfl
def wn (fr : Fr) : List Nm := (fr.filter fun p => !p.2).map (·.1)
theorem wn_mem {x : Nm} (h : x ∈ wn fr) : (x, false) ∈ fr := by
  simp only [wn, List.mem_map, List.mem_filter] at h
  obtain ⟨⟨a, b⟩, ⟨h1, h2⟩, rfl⟩ := h
  simp at h2; subst h2; exact h1
theorem wn_fm : ∀ fr : Fr, (fr.map encF).filterMap (fun d => match d with | .tup [x, .bl false] => some x | _ => none) = (wn fr).map .str
  | [] => rfl
  | (a, b) :: fr => by
    have ih := wn_fm fr
    cases b <;> simp [wn, encF] at ih ⊢ <;> simp [ih]
theorem sp_leaf (hl : t < S.length) (h1 : ns.length ≤ 63) (hk : Lo (k + 2)) (hF : Fx S t ns G f (fr.map encF)) (hn : ∀ q ∈ fr, isName q.1 = true) (hfl : fr.length ≤ 1000) :
    ∃ s k' G', callN fns fuel (n+4) i__law_leaf [.ref t, .ref f] (dad S t ns k G) = .ok (enc s) (dad S t ns k' (G ++ G')) ∧ k' ≤ k + 2 ∧ (∀ bs sh, Ok s fr bs sh) ∧ sz s = 1 := by
  have hk0 : Lo k := lo_of hk (by omega)
  have hk1 : Lo (k + 1) := lo_of hk (by omega)
  have h0 := hF.z
  have wl1 : (wn fr).length ≤ fr.length := by simp [wn]; exact List.length_filter_le _ _
  have gd : ∀ a ∈ wn fr, good a = true := fun a ha => good_name (hn _ (wn_mem ha))
  have d3 := dv_lt (k := k) (m := 3) h1 hk0 (by omega)
  rw [call_eq f__law_leaf rfl]
  simp [B__law_leaf, h0]
  rw [comp_pure (fun d => match d with | .tup [x, .bl false] => some x | _ => none) (fr.map encF) (by simp) (by simp; omega) (by intro i; simp [h0]) (by
    intro d hd
    obtain ⟨⟨a, b⟩, hp, rfl⟩ := List.mem_map.mp hd
    cases b <;> simp [encF])]
  rw [wn_fm]
  have dq : deq (dad S t ns k (G ++ [O.lst ((wn fr).map .str), O.lst []])) (.ref (S.length + G.length)) (.ref (S.length + (G.length + 1))) = some (wn fr).isEmpty := by
    refine deq_strs0 gd ?_ ?_
    · rw [dad_new hl, getL_app0]; rfl
    · rw [dad_new hl, getL_add]; rfl
  have nl := (Fx.new (S := S) (t := t) (ns := ns) (G := G) (G' := [O.lst []]) (xs := (wn fr).map .str) hl).z
  have lit : O.lst [.str [112], .str [112, 113], .str [113], .str [122, 122]] = O.lst (([[112], [112, 113], [113], [122, 122]] : List Nm).map .str) := rfl
  have fin : ∀ j, Lo j → ∀ X : Store, ∃ x, isName x = true ∧ atI [D.str [112], D.str [112, 113], D.str [113], D.str [122, 122]] (dv ns j 4) = some (.str x) := by
    intro j hj X
    have d4 := dv_lt (k := j) (m := 4) h1 hj (by omega)
    have : dv ns j 4 = 0 ∨ dv ns j 4 = 1 ∨ dv ns j 4 = 2 ∨ dv ns j 4 = 3 := by omega
    rcases this with h | h | h | h <;> rw [h] <;> exact ⟨_, by decide, rfl⟩
  by_cases hw : wn fr = []
  · obtain ⟨x, hx, ex⟩ := fin k hk0 []
    rw [hw] at dq nl
    simp at dq nl
    refine ⟨.fact x, k + 1, ⟨[O.lst [], O.lst [], O.lst [D.str [112], D.str [112, 113], D.str [113], D.str [122, 122]]], ?_⟩, by omega, fun _ _ => hx, rfl⟩
    simp [hw, dad_app hl, dad_len, dq, nl, draw_eq hl h1, hk0, dad_new hl, ex, -atn]
  · have he : (wn fr).isEmpty = false := by simp [hw]
    rw [he] at dq
    by_cases h3 : 0 < dv ns k 3
    · have hl0 : 0 < (wn fr).length := List.length_pos_iff.mpr hw
      have dl := dv_lt (k := k + 1) (m := (wn fr).length) h1 hk1 (by omega)
      have ix : atI ((wn fr).map D.str) (dv ns (k + 1) (wn fr).length) = some (.str ((wn fr)[dv ns (k + 1) (wn fr).length]'(by omega))) := by rw [atI_ok, List.getElem?_map, List.getElem?_eq_getElem (by omega)]; rfl
      have hm := wn_mem (List.getElem_mem (l := wn fr) (by omega : dv ns (k + 1) (wn fr).length < _))
      refine ⟨.wish ((wn fr)[dv ns (k + 1) (wn fr).length]'(by omega)), k + 1 + 1, ⟨[O.lst ((wn fr).map .str), O.lst []], ?_⟩, by omega, fun _ _ => ⟨hn _ hm, hm⟩, rfl⟩
      have hl0' : (0 : Int) < (wn fr).length := by omega
      have dw := fun G => draw_eq (fuel := fuel) (n := n) hl h1 (k + 1) G ((wn fr).length : Int) hk1 hl0'
      simp [dad_app hl, dad_len, dq, nl, draw_eq hl h1, dw, hk0, hk1, h3, ix, -atn]
    · obtain ⟨x, hx, ex⟩ := fin (k + 1) hk1 []
      refine ⟨.fact x, k + 1 + 1, ⟨[O.lst ((wn fr).map .str), O.lst [], O.lst [D.str [112], D.str [112, 113], D.str [113], D.str [122, 122]]], ?_⟩, by omega, fun _ _ => hx, rfl⟩
      simp [dad_app hl, dad_len, dq, nl, draw_eq hl h1, hk0, hk1, h3, dad_new hl, ex, -atn]
end Wl

set_option Elab.async false
set_option maxRecDepth 100000
set_option linter.all false
set_option maxHeartbeats 4000000
namespace Wl
open PySem L2 Dp
variable {S S1 S2 : Store} {n : Nat} {fuel : Nat} {t f k k' : Nat} {ns : List Int} {G G' : Store} {fr : Fr} {bs : List Nm} {sh : Nat}
def nmX : List Nm := [[120], [120, 121], [121]]
def nmP : List Nm := [[112], [112, 113], [113]]
def nmAt (b i : Nat) : Nm := ([nmX, nmP].getD b []).getD i []
def Bn (bs : List Nm) : Prop := bs.length ≤ 3 ∧ ∀ i x, bs[i]? = some x → ∃ b, b < 2 ∧ x = nmAt b i
theorem nm_ne : ∀ b < 2, ∀ b' < 2, ∀ j < 3, ∀ i < j, nmAt b j ≠ nmAt b' i := by decide
theorem nm_name : ∀ b < 2, ∀ j < 3, isName (nmAt b j) = true := by decide
theorem Bn.add {b : Nat} (h : Bn bs) (hb : b < 2) (hl : bs.length < 3) : nmAt b bs.length ∉ bs ∧ isName (nmAt b bs.length) = true ∧ Bn (bs ++ [nmAt b bs.length]) := by
  refine ⟨fun hm => ?_, nm_name b hb _ hl, by simp; omega, fun i x hx => ?_⟩
  · obtain ⟨i, hi, e⟩ := List.getElem_of_mem hm
    obtain ⟨b', hb', e'⟩ := h.2 i _ (List.getElem?_eq_getElem hi)
    exact nm_ne b hb b' hb' _ hl i hi (e.symm.trans e')
  · by_cases hi : i < bs.length
    · rw [List.getElem?_append_left hi] at hx; exact h.2 i x hx
    · have : i = bs.length := by have := (List.getElem?_eq_some_iff.mp hx).1; simp at this; omega
      subst this; simp at hx; exact ⟨b, hb, hx.symm⟩
structure SentIn (S : Store) (t : Nat) (ns : List Int) (k : Nat) (G : Store) (f : Nat) (fr : Fr) (bs : List Nm) (sh size : Nat) : Prop where
  hF : Fx S t ns G f (fr.map encF)
  hn : ∀ q ∈ fr, isName q.1 = true
  hl : fr.length ≤ bs.length
  hb : Bn bs
  hs : sh ≤ 2
  hk : Lo (k + 8 * size)
  hz : 1 ≤ size
def SentOut (fuel : Nat) (S : Store) (t : Nat) (ns : List Int) (k : Nat) (G : Store) (f : Nat) (fr : Fr) (bs : List Nm) (sh size N : Nat) : Prop :=
  ∃ s k' G', callN fns fuel (N + 6) i__law_sentence [.ref t, .int size, .ref f, .int bs.length, .int sh] (dad S t ns k G) = .ok (enc s) (dad S t ns k' (G ++ G')) ∧ k' ≤ k + 8 * size ∧ Ok s fr bs sh ∧ sz s ≤ size
theorem sent_leaf {size N : Nat} (hl : t < S.length) (h1 : ns.length ≤ 63) (I : SentIn S t ns k G f fr bs sh size) (h : size < 2 ∨ dv ns k 12 = 0) : SentOut fuel S t ns k G f fr bs sh size N := by
  have hk0 : Lo k := lo_of I.hk (by omega)
  obtain ⟨s, k', G', e, hk', ok, hz⟩ := sp_leaf (fuel := fuel) (n := N + 1) (k := k + 1) hl h1 (lo_of I.hk (by have := I.hz; omega)) I.hF I.hn (by have := I.hl; have := I.hb.1; omega)
  have e' : callN fns fuel (N + 5) i__law_leaf [.ref t, .ref f] (dad S t ns (k + 1) G) = _ := e
  refine ⟨s, k', G', ?_, by have := I.hz; omega, ok _ _, by have := I.hz; omega⟩
  rw [call_eq f__law_sentence rfl]
  rcases h with h | h
  · have h' : (size : Int) < 2 := by omega
    simp [B__law_sentence, draw_eq hl h1, hk0, h', e']
  · by_cases h' : (size : Int) < 2
    · simp [B__law_sentence, draw_eq hl h1, hk0, h', e']
    · simp [B__law_sentence, draw_eq hl h1, hk0, h', h, e']
theorem sent_not {size N : Nat} (hl : t < S.length) (h1 : ns.length ≤ 63) (I : SentIn S t ns k G f fr bs sh size) (h2 : 2 ≤ size) (h : dv ns k 12 = 1)
    (ih : ∀ {f k G fr bs sh}, SentIn S t ns k G f fr bs sh (size - 1) → SentOut fuel S t ns k G f fr bs sh (size - 1) N) : SentOut fuel S t ns k G f fr bs sh size (N + 1) := by
  have hk0 : Lo k := lo_of I.hk (by omega)
  have J : SentIn S t ns (k + 1) (G ++ [O.lst ((fr.map flip1).map encF)]) (S.length + G.length) (fr.map flip1) bs sh (size - 1) :=
    ⟨Fx.new hl, fun q hq => by obtain ⟨q', h1, rfl⟩ := List.mem_map.mp hq; exact I.hn q' h1, by simpa using I.hl, I.hb, I.hs, lo_of I.hk (by omega), by omega⟩
  obtain ⟨s, k', G', e, hk', ok, hz⟩ := ih J
  rw [show ((size - 1 : Nat) : Int) = (size : Int) - 1 by omega] at e
  simp only [List.append_assoc, List.cons_append, List.nil_append] at e
  have e' : callN fns fuel (N + 6) i__law_sentence [.ref t, .int ((size : Int) - 1), .ref (S.length + G.length), .int bs.length, .int sh] _ = _ := e
  refine ⟨.nt s, k', O.lst ((fr.map flip1).map encF) :: G', ?_, by omega, ok, by simp; omega⟩
  rw [call_eq f__law_sentence rfl]
  have h3 : ¬ (size : Int) < 2 := by omega
  simp [B__law_sentence, draw_eq hl h1, hk0, h3, h, I.hF.z]
  rw [comp_pure (fun d => match d with | .tup [x, .bl b] => some (.tup [x, .bl (!b)]) | _ => none) (fr.map encF) (by simp) (by have := I.hl; have := I.hb.1; simp; omega) (by intro i; simp [I.hF.z]) (by
    intro d hd
    obtain ⟨p, hp, rfl⟩ := List.mem_map.mp hd
    simp [encF])]
  have cv : (fr.map encF).filterMap (fun d => match d with | .tup [x, .bl b] => some (.tup [x, .bl (!b)]) | _ => none) = (fr.map flip1).map encF := by
    simp [List.filterMap_map, Function.comp_def, encF, flip1]
  rw [cv]
  simp [dad_app hl, dad_len, -List.map_map, e']
  rw [List.map_map]
theorem sent_step {size N : Nat} (hl : t < S.length) (h1 : ns.length ≤ 63) (I : SentIn S t ns k G f fr bs sh size) (h2 : 2 ≤ size) (h0 : dv ns k 12 ≠ 0) (h01 : dv ns k 12 ≠ 1) (h : dv ns k 12 < 5 ∨ size < 3)
    (ih : ∀ {f k G fr bs sh}, SentIn S t ns k G f fr bs sh (size - 1) → SentOut fuel S t ns k G f fr bs sh (size - 1) N) : SentOut fuel S t ns k G f fr bs sh size (N + 1) := by
  have hk0 : Lo k := lo_of I.hk (by omega)
  have hk1 : Lo (k + 1) := lo_of I.hk (by omega)
  have hk2 : Lo (k + 2) := lo_of I.hk (by omega)
  obtain ⟨st, k2, G2, e2, hst, hk22⟩ := sp_step (fuel := fuel) (n := N + 1) (k := k + 2) (G := G ++ [O.lst [.str w_some, .str w_every]]) hl h1 (lo_of I.hk (by omega))
  have J : SentIn S t ns k2 (G ++ [O.lst [.str w_some, .str w_every]] ++ G2) f fr bs sh (size - 1) :=
    ⟨I.hF.app.app, I.hn, I.hl, I.hb, I.hs, lo_of I.hk (by omega), by omega⟩
  obtain ⟨s, k', G', e, hk', ok, hz⟩ := ih J
  rw [show ((size - 1 : Nat) : Int) = (size : Int) - 1 by omega] at e
  simp only [List.append_assoc, List.cons_append, List.nil_append] at e e2
  have e' : callN fns fuel (N + 6) i__law_sentence [.ref t, .int ((size : Int) - 1), .ref f, .int bs.length, .int sh] _ = _ := e
  have e2' : callN fns fuel (N + 6) i__law_step [.ref t] _ = _ := e2
  have h3 : ¬ (size : Int) < 2 := by omega
  have h4 : ((dv ns k 12 : Int) == 0) = false := by simp; omega
  have h5 : ((dv ns k 12 : Int) == 1) = false := by simp; omega
  have d2 := dv_lt (k := k + 1) (m := 2) h1 hk1 (by omega)
  have hd : dv ns (k + 1) 2 = 0 ∨ dv ns (k + 1) 2 = 1 := by omega
  have cnd : (dv ns k 12 : Int) < 5 ∨ ¬ (dv ns k 12 : Int) < 5 ∧ (size : Int) < 3 := by omega
  rcases hd with hd | hd
  · refine ⟨.som st s, k', O.lst [.str w_some, .str w_every] :: (G2 ++ G'), ?_, by omega, ⟨hst, ok⟩, by simp; omega⟩
    rw [call_eq f__law_sentence rfl]
    rcases cnd with c | ⟨c, c'⟩
    · simp at e' e2'
      have cn : dv ns k 12 < 5 := by omega
      simp [B__law_sentence, draw_eq hl h1, hk0, hk1, h3, h4, h5, c, cn, dad_app hl, dad_len, dad_new hl, hd, e2', e']
    · simp at e' e2'
      have cn : ¬ dv ns k 12 < 5 := by omega
      have cn' : size < 3 := by omega
      simp [B__law_sentence, draw_eq hl h1, hk0, hk1, h3, h4, h5, c, c', cn, cn', dad_app hl, dad_len, dad_new hl, hd, e2', e']
  · refine ⟨.evr st s, k', O.lst [.str w_some, .str w_every] :: (G2 ++ G'), ?_, by omega, ⟨hst, ok⟩, by simp; omega⟩
    rw [call_eq f__law_sentence rfl]
    rcases cnd with c | ⟨c, c'⟩
    · simp at e' e2'
      have cn : dv ns k 12 < 5 := by omega
      simp [B__law_sentence, draw_eq hl h1, hk0, hk1, h3, h4, h5, c, cn, dad_app hl, dad_len, dad_new hl, hd, e2', e']
    · simp at e' e2'
      have cn : ¬ dv ns k 12 < 5 := by omega
      have cn' : size < 3 := by omega
      simp [B__law_sentence, draw_eq hl h1, hk0, hk1, h3, h4, h5, c, c', cn, cn', dad_app hl, dad_len, dad_new hl, hd, e2', e']
end Wl

set_option Elab.async false
set_option maxRecDepth 100000
set_option linter.all false
set_option maxHeartbeats 4000000
namespace Wl
open PySem L2 Dp
variable {S S1 S2 : Store} {n : Nat} {fuel : Nat} {t f k k' : Nat} {ns : List Int} {G G' : Store} {fr : Fr} {bs : List Nm} {sh : Nat}
theorem at_X {j : Nat} (h : j < 3) : atI [D.str [120], D.str [120, 121], D.str [121]] (j : Int) = some (.str (nmAt 0 j)) := by
  have : j = 0 ∨ j = 1 ∨ j = 2 := by omega
  rcases this with rfl | rfl | rfl <;> rfl
theorem at_P {j : Nat} (h : j < 3) : atI [D.str [112], D.str [112, 113], D.str [113]] (j : Int) = some (.str (nmAt 1 j)) := by
  have : j = 0 ∨ j = 1 ∨ j = 2 := by omega
  rcases this with rfl | rfl | rfl <;> rfl
theorem sent_bind {size N : Nat} (hl : t < S.length) (h1 : ns.length ≤ 63) (I : SentIn S t ns k G f fr bs sh size) (h2 : 3 ≤ size) (h0 : 5 ≤ dv ns k 12) (h8 : dv ns k 12 < 8) (hb3 : bs.length < 3)
    (ih : ∀ {f k G fr bs sh}, SentIn S t ns k G f fr bs sh (size - 1) → SentOut fuel S t ns k G f fr bs sh (size - 1) N) : SentOut fuel S t ns k G f fr bs sh size (N + 1) := by
  have hk0 : Lo k := lo_of I.hk (by omega)
  have hk1 : Lo (k + 1) := lo_of I.hk (by omega)
  have d2 := dv_lt (k := k + 1) (m := 2) h1 hk1 (by omega)
  have key : ∀ b, b < 2 → dv ns (k + 1) 2 = b → SentOut fuel S t ns k G f fr bs sh size (N + 1) := by
    intro b hb hdb
    obtain ⟨nin, nnm, nbn⟩ := I.hb.add hb hb3
    obtain ⟨x, hx⟩ : ∃ x, x = nmAt b bs.length := ⟨_, rfl⟩
    rw [← hx] at nin nnm nbn
    obtain ⟨X4, hX4⟩ : ∃ X4 : Store, X4 = [O.lst [.str [120], .str [120, 121], .str [121]], O.lst [.str [112], .str [112, 113], .str [113]], O.lst [.ref (S.length + G.length), .ref (S.length + G.length + 1)], O.lst [encF (x, false)]] := ⟨_, rfl⟩
    have J : SentIn S t ns (k + 2) (G ++ X4 ++ [O.lst ((fr ++ [(x, false)]).map encF)]) (S.length + (G ++ X4).length) (fr ++ [(x, false)]) (bs ++ [x]) sh (size - 1) :=
      ⟨Fx.new hl, fun q hq => by rcases List.mem_append.mp hq with h | h; exact I.hn q h; simp at h; subst h; exact nnm, by have := I.hl; simp; omega, nbn, I.hs, lo_of I.hk (by omega), by omega⟩
    obtain ⟨s, k', G', e, hk', ok, hz⟩ := ih J
    rw [show ((size - 1 : Nat) : Int) = (size : Int) - 1 by omega] at e
    have hkk : Lo k' := lo_of I.hk (by omega)
    have d3 := dv_lt (k := k') (m := 2) h1 hkk (by omega)
    have e' : callN fns fuel (N + 6) i__law_sentence _ _ = _ := e
    simp [hX4, encF] at e'
    have e'' : callN fns fuel (N + 6) i__law_sentence [D.ref t, D.int (↑size - 1), D.ref (S.length + (G.length + 3) + 1), D.int (↑bs.length + 1), D.int ↑sh] (dad S t ns (k + 1 + 1) _) = _ := e'
    have h3 : ¬ (size : Int) < 2 := by omega
    have h3' : ¬ (size : Int) < 3 := by omega
    have h3n' : ¬ size < 3 := by omega
    have c5 : ¬ (dv ns k 12 : Int) < 5 := by omega
    have c5n : ¬ dv ns k 12 < 5 := by omega
    have c8 : (dv ns k 12 : Int) < 8 := by omega
    have h4 : ((dv ns k 12 : Int) == 0) = false := by simp; omega
    have h5 : ((dv ns k 12 : Int) == 1) = false := by simp; omega
    have hb3' : (bs.length : Int) < 3 := by omega
    have g1 : I.hF.z = I.hF.z := rfl
    have frl : fr.length + 1 ≤ 16777216 := by have := I.hl; omega
    have hFz : ∀ k G', getL (dad S t ns k (G ++ G')) f = some (fr.map encF) := I.hF
    have nb : b = 0 ∨ b = 1 := by omega
    have d3' : dv ns k' 2 = 0 ∨ dv ns k' 2 = 1 := by omega
    rcases d3' with d3' | d3'
    · refine ⟨.lst x s, k' + 1, X4 ++ O.lst ((fr ++ [(x, false)]).map encF) :: (G' ++ [O.lst [.str w_least, .str w_most]]), ?_, by omega, ⟨nnm, nin, by omega, ok⟩, by simp; omega⟩
      rw [call_eq f__law_sentence rfl]
      rcases nb with rfl | rfl
      · simp [B__law_sentence, draw_eq hl h1, hk0, hk1, hkk, h3, h3', h3n', h4, h5, c5, c5n, c8, h8, hb3, hb3', dad_app hl, dad_len, dad_nw2 hl, dad_nw0 hl, dad_new hl, hdb, at_X hb3, ← hx, hFz, frl, -atn, e'', d3', hX4, encF]
      · simp [B__law_sentence, draw_eq hl h1, hk0, hk1, hkk, h3, h3', h3n', h4, h5, c5, c5n, c8, h8, hb3, hb3', dad_app hl, dad_len, dad_nw2 hl, dad_nw0 hl, dad_new hl, hdb, at_P hb3, ← hx, hFz, frl, -atn, e'', d3', hX4, encF]
    · refine ⟨.mst x s, k' + 1, X4 ++ O.lst ((fr ++ [(x, false)]).map encF) :: (G' ++ [O.lst [.str w_least, .str w_most]]), ?_, by omega, ⟨nnm, nin, by omega, ok⟩, by simp; omega⟩
      rw [call_eq f__law_sentence rfl]
      rcases nb with rfl | rfl
      · simp [B__law_sentence, draw_eq hl h1, hk0, hk1, hkk, h3, h3', h3n', h4, h5, c5, c5n, c8, h8, hb3, hb3', dad_app hl, dad_len, dad_nw2 hl, dad_nw0 hl, dad_new hl, hdb, at_X hb3, ← hx, hFz, frl, -atn, e'', d3', hX4, encF]
      · simp [B__law_sentence, draw_eq hl h1, hk0, hk1, hkk, h3, h3', h3n', h4, h5, c5, c5n, c8, h8, hb3, hb3', dad_app hl, dad_len, dad_nw2 hl, dad_nw0 hl, dad_new hl, hdb, at_P hb3, ← hx, hFz, frl, -atn, e'', d3', hX4, encF]
  have : dv ns (k + 1) 2 = 0 ∨ dv ns (k + 1) 2 = 1 := by omega
  rcases this with h | h
  · exact key 0 (by omega) h
  · exact key 1 (by omega) h
end Wl

set_option Elab.async false
set_option maxRecDepth 100000
set_option linter.all false
set_option maxHeartbeats 4000000
namespace Wl
open PySem L2 Dp
variable {S S1 S2 : Store} {n : Nat} {fuel : Nat} {t f k k' : Nat} {ns : List Int} {G G' : Store} {fr : Fr} {bs : List Nm} {sh : Nat}
theorem sent_show {size N : Nat} (hl : t < S.length) (h1 : ns.length ≤ 63) (I : SentIn S t ns k G f fr bs sh size) (h2 : 3 ≤ size) (h8 : dv ns k 12 = 8) (hs2 : sh < 2)
    (ih : ∀ {size' f k G fr bs sh}, size' < size → SentIn S t ns k G f fr bs sh size' → SentOut fuel S t ns k G f fr bs sh size' N) : SentOut fuel S t ns k G f fr bs sh size (N + 1) := by
  have hk0 : Lo k := lo_of I.hk (by omega)
  have hk1 : Lo (k + 1) := lo_of I.hk (by omega)
  have hm : (0 : Int) < (size : Int) - 2 := by omega
  have dl := dv_lt (k := k + 1) (m := (size : Int) - 2) h1 hk1 hm
  have dw := fun G => draw_eq (fuel := fuel) (n := N + 3) hl h1 (k + 1) G ((size : Int) - 2) hk1 hm
  obtain ⟨c, hc⟩ : ∃ c, c = dv ns (k + 1) ((size : Int) - 2) := ⟨_, rfl⟩
  rw [← hc] at dl
  simp only [← hc] at dw
  have J : SentIn S t ns (k + 2) (G ++ [O.lst []]) (S.length + G.length) [] bs (sh + 1) (1 + c) :=
    ⟨Fx.new (xs := []) hl, by simp, by simp, I.hb, by omega, lo_of I.hk (by omega), by omega⟩
  obtain ⟨a, k1, G1, e1, hk1', oka, hza⟩ := ih (by omega) J
  obtain ⟨h, G2, e2, hh⟩ := sp_hands (fuel := fuel) (n := N + 2) (k := k1) (G := G ++ [O.lst []] ++ G1) hl h1 (lo_of I.hk (by omega))
  have J2 : SentIn S t ns (k1 + 1) (G ++ [O.lst []] ++ G1 ++ G2 ++ [O.lst []]) (S.length + (G ++ [O.lst []] ++ G1 ++ G2).length) [] bs (sh + 1) (size - 1 - (1 + c)) :=
    ⟨Fx.new (xs := []) hl, by simp, by simp, I.hb, by omega, lo_of I.hk (by omega), by omega⟩
  obtain ⟨b, k', G', e3, hk', okb, hzb⟩ := ih (by omega) J2
  rw [show ((size - 1 - (1 + c) : Nat) : Int) = (size : Int) - 1 - (1 + (c : Int)) by omega] at e3
  have h3 : ¬ (size : Int) < 2 := by omega
  have h3' : ¬ (size : Int) < 3 := by omega
  have h3n' : ¬ size < 3 := by omega
  have hs' : (sh : Int) < 2 := by omega
  simp at e1 e2 e3
  refine ⟨.shw h a b, k', O.lst [] :: (G1 ++ (G2 ++ O.lst [] :: G')), ?_, by omega, ⟨hh, by omega, oka, okb⟩, by simp; omega⟩
  rw [call_eq f__law_sentence rfl]
  simp [B__law_sentence, draw_eq hl h1, dw, hk0, hk1, h3, h3', h3n', h8, hs', hs2, dad_app hl, dad_len, e1, e2, e3]
theorem sent_pair {size N : Nat} (hl : t < S.length) (h1 : ns.length ≤ 63) (I : SentIn S t ns k G f fr bs sh size) (h2 : 3 ≤ size) (h5 : 5 ≤ dv ns k 12) (hx : 8 ≤ dv ns k 12 ∨ 3 ≤ bs.length) (hy : dv ns k 12 ≠ 8 ∨ 2 ≤ sh)
    (ih : ∀ {size' f k G fr bs sh}, size' < size → SentIn S t ns k G f fr bs sh size' → SentOut fuel S t ns k G f fr bs sh size' N) : SentOut fuel S t ns k G f fr bs sh size (N + 1) := by
  have hk0 : Lo k := lo_of I.hk (by omega)
  have hk1 : Lo (k + 1) := lo_of I.hk (by omega)
  have hm : (0 : Int) < (size : Int) - 2 := by omega
  have dl := dv_lt (k := k + 1) (m := (size : Int) - 2) h1 hk1 hm
  have dw := fun G => draw_eq (fuel := fuel) (n := N + 3) hl h1 (k + 1) G ((size : Int) - 2) hk1 hm
  obtain ⟨c, hc⟩ : ∃ c, c = dv ns (k + 1) ((size : Int) - 2) := ⟨_, rfl⟩
  rw [← hc] at dl
  simp only [← hc] at dw
  have J : SentIn S t ns (k + 2) G f fr bs sh (1 + c) := ⟨I.hF, I.hn, I.hl, I.hb, I.hs, lo_of I.hk (by omega), by omega⟩
  obtain ⟨a, k1, G1, e1, hk1', oka, hza⟩ := ih (by omega) J
  have hk2 : Lo k1 := lo_of I.hk (by omega)
  have d2 := dv_lt (k := k1) (m := 2) h1 hk2 (by omega)
  have J2 : SentIn S t ns (k1 + 1) (G ++ G1 ++ [O.lst [.str w_and, .str w_or]]) f fr bs sh (size - 1 - (1 + c)) :=
    ⟨I.hF.app.app, I.hn, I.hl, I.hb, I.hs, lo_of I.hk (by omega), by omega⟩
  obtain ⟨b, k', G', e3, hk', okb, hzb⟩ := ih (by omega) J2
  rw [show ((size - 1 - (1 + c) : Nat) : Int) = (size : Int) - 1 - (1 + (c : Int)) by omega] at e3
  have h3 : ¬ (size : Int) < 2 := by omega
  have h3' : ¬ (size : Int) < 3 := by omega
  have h3n' : ¬ size < 3 := by omega
  have c0 : ((dv ns k 12 : Int) == 0) = false := by simp; omega
  have c1 : ((dv ns k 12 : Int) == 1) = false := by simp; omega
  have c5 : ¬ (dv ns k 12 : Int) < 5 := by omega
  have c5n : ¬ dv ns k 12 < 5 := by omega
  simp at e1 e3
  have d2' : dv ns k1 2 = 0 ∨ dv ns k1 2 = 1 := by omega
  have X : ∀ r : D, (callN fns fuel (N + 1 + 6) i__law_sentence [.ref t, .int size, .ref f, .int bs.length, .int sh] (dad S t ns k G) = .ok r (dad S t ns k' (G ++ (G1 ++ (O.lst [.str w_and, .str w_or] :: G'))))) ↔ (.tup [(if dv ns k1 2 = 0 then .str w_and else .str w_or), enc a, enc b] = r) := by
    intro r
    rw [call_eq f__law_sentence rfl]
    by_cases h8 : dv ns k 12 < 8
    · have h8i : (dv ns k 12 : Int) < 8 := by omega
      have hb : ¬ (bs.length : Int) < 3 := by omega
      have hbn : ¬ bs.length < 3 := by omega
      have c8 : ((dv ns k 12 : Int) == 8) = false := by simp; omega
      rcases d2' with d | d
      · simp [B__law_sentence, draw_eq hl h1, dw, hk0, hk1, hk2, h3, h3', h3n', c0, c1, c5, c5n, h8, h8i, hb, hbn, c8, dad_app hl, dad_len, dad_nw2 hl, dad_nw0 hl, dad_new hl, e1, e3, d]
      · simp [B__law_sentence, draw_eq hl h1, dw, hk0, hk1, hk2, h3, h3', h3n', c0, c1, c5, c5n, h8, h8i, hb, hbn, c8, dad_app hl, dad_len, dad_nw2 hl, dad_nw0 hl, dad_new hl, e1, e3, d]
    · have h8i : ¬ (dv ns k 12 : Int) < 8 := by omega
      by_cases he : dv ns k 12 = 8
      · have hs : ¬ (sh : Int) < 2 := by omega
        have hsn : ¬ sh < 2 := by omega
        rcases d2' with d | d
        · simp [B__law_sentence, draw_eq hl h1, dw, hk0, hk1, hk2, h3, h3', h3n', he, hs, hsn, dad_app hl, dad_len, dad_nw2 hl, dad_nw0 hl, dad_new hl, e1, e3, d]
        · simp [B__law_sentence, draw_eq hl h1, dw, hk0, hk1, hk2, h3, h3', h3n', he, hs, hsn, dad_app hl, dad_len, dad_nw2 hl, dad_nw0 hl, dad_new hl, e1, e3, d]
      · have c8 : ((dv ns k 12 : Int) == 8) = false := by simp; omega
        rcases d2' with d | d
        · simp [B__law_sentence, draw_eq hl h1, dw, hk0, hk1, hk2, h3, h3', h3n', c0, c1, c5, c5n, h8, h8i, c8, dad_app hl, dad_len, dad_nw2 hl, dad_nw0 hl, dad_new hl, e1, e3, d]
        · simp [B__law_sentence, draw_eq hl h1, dw, hk0, hk1, hk2, h3, h3', h3n', c0, c1, c5, c5n, h8, h8i, c8, dad_app hl, dad_len, dad_nw2 hl, dad_nw0 hl, dad_new hl, e1, e3, d]
  rcases d2' with d | d
  · refine ⟨.an a b, k', G1 ++ (O.lst [.str w_and, .str w_or] :: G'), (X _).mpr (by simp [d]), by omega, ⟨oka, okb⟩, by simp; omega⟩
  · refine ⟨.orr a b, k', G1 ++ (O.lst [.str w_and, .str w_or] :: G'), (X _).mpr (by simp [d]), by omega, ⟨oka, okb⟩, by simp; omega⟩
theorem sp_sent (hl : t < S.length) (h1 : ns.length ≤ 63) : ∀ (m : Nat) {size f k : Nat} {G : Store} {fr : Fr} {bs : List Nm} {sh N : Nat}, size ≤ m → SentIn S t ns k G f fr bs sh size → size ≤ N → SentOut fuel S t ns k G f fr bs sh size N := by
  intro m
  induction m with
  | zero => intro size f k G fr bs sh N hm I; have := I.hz; omega
  | succ m ih =>
    intro size f k G fr bs sh N hm I hN
    have d12 := dv_lt (k := k) (m := 12) h1 (lo_of I.hk (by omega)) (by omega)
    by_cases h2 : size < 2 ∨ dv ns k 12 = 0
    · exact sent_leaf hl h1 I h2
    obtain ⟨N, rfl⟩ : ∃ M, N = M + 1 := ⟨N - 1, by omega⟩
    have ih' : ∀ {size' f k G fr bs sh}, size' < size → SentIn S t ns k G f fr bs sh size' → SentOut fuel S t ns k G f fr bs sh size' N := fun h J => ih (by omega) J (by omega)
    have ih1 : ∀ {f k G fr bs sh}, SentIn S t ns k G f fr bs sh (size - 1) → SentOut fuel S t ns k G f fr bs sh (size - 1) N := fun J => ih' (by omega) J
    by_cases e1 : dv ns k 12 = 1
    · exact sent_not hl h1 I (by omega) e1 ih1
    by_cases e5 : dv ns k 12 < 5 ∨ size < 3
    · exact sent_step hl h1 I (by omega) (by omega) e1 e5 ih1
    by_cases e8 : dv ns k 12 < 8 ∧ bs.length < 3
    · exact sent_bind hl h1 I (by omega) (by omega) e8.1 e8.2 ih1
    by_cases es : dv ns k 12 = 8 ∧ sh < 2
    · exact sent_show hl h1 I (by omega) es.1 es.2 ih'
    · exact sent_pair hl h1 I (by omega) (by omega) (by omega) (by omega) ih'
end Wl

set_option Elab.async false
set_option maxRecDepth 100000
set_option linter.all false
set_option maxHeartbeats 4000000
namespace Wl
open PySem L2 Dp
variable {S S1 S2 : Store} {n : Nat} {fuel : Nat} {t f k k' : Nat} {ns : List Int} {G G' : Store}
theorem first_word (s : Sen) : (∃ x, s = .fact x) ∨ ∃ w, (∀ S, idxD S (enc s) (.int 0) = some (.str w)) ∧ (w == w_fact) = false := by
  cases s with
  | fact x => exact .inl ⟨x, rfl⟩
  | _ => exact .inr ⟨_, fun _ => rfl, rfl⟩
theorem law_turn {i : Nat} {ss : List Sen} {a b c : Option D} (hl : 0 < S.length) (h1 : ns.length ≤ 63) (hg : ∀ k G, getL (dad S 0 ns k G) 1 = some (ss.map enc)) (hset : ∀ k G ys, (dad S 0 ns k G).set 1 (O.lst ys) = dad (S.set 1 (O.lst ys)) 0 ns k G) (hk : Lo (k + 400)) (hs : ss.length ≤ 100) :
    ∃ s k' G' x y z, execs (callN fns fuel 149) fuel L1_law [some (.rl (ns.map .int)), some (.ref 0), some (.ref 1), some (.int i), a, b, c] (dad S 0 ns k G) =
      .nx [some (.rl (ns.map .int)), some (.ref 0), some (.ref 1), some (.int i), x, y, z] (dad (S.set 1 (O.lst ((ss ++ [s]).map enc))) 0 ns k' G') ∧ k' ≤ k + 400 ∧ Ok s [] [] 0 ∧ (i = 0 → Ok s [] [] 1) ∧ sz s ≤ 40 := by
  have hk0 : Lo k := lo_of hk (by omega)
  have d40 := dv_lt (k := k) (m := 40) h1 hk0 (by omega)
  obtain ⟨sh, hsh⟩ : ∃ sh : Nat, sh = if i = 0 then 1 else 0 := ⟨_, rfl⟩
  have J : SentIn S 0 ns (k + 1) (G ++ [O.lst []]) (S.length + G.length) [] [] sh (1 + dv ns k 40) :=
    ⟨Fx.new (xs := []) hl, by simp, by simp, ⟨by simp, by simp⟩, by rw [hsh]; split <;> omega, lo_of hk (by omega), by omega⟩
  obtain ⟨s, k1, G1, e1, hk1, ok, hz⟩ := sp_sent (fuel := fuel) hl h1 _ (Nat.le_refl _) (N := 143) J (by omega)
  have hk2 : Lo k1 := lo_of hk (by omega)
  have ok0 : Ok s [] [] 0 := ok_less (Nat.zero_le _) ok
  have shi : (1 : Int) - (if 0 < i then 1 else 0) = sh := by
    rw [hsh]
    by_cases h : i = 0
    · simp [h]
    · have : 0 < i := by omega
      simp [h, this]
  simp at e1
  have la : ss.length < 16777216 := by omega
  rcases first_word s with ⟨x, rfl⟩ | ⟨w, hw, hw2⟩
  · have d5 := dv_lt (k := k1) (m := 5) h1 hk2 (by omega)
    obtain ⟨y, hy, ey⟩ : ∃ y, isName y = true ∧ atI [D.str [102, 97, 99, 116], D.str [111, 110], D.str [115, 104, 111, 119], D.str [97, 98, 99, 100, 101, 102, 103, 104], D.str [122]] (dv ns k1 5) = some (.str y) := by
      have : dv ns k1 5 = 0 ∨ dv ns k1 5 = 1 ∨ dv ns k1 5 = 2 ∨ dv ns k1 5 = 3 ∨ dv ns k1 5 = 4 := by omega
      rcases this with h | h | h | h | h <;> rw [h] <;> exact ⟨_, by decide, rfl⟩
    refine ⟨.fact y, k1 + 1, G ++ (O.lst [] :: (G1 ++ [O.lst [D.str [102, 97, 99, 116], D.str [111, 110], D.str [115, 104, 111, 119], D.str [97, 98, 99, 100, 101, 102, 103, 104], D.str [122]]])), some (enc (.fact y)), b, c, ?_, by omega, hy, fun _ => hy, by simp⟩
    simp [L1_law, draw_eq hl h1, hk0, hk2, dad_app hl, dad_len, dad_nw2 hl, dad_nw0 hl, dad_new hl, shi, e1, ey, -atn, hg, hset, la]
  · refine ⟨s, k1, G ++ (O.lst [] :: G1), some (enc s), b, c, ?_, by omega, ok0, fun h => by rw [hsh, if_pos h] at ok; exact ok, by omega⟩
    have hw3 : (w == [102, 97, 99, 116]) = false := hw2
    simp [L1_law, draw_eq hl h1, hk0, hk2, dad_app hl, dad_len, dad_nw2 hl, dad_nw0 hl, dad_new hl, shi, e1, hw, hw3, hg, hset, la]
end Wl

set_option Elab.async false
set_option maxRecDepth 100000
set_option linter.all false
set_option maxHeartbeats 4000000
namespace Wl
open PySem L2 Dp
variable {S S1 S2 : Store} {n : Nat} {fuel : Nat} {t f k k' : Nat} {ns : List Int} {G G' : Store}
theorem check_turn {s : Sen} {v0 v1 v2 v3 v5 v6 : Option D} (ok : Ok s [] [] 0) (hz : sz s ≤ 60) (hf : 1000 < fuel) :
    ∃ G, execs (callN fns fuel 149) fuel L2_law [v0, v1, v2, v3, some (enc s), v5, v6] S = .nx [v0, v1, v2, v3, some (enc s), v5, some (.str (text s))] (S ++ G) := by
  have ne := ok_neat ok
  have e1 := sp_law_text (fuel := fuel) (S := S) ne (by omega) (N := 148) (by omega)
  obtain ⟨G1, e2⟩ := sp_shown (n := 145) (S := S) ne (by omega) hf
  obtain ⟨G2, e3⟩ := same_self (fuel := fuel) (Pl.str (k := 0) (text s)) (n := 148) (S := S ++ G1) (by omega)
  obtain ⟨G3, e4⟩ := sp_read_sentence (fuel := fuel) (S := S ++ G1 ++ G2) (N := 142) ok hz (by omega)
  obtain ⟨G4, e5⟩ := same_self (fuel := fuel) (pl_enc ne) (n := 148) (S := S ++ G1 ++ G2 ++ G3) (by omega)
  simp at e1 e2 e3 e4 e5
  refine ⟨G1 ++ (G2 ++ (G3 ++ G4)), ?_⟩
  simp [L2_law, e1, e2, e3, e4, e5]
def LInv (ns : List Int) (i : Nat) (e : Dp.Env) (S : Store) : Prop :=
  (∃ x a b c, e = [some (.rl (ns.map .int)), some (.ref 0), some (.ref 1), x, a, b, c]) ∧ ∃ (ss : List Sen) (k : Nat) (G : Store), S = dad [O.lst [.rl (ns.map .int), .int 0], O.lst (ss.map enc)] 0 ns k G ∧ ss.length = i ∧ k ≤ 400 * i ∧ (∀ s ∈ ss, Ok s [] [] 0 ∧ sz s ≤ 40) ∧ ∀ s, ss[0]? = some s → Ok s [] [] 1
theorem linv_turn {i : Nat} {d : D} {e : Dp.Env} {S : Store} (h1 : ns.length ≤ 63) (hd : (ups 0 12)[i]? = some d) (I : LInv ns i e S) : ∃ e' S', execs (callN fns fuel 149) fuel L1_law (e.set 3 (some d)) S = .nx e' S' ∧ LInv ns (i + 1) e' S' := by
  obtain ⟨⟨x, a, b, c, rfl⟩, ss, k, G, rfl, hlen, hk, hss, h0⟩ := I
  obtain ⟨rfl, hi⟩ := ups_at hd
  obtain ⟨s, k', G', x', y', z', e1, hk', ok, ok1, hz⟩ := law_turn (fuel := fuel) (S := [O.lst [.rl (ns.map .int), .int 0], O.lst (ss.map enc)]) (ns := ns) (i := i) (ss := ss) (k := k) (G := G) (a := a) (b := b) (c := c) (by simp) h1 (by intro k G; simp [dad]) (by intro k G ys; simp [dad]) (by unfold Lo; omega) (by omega)
  have ez : (0 : Int) + (i : Int) = i := by omega
  refine ⟨_, _, by rw [ez]; exact e1, ⟨_, _, _, _, rfl⟩, ss ++ [s], k', G', by simp, by simp [hlen], by omega, ?_, ?_⟩
  · intro u hu
    rcases List.mem_append.mp hu with h | h
    · exact hss u h
    · simp at h; subst h; exact ⟨ok, hz⟩
  · intro u hu
    cases ss with
    | nil => simp at hu; subst hu; exact ok1 (by simpa using hlen.symm)
    | cons v r => simp at hu; subst hu; exact h0 v rfl
def eOf : ER → Dp.Env
  | .nx e _ => e
  | _ => []
def sOf : ER → Store
  | .nx _ S => S
  | _ => []
theorem loop2_rw {us : List Sen} {m r : Nat} {S5 : Store} {v0 v1 v2 v3 x v5 c : Option D} (hg : getL S5 r = some (us.map enc)) (hm : m = us.length) (ok : ∀ s ∈ us, Ok s [] [] 0 ∧ sz s ≤ 60) :
    forGo (fun i S' => Option.map (fun ys => ys[i]?) (getL S' r)) (fun d e S2 => Dp.execs (callN fns 100000 149) 100000 L2_law (List.set e 4 (some d)) S2) m 0 [v0, v1, v2, v3, x, v5, c] S5 =
      .nx (eOf (forGo (fun i S' => Option.map (fun ys => ys[i]?) (getL S' r)) (fun d e S2 => Dp.execs (callN fns 100000 149) 100000 L2_law (List.set e 4 (some d)) S2) m 0 [v0, v1, v2, v3, x, v5, c] S5))
        (sOf (forGo (fun i S' => Option.map (fun ys => ys[i]?) (getL S' r)) (fun d e S2 => Dp.execs (callN fns 100000 149) 100000 L2_law (List.set e 4 (some d)) S2) m 0 [v0, v1, v2, v3, x, v5, c] S5)) := by
  obtain ⟨e', S', h, _⟩ := for_inv (get := fun i S' => Option.map (fun ys => ys[i]?) (getL S' r)) (body := fun d e S2 => Dp.execs (callN fns 100000 149) 100000 L2_law (List.set e 4 (some d)) S2) (us.map enc)
    (fun _ e S => (∃ x c, e = [v0, v1, v2, v3, x, v5, c]) ∧ ∃ G, S = S5 ++ G)
    (fun i e S I => by obtain ⟨_, G, rfl⟩ := I; rw [getL_grow hg]; rfl)
    (fun i d e S hd I => by
      obtain ⟨⟨x, c, rfl⟩, G, rfl⟩ := I
      rw [List.getElem?_map, Option.map_eq_some_iff] at hd
      obtain ⟨s, hs, rfl⟩ := hd
      have o := ok s (List.mem_of_getElem? hs)
      obtain ⟨G', e1⟩ := check_turn (fuel := 100000) (S := S5 ++ G) (v0 := v0) (v1 := v1) (v2 := v2) (v3 := v3) (v5 := v5) (v6 := c) o.1 o.2 (by omega)
      exact ⟨_, _, .inl e1, ⟨_, _, rfl⟩, G ++ G', by simp⟩) (k := m) (i := 0) (e := [v0, v1, v2, v3, x, v5, c]) (S := S5) (by simp [hm]) ⟨⟨_, _, rfl⟩, [], by simp⟩
  rw [h]; rfl
theorem law_true : ∀ ns : List Int, ns.length ≤ 63 → ∃ S, callN fns 100000 150 31 [.rl (ns.map .int)] [] = .ok (.bl true) S := by
  intro ns h1
  rw [call_eq (n := 149) f_law rfl]
  obtain ⟨e', S', h3, ⟨x, a, b, c, rfl⟩, ss, k, G, rfl, hlen, hk, hss, h0⟩ := for_inv (get := fun i _ => some (ups 0 12)[i]?) (body := fun d e S2 => execs (callN fns 100000 149) 100000 L1_law (e.set 3 (some d)) S2) (ups 0 12) (LInv ns)
    (fun _ _ _ _ => rfl) (fun i d e S hd I => by obtain ⟨e', S', a, b⟩ := linv_turn (fuel := 100000) h1 hd I; exact ⟨e', S', .inl a, b⟩) (k := 12) (i := 0) (e := [some (.rl (ns.map .int)), some (.ref 0), some (.ref 1), none, none, none, none]) (S := [O.lst [.rl (ns.map .int), .int 0], O.lst []]) (by simp)
    ⟨⟨_, _, _, _, rfl⟩, [], 0, [], by simp [dad], rfl, by omega, by simp, by simp⟩
  simp [B_law]
  rw [itUp_eq (by decide) (by decide)]
  simp
  rw [h3]
  obtain ⟨s0, r, rfl⟩ : ∃ s0 r, ss = s0 :: r := by
    cases ss with
    | nil => simp at hlen
    | cons v r => exact ⟨v, r, rfl⟩
  simp at hlen
  have hr : r.length = 11 := by omega
  simp [dad, hr]
  have okA : Ok (.som (.one [[97], [97, 98], [97, 98, 99], [98]]) (.evr (.pool [[97], [97, 98], [98], [111, 110, 101]]) (.fact [111, 110]))) [] [] 0 := ⟨by decide, by decide, (by decide : isName [111, 110] = true)⟩
  have okB : Ok (.shw [[97], [98, 97, 99, 107], [111, 110], [112, 111, 111, 108]] s0 (.fact [115, 104, 111, 119])) [] [] 0 := ⟨by decide, by omega, h0 s0 rfl, (by decide : isName [115, 104, 111, 119] = true)⟩
  have z0 := (hss s0 (by simp)).2
  have all2 : ∀ s ∈ r ++ [.som (.one [[97], [97, 98], [97, 98, 99], [98]]) (.evr (.pool [[97], [97, 98], [98], [111, 110, 101]]) (.fact [111, 110])), Sen.shw [[97], [98, 97, 99, 107], [111, 110], [112, 111, 111, 108]] s0 (.fact [115, 104, 111, 119])], Ok s [] [] 0 ∧ sz s ≤ 60 := by
    intro s hs
    rcases List.mem_append.mp hs with h | h
    · have := hss s (.tail _ h); exact ⟨this.1, by omega⟩
    · simp at h
      rcases h with rfl | rfl
      · exact ⟨okA, by decide⟩
      · exact ⟨okB, by simp; omega⟩
  have ok0 : Ok s0 [] [] 0 ∧ sz s0 ≤ 60 := ⟨(hss s0 (by simp)).1, by omega⟩
  rw [loop2_rw (us := s0 :: (r ++ Sen.som (.one [[97], [97, 98], [97, 98, 99], [98]]) (.evr (.pool [[97], [97, 98], [98], [111, 110, 101]]) (.fact [111, 110])) :: Sen.shw [[97], [98, 97, 99, 107], [111, 110], [112, 111, 111, 108]] s0 (.fact [115, 104, 111, 119]) :: s0 :: (r ++ [Sen.som (.one [[97], [97, 98], [97, 98, 99], [98]]) (.evr (.pool [[97], [97, 98], [98], [111, 110, 101]]) (.fact [111, 110])), Sen.shw [[97], [98, 97, 99, 107], [111, 110], [112, 111, 111, 108]] s0 (.fact [115, 104, 111, 119])]).take 2)) (by simp [List.map_take, encH]) (by simp [hr]) (by
    intro s hs
    rcases List.mem_cons.mp hs with rfl | hs
    · exact ok0
    rcases List.mem_append.mp hs with h | h
    · exact all2 s (List.mem_append.mpr (.inl h))
    rcases List.mem_cons.mp h with rfl | h
    · exact all2 _ (by simp)
    rcases List.mem_cons.mp h with rfl | h
    · exact all2 _ (by simp)
    rcases List.mem_cons.mp h with rfl | h
    · exact ok0
    · exact all2 s (List.mem_of_mem_take h))]
  simp
end Wl

set_option Elab.async false
set_option maxRecDepth 100000
set_option linter.all false
set_option maxHeartbeats 0
namespace Wl
open PySem PySem.Spec PyProof.Rows L2 TL Dp
theorem all_mk {l : PySem.W.OpenLaw} {w : World} {K : PySem.W.Frag} {h : Heap} {mg : Str → Option Value} {fa : Addr} (X : K.In h) (G : h.Ns mainGlobals mg) (hfa : mg "law" = some (.ref fa))
    {f0 : Addr} {od0 : Option Addr} {an0 : Option Addr} {sl0 : Array (Option Value)} {oc0 : Value} {kV0 : Value} {dc0 : Value} {pm0 : Value} {cd0 : Value} {ct0 : Value} {f1 : Addr} {od1 : Option Addr} {an1 : Option Addr} {sl1 : Array (Option Value)} {oc1 : Value} {kV1 : Value} {dc1 : Value} {pm1 : Value} {cd1 : Value} {ct1 : Value} {f2 : Addr} {od2 : Option Addr} {an2 : Option Addr} {sl2 : Array (Option Value)} {oc2 : Value} {kV2 : Value} {dc2 : Value} {pm2 : Value} {cd2 : Value} {ct2 : Value} {f3 : Addr} {od3 : Option Addr} {an3 : Option Addr} {sl3 : Array (Option Value)} {oc3 : Value} {kV3 : Value} {dc3 : Value} {pm3 : Value} {cd3 : Value} {ct3 : Value} {f4 : Addr} {od4 : Option Addr} {an4 : Option Addr} {sl4 : Array (Option Value)} {oc4 : Value} {kV4 : Value} {dc4 : Value} {pm4 : Value} {cd4 : Value} {ct4 : Value} {f5 : Addr} {od5 : Option Addr} {an5 : Option Addr} {sl5 : Array (Option Value)} {oc5 : Value} {kV5 : Value} {dc5 : Value} {pm5 : Value} {cd5 : Value} {ct5 : Value} {f6 : Addr} {od6 : Option Addr} {an6 : Option Addr} {sl6 : Array (Option Value)} {oc6 : Value} {kV6 : Value} {dc6 : Value} {pm6 : Value} {cd6 : Value} {ct6 : Value} {f7 : Addr} {od7 : Option Addr} {an7 : Option Addr} {sl7 : Array (Option Value)} {oc7 : Value} {kV7 : Value} {dc7 : Value} {pm7 : Value} {cd7 : Value} {ct7 : Value} {f8 : Addr} {od8 : Option Addr} {an8 : Option Addr} {sl8 : Array (Option Value)} {oc8 : Value} {kV8 : Value} {dc8 : Value} {pm8 : Value} {cd8 : Value} {ct8 : Value} {f9 : Addr} {od9 : Option Addr} {an9 : Option Addr} {sl9 : Array (Option Value)} {oc9 : Value} {kV9 : Value} {dc9 : Value} {pm9 : Value} {cd9 : Value} {ct9 : Value} {f10 : Addr} {od10 : Option Addr} {an10 : Option Addr} {sl10 : Array (Option Value)} {oc10 : Value} {kV10 : Value} {dc10 : Value} {pm10 : Value} {cd10 : Value} {ct10 : Value} {f11 : Addr} {od11 : Option Addr} {an11 : Option Addr} {sl11 : Array (Option Value)} {oc11 : Value} {kV11 : Value} {dc11 : Value} {pm11 : Value} {cd11 : Value} {ct11 : Value} {f12 : Addr} {od12 : Option Addr} {an12 : Option Addr} {sl12 : Array (Option Value)} {oc12 : Value} {kV12 : Value} {dc12 : Value} {pm12 : Value} {cd12 : Value} {ct12 : Value} {f13 : Addr} {od13 : Option Addr} {an13 : Option Addr} {sl13 : Array (Option Value)} {oc13 : Value} {kV13 : Value} {dc13 : Value} {pm13 : Value} {cd13 : Value} {ct13 : Value} {f14 : Addr} {od14 : Option Addr} {an14 : Option Addr} {sl14 : Array (Option Value)} {oc14 : Value} {kV14 : Value} {dc14 : Value} {pm14 : Value} {cd14 : Value} {ct14 : Value} {f15 : Addr} {od15 : Option Addr} {an15 : Option Addr} {sl15 : Array (Option Value)} {oc15 : Value} {kV15 : Value} {dc15 : Value} {pm15 : Value} {cd15 : Value} {ct15 : Value} {f16 : Addr} {od16 : Option Addr} {an16 : Option Addr} {sl16 : Array (Option Value)} {oc16 : Value} {kV16 : Value} {dc16 : Value} {pm16 : Value} {cd16 : Value} {ct16 : Value} {f17 : Addr} {od17 : Option Addr} {an17 : Option Addr} {sl17 : Array (Option Value)} {oc17 : Value} {kV17 : Value} {dc17 : Value} {pm17 : Value} {cd17 : Value} {ct17 : Value} {f18 : Addr} {od18 : Option Addr} {an18 : Option Addr} {sl18 : Array (Option Value)} {oc18 : Value} {kV18 : Value} {dc18 : Value} {pm18 : Value} {cd18 : Value} {ct18 : Value} {f19 : Addr} {od19 : Option Addr} {an19 : Option Addr} {sl19 : Array (Option Value)} {oc19 : Value} {kV19 : Value} {dc19 : Value} {pm19 : Value} {cd19 : Value} {ct19 : Value} {f20 : Addr} {od20 : Option Addr} {an20 : Option Addr} {sl20 : Array (Option Value)} {oc20 : Value} {kV20 : Value} {dc20 : Value} {pm20 : Value} {cd20 : Value} {ct20 : Value} {f21 : Addr} {od21 : Option Addr} {an21 : Option Addr} {sl21 : Array (Option Value)} {oc21 : Value} {kV21 : Value} {dc21 : Value} {pm21 : Value} {cd21 : Value} {ct21 : Value} {f22 : Addr} {od22 : Option Addr} {an22 : Option Addr} {sl22 : Array (Option Value)} {oc22 : Value} {kV22 : Value} {dc22 : Value} {pm22 : Value} {cd22 : Value} {ct22 : Value} {f23 : Addr} {od23 : Option Addr} {an23 : Option Addr} {sl23 : Array (Option Value)} {oc23 : Value} {kV23 : Value} {dc23 : Value} {pm23 : Value} {cd23 : Value} {ct23 : Value} {f24 : Addr} {od24 : Option Addr} {an24 : Option Addr} {sl24 : Array (Option Value)} {oc24 : Value} {kV24 : Value} {dc24 : Value} {pm24 : Value} {cd24 : Value} {ct24 : Value} {f25 : Addr} {od25 : Option Addr} {an25 : Option Addr} {sl25 : Array (Option Value)} {oc25 : Value} {kV25 : Value} {dc25 : Value} {pm25 : Value} {cd25 : Value} {ct25 : Value} {f26 : Addr} {od26 : Option Addr} {an26 : Option Addr} {sl26 : Array (Option Value)} {oc26 : Value} {kV26 : Value} {dc26 : Value} {pm26 : Value} {cd26 : Value} {ct26 : Value} {f27 : Addr} {od27 : Option Addr} {an27 : Option Addr} {sl27 : Array (Option Value)} {oc27 : Value} {kV27 : Value} {dc27 : Value} {pm27 : Value} {cd27 : Value} {ct27 : Value} {f28 : Addr} {od28 : Option Addr} {an28 : Option Addr} {sl28 : Array (Option Value)} {oc28 : Value} {kV28 : Value} {dc28 : Value} {pm28 : Value} {cd28 : Value} {ct28 : Value} {f29 : Addr} {od29 : Option Addr} {an29 : Option Addr} {sl29 : Array (Option Value)} {oc29 : Value} {kV29 : Value} {dc29 : Value} {pm29 : Value} {cd29 : Value} {ct29 : Value} {f30 : Addr} {od30 : Option Addr} {an30 : Option Addr} {sl30 : Array (Option Value)} {oc30 : Value} {kV30 : Value} {dc30 : Value} {pm30 : Value} {cd30 : Value} {ct30 : Value} {f31 : Addr} {od31 : Option Addr} {an31 : Option Addr} {sl31 : Array (Option Value)} {oc31 : Value} {kV31 : Value} {dc31 : Value} {pm31 : Value} {cd31 : Value} {ct31 : Value} {t1 : Tok} {t2 : Tok} {t3 : Tok} {t4 : Tok} {t5 : Tok} {t6 : Tok} {t7 : Tok} {t8 : Tok} {t9 : Tok} {t10 : Tok} {t11 : Tok} {t12 : Tok} {t13 : Tok} {t14 : Tok} {t15 : Tok} {t16 : Tok} {ad17 : Addr} {nn18 : Nat} {hh19 : Int} {hh20 : Int} {hh21 : Int} {hh22 : Int} {hh23 : Int} {hh24 : Int} {hh25 : Int} {hh26 : Int} {hh27 : Int} {hh28 : Int} {t29 : Tok} {t30 : Tok} {t31 : Tok} {t32 : Tok} {t33 : Tok} {t34 : Tok} {t35 : Tok} {t36 : Tok} {t37 : Tok} {t38 : Tok} {ad40 : Addr} {od41 : Option Addr} {nn42 : Nat} {sl43 : Array (Option Value)} {ad45 : Addr} {od46 : Option Addr} {nn47 : Nat} {sl48 : Array (Option Value)} {t50 : Tok} {ad51 : Addr} {od52 : Option Addr} {nn53 : Nat} {sl54 : Array (Option Value)} {t56 : Tok}
    (xa0 : PySem.W.nsIn K mainGlobals "is_name" = some (some (.ref f0)))
    (xl0 : K.lookup f0 = some ⟨oc0, od0, .func (PySem.W.fnOf "is_name" "is_name" (defArgs st0) (defBody st0) (defScope st0) .none kV0 dc0 pm0 an0 cd0 ct0), sl0⟩)
    (xc0 : PySem.W.codeIn K cd0 "is_name" = true)
    (xp0 : PySem.W.keepIn K (.ref f0) = true)
    (xa1 : PySem.W.nsIn K mainGlobals "are_rising" = some (some (.ref f1)))
    (xl1 : K.lookup f1 = some ⟨oc1, od1, .func (PySem.W.fnOf "are_rising" "are_rising" (defArgs st1) (defBody st1) (defScope st1) .none kV1 dc1 pm1 an1 cd1 ct1), sl1⟩)
    (xc1 : PySem.W.codeIn K cd1 "are_rising" = true)
    (xp1 : PySem.W.keepIn K (.ref f1) = true)
    (xa2 : PySem.W.nsIn K mainGlobals "is_hands" = some (some (.ref f2)))
    (xl2 : K.lookup f2 = some ⟨oc2, od2, .func (PySem.W.fnOf "is_hands" "is_hands" (defArgs st2) (defBody st2) (defScope st2) .none kV2 dc2 pm2 an2 cd2 ct2), sl2⟩)
    (xc2 : PySem.W.codeIn K cd2 "is_hands" = true)
    (xp2 : PySem.W.keepIn K (.ref f2) = true)
    (xa3 : PySem.W.nsIn K mainGlobals "parts_of" = some (some (.ref f3)))
    (xl3 : K.lookup f3 = some ⟨oc3, od3, .func (PySem.W.fnOf "parts_of" "parts_of" (defArgs st3) (defBody st3) (defScope st3) .none kV3 dc3 pm3 an3 cd3 ct3), sl3⟩)
    (xc3 : PySem.W.codeIn K cd3 "parts_of" = true)
    (xp3 : PySem.W.keepIn K (.ref f3) = true)
    (xa4 : PySem.W.nsIn K mainGlobals "can_stand" = some (some (.ref f4)))
    (xl4 : K.lookup f4 = some ⟨oc4, od4, .func (PySem.W.fnOf "can_stand" "can_stand" (defArgs st4) (defBody st4) (defScope st4) .none kV4 dc4 pm4 an4 cd4 ct4), sl4⟩)
    (xc4 : PySem.W.codeIn K cd4 "can_stand" = true)
    (xp4 : PySem.W.keepIn K (.ref f4) = true)
    (xa5 : PySem.W.nsIn K mainGlobals "within_it" = some (some (.ref f5)))
    (xl5 : K.lookup f5 = some ⟨oc5, od5, .func (PySem.W.fnOf "within_it" "within_it" (defArgs st5) (defBody st5) (defScope st5) .none kV5 dc5 pm5 an5 cd5 ct5), sl5⟩)
    (xc5 : PySem.W.codeIn K cd5 "within_it" = true)
    (xp5 : PySem.W.keepIn K (.ref f5) = true)
    (xa6 : PySem.W.nsIn K mainGlobals "rows_of" = some (some (.ref f6)))
    (xl6 : K.lookup f6 = some ⟨oc6, od6, .func (PySem.W.fnOf "rows_of" "rows_of" (defArgs st6) (defBody st6) (defScope st6) .none kV6 dc6 pm6 an6 cd6 ct6), sl6⟩)
    (xc6 : PySem.W.codeIn K cd6 "rows_of" = true)
    (xp6 : PySem.W.keepIn K (.ref f6) = true)
    (xa7 : PySem.W.nsIn K mainGlobals "things_of" = some (some (.ref f7)))
    (xl7 : K.lookup f7 = some ⟨oc7, od7, .func (PySem.W.fnOf "things_of" "things_of" (defArgs st7) (defBody st7) (defScope st7) .none kV7 dc7 pm7 an7 cd7 ct7), sl7⟩)
    (xc7 : PySem.W.codeIn K cd7 "things_of" = true)
    (xp7 : PySem.W.keepIn K (.ref f7) = true)
    (xa8 : PySem.W.nsIn K mainGlobals "words_of" = some (some (.ref f8)))
    (xl8 : K.lookup f8 = some ⟨oc8, od8, .func (PySem.W.fnOf "words_of" "words_of" (defArgs st8) (defBody st8) (defScope st8) .none kV8 dc8 pm8 an8 cd8 ct8), sl8⟩)
    (xc8 : PySem.W.codeIn K cd8 "words_of" = true)
    (xp8 : PySem.W.keepIn K (.ref f8) = true)
    (xa9 : PySem.W.nsIn K mainGlobals "shown_sentence" = some (some (.ref f9)))
    (xl9 : K.lookup f9 = some ⟨oc9, od9, .func (PySem.W.fnOf "shown_sentence" "shown_sentence" (defArgs st9) (defBody st9) (defScope st9) .none kV9 dc9 pm9 an9 cd9 ct9), sl9⟩)
    (xc9 : PySem.W.codeIn K cd9 "shown_sentence" = true)
    (xp9 : PySem.W.keepIn K (.ref f9) = true)
    (xa10 : PySem.W.nsIn K mainGlobals "next_word" = some (some (.ref f10)))
    (xl10 : K.lookup f10 = some ⟨oc10, od10, .func (PySem.W.fnOf "next_word" "next_word" (defArgs st10) (defBody st10) (defScope st10) .none kV10 dc10 pm10 an10 cd10 ct10), sl10⟩)
    (xc10 : PySem.W.codeIn K cd10 "next_word" = true)
    (xp10 : PySem.W.keepIn K (.ref f10) = true)
    (xa11 : PySem.W.nsIn K mainGlobals "refuse_word" = some (some (.ref f11)))
    (xl11 : K.lookup f11 = some ⟨oc11, od11, .func (PySem.W.fnOf "refuse_word" "refuse_word" (defArgs st11) (defBody st11) (defScope st11) .none kV11 dc11 pm11 an11 cd11 ct11), sl11⟩)
    (xc11 : PySem.W.codeIn K cd11 "refuse_word" = true)
    (xp11 : PySem.W.keepIn K (.ref f11) = true)
    (xa12 : PySem.W.nsIn K mainGlobals "read_name" = some (some (.ref f12)))
    (xl12 : K.lookup f12 = some ⟨oc12, od12, .func (PySem.W.fnOf "read_name" "read_name" (defArgs st12) (defBody st12) (defScope st12) .none kV12 dc12 pm12 an12 cd12 ct12), sl12⟩)
    (xc12 : PySem.W.codeIn K cd12 "read_name" = true)
    (xp12 : PySem.W.keepIn K (.ref f12) = true)
    (xa13 : PySem.W.nsIn K mainGlobals "read_hands" = some (some (.ref f13)))
    (xl13 : K.lookup f13 = some ⟨oc13, od13, .func (PySem.W.fnOf "read_hands" "read_hands" (defArgs st13) (defBody st13) (defScope st13) .none kV13 dc13 pm13 an13 cd13 ct13), sl13⟩)
    (xc13 : PySem.W.codeIn K cd13 "read_hands" = true)
    (xp13 : PySem.W.keepIn K (.ref f13) = true)
    (xa14 : PySem.W.nsIn K mainGlobals "read_step" = some (some (.ref f14)))
    (xl14 : K.lookup f14 = some ⟨oc14, od14, .func (PySem.W.fnOf "read_step" "read_step" (defArgs st14) (defBody st14) (defScope st14) .none kV14 dc14 pm14 an14 cd14 ct14), sl14⟩)
    (xc14 : PySem.W.codeIn K cd14 "read_step" = true)
    (xp14 : PySem.W.keepIn K (.ref f14) = true)
    (xa15 : PySem.W.nsIn K mainGlobals "begin_thing" = some (some (.ref f15)))
    (xl15 : K.lookup f15 = some ⟨oc15, od15, .func (PySem.W.fnOf "begin_thing" "begin_thing" (defArgs st15) (defBody st15) (defScope st15) .none kV15 dc15 pm15 an15 cd15 ct15), sl15⟩)
    (xc15 : PySem.W.codeIn K cd15 "begin_thing" = true)
    (xp15 : PySem.W.keepIn K (.ref f15) = true)
    (xa16 : PySem.W.nsIn K mainGlobals "read_binding" = some (some (.ref f16)))
    (xl16 : K.lookup f16 = some ⟨oc16, od16, .func (PySem.W.fnOf "read_binding" "read_binding" (defArgs st16) (defBody st16) (defScope st16) .none kV16 dc16 pm16 an16 cd16 ct16), sl16⟩)
    (xc16 : PySem.W.codeIn K cd16 "read_binding" = true)
    (xp16 : PySem.W.keepIn K (.ref f16) = true)
    (xa17 : PySem.W.nsIn K mainGlobals "read_head" = some (some (.ref f17)))
    (xl17 : K.lookup f17 = some ⟨oc17, od17, .func (PySem.W.fnOf "read_head" "read_head" (defArgs st17) (defBody st17) (defScope st17) .none kV17 dc17 pm17 an17 cd17 ct17), sl17⟩)
    (xc17 : PySem.W.codeIn K cd17 "read_head" = true)
    (xp17 : PySem.W.keepIn K (.ref f17) = true)
    (xa18 : PySem.W.nsIn K mainGlobals "read_thing" = some (some (.ref f18)))
    (xl18 : K.lookup f18 = some ⟨oc18, od18, .func (PySem.W.fnOf "read_thing" "read_thing" (defArgs st18) (defBody st18) (defScope st18) .none kV18 dc18 pm18 an18 cd18 ct18), sl18⟩)
    (xc18 : PySem.W.codeIn K cd18 "read_thing" = true)
    (xp18 : PySem.W.keepIn K (.ref f18) = true)
    (xa19 : PySem.W.nsIn K mainGlobals "read_sentence" = some (some (.ref f19)))
    (xl19 : K.lookup f19 = some ⟨oc19, od19, .func (PySem.W.fnOf "read_sentence" "read_sentence" (defArgs st19) (defBody st19) (defScope st19) .none kV19 dc19 pm19 an19 cd19 ct19), sl19⟩)
    (xc19 : PySem.W.codeIn K cd19 "read_sentence" = true)
    (xp19 : PySem.W.keepIn K (.ref f19) = true)
    (xa20 : PySem.W.nsIn K mainGlobals "_law_cell_at" = some (some (.ref f20)))
    (xl20 : K.lookup f20 = some ⟨oc20, od20, .func (PySem.W.fnOf "_law_cell_at" "_law_cell_at" (defArgs st20) (defBody st20) (defScope st20) .none kV20 dc20 pm20 an20 cd20 ct20), sl20⟩)
    (xc20 : PySem.W.codeIn K cd20 "_law_cell_at" = true)
    (xp20 : PySem.W.keepIn K (.ref f20) = true)
    (xa21 : PySem.W.nsIn K mainGlobals "_law_by" = some (some (.ref f21)))
    (xl21 : K.lookup f21 = some ⟨oc21, od21, .func (PySem.W.fnOf "_law_by" "_law_by" (defArgs st21) (defBody st21) (defScope st21) .none kV21 dc21 pm21 an21 cd21 ct21), sl21⟩)
    (xc21 : PySem.W.codeIn K cd21 "_law_by" = true)
    (xp21 : PySem.W.keepIn K (.ref f21) = true)
    (xa22 : PySem.W.nsIn K mainGlobals "_law_next" = some (some (.ref f22)))
    (xl22 : K.lookup f22 = some ⟨oc22, od22, .func (PySem.W.fnOf "_law_next" "_law_next" (defArgs st22) (defBody st22) (defScope st22) .none kV22 dc22 pm22 an22 cd22 ct22), sl22⟩)
    (xc22 : PySem.W.codeIn K cd22 "_law_next" = true)
    (xp22 : PySem.W.keepIn K (.ref f22) = true)
    (xa23 : PySem.W.nsIn K mainGlobals "_law_hands" = some (some (.ref f23)))
    (xl23 : K.lookup f23 = some ⟨oc23, od23, .func (PySem.W.fnOf "_law_hands" "_law_hands" (defArgs st23) (defBody st23) (defScope st23) .none kV23 dc23 pm23 an23 cd23 ct23), sl23⟩)
    (xc23 : PySem.W.codeIn K cd23 "_law_hands" = true)
    (xp23 : PySem.W.keepIn K (.ref f23) = true)
    (xa24 : PySem.W.nsIn K mainGlobals "_law_step" = some (some (.ref f24)))
    (xl24 : K.lookup f24 = some ⟨oc24, od24, .func (PySem.W.fnOf "_law_step" "_law_step" (defArgs st24) (defBody st24) (defScope st24) .none kV24 dc24 pm24 an24 cd24 ct24), sl24⟩)
    (xc24 : PySem.W.codeIn K cd24 "_law_step" = true)
    (xp24 : PySem.W.keepIn K (.ref f24) = true)
    (xa25 : PySem.W.nsIn K mainGlobals "_law_leaf" = some (some (.ref f25)))
    (xl25 : K.lookup f25 = some ⟨oc25, od25, .func (PySem.W.fnOf "_law_leaf" "_law_leaf" (defArgs st25) (defBody st25) (defScope st25) .none kV25 dc25 pm25 an25 cd25 ct25), sl25⟩)
    (xc25 : PySem.W.codeIn K cd25 "_law_leaf" = true)
    (xp25 : PySem.W.keepIn K (.ref f25) = true)
    (xa26 : PySem.W.nsIn K mainGlobals "_law_sentence" = some (some (.ref f26)))
    (xl26 : K.lookup f26 = some ⟨oc26, od26, .func (PySem.W.fnOf "_law_sentence" "_law_sentence" (defArgs st26) (defBody st26) (defScope st26) .none kV26 dc26 pm26 an26 cd26 ct26), sl26⟩)
    (xc26 : PySem.W.codeIn K cd26 "_law_sentence" = true)
    (xp26 : PySem.W.keepIn K (.ref f26) = true)
    (xa27 : PySem.W.nsIn K mainGlobals "_law_kind" = some (some (.ref f27)))
    (xl27 : K.lookup f27 = some ⟨oc27, od27, .func (PySem.W.fnOf "_law_kind" "_law_kind" (defArgs st27) (defBody st27) (defScope st27) .none kV27 dc27 pm27 an27 cd27 ct27), sl27⟩)
    (xc27 : PySem.W.codeIn K cd27 "_law_kind" = true)
    (xp27 : PySem.W.keepIn K (.ref f27) = true)
    (xa28 : PySem.W.nsIn K mainGlobals "_law_same" = some (some (.ref f28)))
    (xl28 : K.lookup f28 = some ⟨oc28, od28, .func (PySem.W.fnOf "_law_same" "_law_same" (defArgs st28) (defBody st28) (defScope st28) .none kV28 dc28 pm28 an28 cd28 ct28), sl28⟩)
    (xc28 : PySem.W.codeIn K cd28 "_law_same" = true)
    (xp28 : PySem.W.keepIn K (.ref f28) = true)
    (xa29 : PySem.W.nsIn K mainGlobals "_law_step_words" = some (some (.ref f29)))
    (xl29 : K.lookup f29 = some ⟨oc29, od29, .func (PySem.W.fnOf "_law_step_words" "_law_step_words" (defArgs st29) (defBody st29) (defScope st29) .none kV29 dc29 pm29 an29 cd29 ct29), sl29⟩)
    (xc29 : PySem.W.codeIn K cd29 "_law_step_words" = true)
    (xp29 : PySem.W.keepIn K (.ref f29) = true)
    (xa30 : PySem.W.nsIn K mainGlobals "_law_text" = some (some (.ref f30)))
    (xl30 : K.lookup f30 = some ⟨oc30, od30, .func (PySem.W.fnOf "_law_text" "_law_text" (defArgs st30) (defBody st30) (defScope st30) .none kV30 dc30 pm30 an30 cd30 ct30), sl30⟩)
    (xc30 : PySem.W.codeIn K cd30 "_law_text" = true)
    (xp30 : PySem.W.keepIn K (.ref f30) = true)
    (xa31 : PySem.W.nsIn K mainGlobals "law" = some (some (.ref f31)))
    (xl31 : K.lookup f31 = some ⟨oc31, od31, .func (PySem.W.fnOf "law" "law" (defArgs st31) (defBody st31) (defScope st31) .none kV31 dc31 pm31 an31 cd31 ct31), sl31⟩)
    (xc31 : PySem.W.codeIn K cd31 "law" = true)
    (xp31 : PySem.W.keepIn K (.ref f31) = true)
    (xg0 : PySem.W.nsIn K mainGlobals "LETTERS" = some (some (.str (Str.ofString "abcdefghijklmnopqrstuvwxyz") t1)))
    (xg1 : PySem.W.nsIn K mainGlobals "MOST_LETTERS" = some (some (.int 8 t2)))
    (xg2 : PySem.W.nsIn K mainGlobals "MOST_HANDS" = some (some (.int 4 t3)))
    (xg3 : PySem.W.nsIn K mainGlobals "MOST_THINGS" = some (some (.int 60 t4)))
    (xg4 : PySem.W.nsIn K mainGlobals "MOST_BINDERS" = some (some (.int 4 t5)))
    (xg5 : PySem.W.nsIn K mainGlobals "MOST_SHOWS" = some (some (.int 3 t6)))
    (xg6 : PySem.W.nsIn K mainGlobals "SIZES" = some (some (.ref ad17)))
    (xk39 : K.lookup ad17 = some ⟨.type "dict", none, .dict #[⟨hh19, .str (Str.ofString "fact") t29, (.int 2 t7)⟩, ⟨hh20, .str (Str.ofString "wish") t30, (.int 2 t8)⟩, ⟨hh21, .str (Str.ofString "not") t31, (.int 2 t9)⟩, ⟨hh22, .str (Str.ofString "and") t32, (.int 3 t10)⟩, ⟨hh23, .str (Str.ofString "or") t33, (.int 3 t11)⟩, ⟨hh24, .str (Str.ofString "some") t34, (.int 3 t12)⟩, ⟨hh25, .str (Str.ofString "every") t35, (.int 3 t13)⟩, ⟨hh26, .str (Str.ofString "least") t36, (.int 3 t14)⟩, ⟨hh27, .str (Str.ofString "most") t37, (.int 3 t15)⟩, ⟨hh28, .str (Str.ofString "show") t38, (.int 4 t16)⟩] nn18, #[]⟩)
    (xk39h0 : hh19 = PyData.keyHash w.params (Str.ofString "fact"))
    (xk39h1 : hh20 = PyData.keyHash w.params (Str.ofString "wish"))
    (xk39h2 : hh21 = PyData.keyHash w.params (Str.ofString "not"))
    (xk39h3 : hh22 = PyData.keyHash w.params (Str.ofString "and"))
    (xk39h4 : hh23 = PyData.keyHash w.params (Str.ofString "or"))
    (xk39h5 : hh24 = PyData.keyHash w.params (Str.ofString "some"))
    (xk39h6 : hh25 = PyData.keyHash w.params (Str.ofString "every"))
    (xk39h7 : hh26 = PyData.keyHash w.params (Str.ofString "least"))
    (xk39h8 : hh27 = PyData.keyHash w.params (Str.ofString "most"))
    (xk39h9 : hh28 = PyData.keyHash w.params (Str.ofString "show"))
    (xk39l : (ad17 == sysModules) = false)
    (xg7 : PySem.W.nsIn K mainGlobals "OUTSIDE" = some (some (.ref ad51)))
    (xk55 : K.lookup ad51 = some ⟨.type "tuple", od52, .seq #[(.ref ad40), (.ref ad45), (.int 0 t50)] nn53, sl54⟩)
    (xk44 : K.lookup ad40 = some ⟨.type "tuple", od41, .seq #[] nn42, sl43⟩)
    (xk49 : K.lookup ad45 = some ⟨.type "tuple", od46, .seq #[] nn47, sl48⟩)
    (xg8 : PySem.W.nsIn K mainGlobals "COMMA" = some (some (.str (Str.ofString ",") t56)))
    (xz_len : PySem.W.nsIn K mainGlobals "len" = some none)
    (xz_list : PySem.W.nsIn K mainGlobals "list" = some none)
    (xz_tuple : PySem.W.nsIn K mainGlobals "tuple" = some none)
    (xz_all : PySem.W.nsIn K mainGlobals "all" = some none)
    (xz_any : PySem.W.nsIn K mainGlobals "any" = some none)
    (xz_sum : PySem.W.nsIn K mainGlobals "sum" = some none)
    (xz_int : PySem.W.nsIn K mainGlobals "int" = some none)
    (xz_isinstance : PySem.W.nsIn K mainGlobals "isinstance" = some none)
    (xz_str : PySem.W.nsIn K mainGlobals "str" = some none)
    (xz_bool : PySem.W.nsIn K mainGlobals "bool" = some none)
    (xz_dict : PySem.W.nsIn K mainGlobals "dict" = some none)
    (xz_range : PySem.W.nsIn K mainGlobals "range" = some none)
    (xz_zip : PySem.W.nsIn K mainGlobals "zip" = some none)
    (xz_enumerate : PySem.W.nsIn K mainGlobals "enumerate" = some none)
    (pure : ∀ ns : List Int, ns.length ≤ 63 → ∃ S, callN fns 100000 150 31 [.rl (ns.map .int)] [] = .ok (.bl true) S) :
    ∃ fd : FuncData, (∀ (s : Shared) (v : Value), BindsTo s fd ⟨[v], []⟩ [("_law_script", v)]) ∧ ∀ base : Heap, K.In base → base.Ns mainGlobals mg → FnOk l.prog w K mg base (L2.CX l.prog w) 150 fa fd ["_law_script"] (Dp.spLaw K) := by
  have e := hfa.symm.trans (PySem.W.mg_of X G xa31)
  cases e
  let C : MC := ⟨K, w, fun i => [f0, f1, f2, f3, f4, f5, f6, f7, f8, f9, f10, f11, f12, f13, f14, f15, f16, f17, f18, f19, f20, f21, f22, f23, f24, f25, f26, f27, f28, f29, f30, fa].getD i 0, fun _ => 0, fun _ => "x"⟩
  let fdt : Nat → FuncData := fun i => [(PySem.W.fnOf "is_name" "is_name" (defArgs st0) (defBody st0) (defScope st0) .none kV0 dc0 pm0 an0 cd0 ct0), (PySem.W.fnOf "are_rising" "are_rising" (defArgs st1) (defBody st1) (defScope st1) .none kV1 dc1 pm1 an1 cd1 ct1), (PySem.W.fnOf "is_hands" "is_hands" (defArgs st2) (defBody st2) (defScope st2) .none kV2 dc2 pm2 an2 cd2 ct2), (PySem.W.fnOf "parts_of" "parts_of" (defArgs st3) (defBody st3) (defScope st3) .none kV3 dc3 pm3 an3 cd3 ct3), (PySem.W.fnOf "can_stand" "can_stand" (defArgs st4) (defBody st4) (defScope st4) .none kV4 dc4 pm4 an4 cd4 ct4), (PySem.W.fnOf "within_it" "within_it" (defArgs st5) (defBody st5) (defScope st5) .none kV5 dc5 pm5 an5 cd5 ct5), (PySem.W.fnOf "rows_of" "rows_of" (defArgs st6) (defBody st6) (defScope st6) .none kV6 dc6 pm6 an6 cd6 ct6), (PySem.W.fnOf "things_of" "things_of" (defArgs st7) (defBody st7) (defScope st7) .none kV7 dc7 pm7 an7 cd7 ct7), (PySem.W.fnOf "words_of" "words_of" (defArgs st8) (defBody st8) (defScope st8) .none kV8 dc8 pm8 an8 cd8 ct8), (PySem.W.fnOf "shown_sentence" "shown_sentence" (defArgs st9) (defBody st9) (defScope st9) .none kV9 dc9 pm9 an9 cd9 ct9), (PySem.W.fnOf "next_word" "next_word" (defArgs st10) (defBody st10) (defScope st10) .none kV10 dc10 pm10 an10 cd10 ct10), (PySem.W.fnOf "refuse_word" "refuse_word" (defArgs st11) (defBody st11) (defScope st11) .none kV11 dc11 pm11 an11 cd11 ct11), (PySem.W.fnOf "read_name" "read_name" (defArgs st12) (defBody st12) (defScope st12) .none kV12 dc12 pm12 an12 cd12 ct12), (PySem.W.fnOf "read_hands" "read_hands" (defArgs st13) (defBody st13) (defScope st13) .none kV13 dc13 pm13 an13 cd13 ct13), (PySem.W.fnOf "read_step" "read_step" (defArgs st14) (defBody st14) (defScope st14) .none kV14 dc14 pm14 an14 cd14 ct14), (PySem.W.fnOf "begin_thing" "begin_thing" (defArgs st15) (defBody st15) (defScope st15) .none kV15 dc15 pm15 an15 cd15 ct15), (PySem.W.fnOf "read_binding" "read_binding" (defArgs st16) (defBody st16) (defScope st16) .none kV16 dc16 pm16 an16 cd16 ct16), (PySem.W.fnOf "read_head" "read_head" (defArgs st17) (defBody st17) (defScope st17) .none kV17 dc17 pm17 an17 cd17 ct17), (PySem.W.fnOf "read_thing" "read_thing" (defArgs st18) (defBody st18) (defScope st18) .none kV18 dc18 pm18 an18 cd18 ct18), (PySem.W.fnOf "read_sentence" "read_sentence" (defArgs st19) (defBody st19) (defScope st19) .none kV19 dc19 pm19 an19 cd19 ct19), (PySem.W.fnOf "_law_cell_at" "_law_cell_at" (defArgs st20) (defBody st20) (defScope st20) .none kV20 dc20 pm20 an20 cd20 ct20), (PySem.W.fnOf "_law_by" "_law_by" (defArgs st21) (defBody st21) (defScope st21) .none kV21 dc21 pm21 an21 cd21 ct21), (PySem.W.fnOf "_law_next" "_law_next" (defArgs st22) (defBody st22) (defScope st22) .none kV22 dc22 pm22 an22 cd22 ct22), (PySem.W.fnOf "_law_hands" "_law_hands" (defArgs st23) (defBody st23) (defScope st23) .none kV23 dc23 pm23 an23 cd23 ct23), (PySem.W.fnOf "_law_step" "_law_step" (defArgs st24) (defBody st24) (defScope st24) .none kV24 dc24 pm24 an24 cd24 ct24), (PySem.W.fnOf "_law_leaf" "_law_leaf" (defArgs st25) (defBody st25) (defScope st25) .none kV25 dc25 pm25 an25 cd25 ct25), (PySem.W.fnOf "_law_sentence" "_law_sentence" (defArgs st26) (defBody st26) (defScope st26) .none kV26 dc26 pm26 an26 cd26 ct26), (PySem.W.fnOf "_law_kind" "_law_kind" (defArgs st27) (defBody st27) (defScope st27) .none kV27 dc27 pm27 an27 cd27 ct27), (PySem.W.fnOf "_law_same" "_law_same" (defArgs st28) (defBody st28) (defScope st28) .none kV28 dc28 pm28 an28 cd28 ct28), (PySem.W.fnOf "_law_step_words" "_law_step_words" (defArgs st29) (defBody st29) (defScope st29) .none kV29 dc29 pm29 an29 cd29 ct29), (PySem.W.fnOf "_law_text" "_law_text" (defArgs st30) (defBody st30) (defScope st30) .none kV30 dc30 pm30 an30 cd30 ct30), (PySem.W.fnOf "law" "law" (defArgs st31) (defBody st31) (defScope st31) .none kV31 dc31 pm31 an31 cd31 ct31)].getD i default
  have F0 := fun_mk (st := st0) xl0 xc0 xp0
  have b0 := F0.binds (ps := P0) fun _ _ _ _ _ _ us hl => match us, hl with | [_], _ => rfl
  have F1 := fun_mk (st := st1) xl1 xc1 xp1
  have b1 := F1.binds (ps := P1) fun _ _ _ _ _ _ us hl => match us, hl with | [_], _ => rfl
  have F2 := fun_mk (st := st2) xl2 xc2 xp2
  have b2 := F2.binds (ps := P2) fun _ _ _ _ _ _ us hl => match us, hl with | [_], _ => rfl
  have F3 := fun_mk (st := st3) xl3 xc3 xp3
  have b3 := F3.binds (ps := P3) fun _ _ _ _ _ _ us hl => match us, hl with | [_], _ => rfl
  have F4 := fun_mk (st := st4) xl4 xc4 xp4
  have b4 := F4.binds (ps := P4) fun _ _ _ _ _ _ us hl => match us, hl with | [_, _], _ => rfl
  have F5 := fun_mk (st := st5) xl5 xc5 xp5
  have b5 := F5.binds (ps := P5) fun _ _ _ _ _ _ us hl => match us, hl with | [_, _], _ => rfl
  have F6 := fun_mk (st := st6) xl6 xc6 xp6
  have b6 := F6.binds (ps := P6) fun _ _ _ _ _ _ us hl => match us, hl with | [_], _ => rfl
  have F7 := fun_mk (st := st7) xl7 xc7 xp7
  have b7 := F7.binds (ps := P7) fun _ _ _ _ _ _ us hl => match us, hl with | [_], _ => rfl
  have F8 := fun_mk (st := st8) xl8 xc8 xp8
  have b8 := F8.binds (ps := P8) fun _ _ _ _ _ _ us hl => match us, hl with | [_], _ => rfl
  have F9 := fun_mk (st := st9) xl9 xc9 xp9
  have b9 := F9.binds (ps := P9) fun _ _ _ _ _ _ us hl => match us, hl with | [_], _ => rfl
  have F10 := fun_mk (st := st10) xl10 xc10 xp10
  have b10 := F10.binds (ps := P10) fun _ _ _ _ _ _ us hl => match us, hl with | [_], _ => rfl
  have F11 := fun_mk (st := st11) xl11 xc11 xp11
  have b11 := F11.binds (ps := P11) fun _ _ _ _ _ _ us hl => match us, hl with | [_], _ => rfl
  have F12 := fun_mk (st := st12) xl12 xc12 xp12
  have b12 := F12.binds (ps := P12) fun _ _ _ _ _ _ us hl => match us, hl with | [_], _ => rfl
  have F13 := fun_mk (st := st13) xl13 xc13 xp13
  have b13 := F13.binds (ps := P13) fun _ _ _ _ _ _ us hl => match us, hl with | [_], _ => rfl
  have F14 := fun_mk (st := st14) xl14 xc14 xp14
  have b14 := F14.binds (ps := P14) fun _ _ _ _ _ _ us hl => match us, hl with | [_], _ => rfl
  have F15 := fun_mk (st := st15) xl15 xc15 xp15
  have b15 := F15.binds (ps := P15) fun _ _ _ _ _ _ us hl => match us, hl with | [_, _, _], _ => rfl
  have F16 := fun_mk (st := st16) xl16 xc16 xp16
  have b16 := F16.binds (ps := P16) fun _ _ _ _ _ _ us hl => match us, hl with | [_, _, _], _ => rfl
  have F17 := fun_mk (st := st17) xl17 xc17 xp17
  have b17 := F17.binds (ps := P17) fun _ _ _ _ _ _ us hl => match us, hl with | [_, _], _ => rfl
  have F18 := fun_mk (st := st18) xl18 xc18 xp18
  have b18 := F18.binds (ps := P18) fun _ _ _ _ _ _ us hl => match us, hl with | [_, _], _ => rfl
  have F19 := fun_mk (st := st19) xl19 xc19 xp19
  have b19 := F19.binds (ps := P19) fun _ _ _ _ _ _ us hl => match us, hl with | [_], _ => rfl
  have F20 := fun_mk (st := st20) xl20 xc20 xp20
  have b20 := F20.binds (ps := P20) fun _ _ _ _ _ _ us hl => match us, hl with | [_, _], _ => rfl
  have F21 := fun_mk (st := st21) xl21 xc21 xp21
  have b21 := F21.binds (ps := P21) fun _ _ _ _ _ _ us hl => match us, hl with | [_, _, _], _ => rfl
  have F22 := fun_mk (st := st22) xl22 xc22 xp22
  have b22 := F22.binds (ps := P22) fun _ _ _ _ _ _ us hl => match us, hl with | [_, _], _ => rfl
  have F23 := fun_mk (st := st23) xl23 xc23 xp23
  have b23 := F23.binds (ps := P23) fun _ _ _ _ _ _ us hl => match us, hl with | [_], _ => rfl
  have F24 := fun_mk (st := st24) xl24 xc24 xp24
  have b24 := F24.binds (ps := P24) fun _ _ _ _ _ _ us hl => match us, hl with | [_], _ => rfl
  have F25 := fun_mk (st := st25) xl25 xc25 xp25
  have b25 := F25.binds (ps := P25) fun _ _ _ _ _ _ us hl => match us, hl with | [_, _], _ => rfl
  have F26 := fun_mk (st := st26) xl26 xc26 xp26
  have b26 := F26.binds (ps := P26) fun _ _ _ _ _ _ us hl => match us, hl with | [_, _, _, _, _], _ => rfl
  have F27 := fun_mk (st := st27) xl27 xc27 xp27
  have b27 := F27.binds (ps := P27) fun _ _ _ _ _ _ us hl => match us, hl with | [_], _ => rfl
  have F28 := fun_mk (st := st28) xl28 xc28 xp28
  have b28 := F28.binds (ps := P28) fun _ _ _ _ _ _ us hl => match us, hl with | [_, _], _ => rfl
  have F29 := fun_mk (st := st29) xl29 xc29 xp29
  have b29 := F29.binds (ps := P29) fun _ _ _ _ _ _ us hl => match us, hl with | [_], _ => rfl
  have F30 := fun_mk (st := st30) xl30 xc30 xp30
  have b30 := F30.binds (ps := P30) fun _ _ _ _ _ _ us hl => match us, hl with | [_], _ => rfl
  have F31 := fun_mk (st := st31) xl31 xc31 xp31
  have b31 := F31.binds (ps := P31) fun _ _ _ _ _ _ us hl => match us, hl with | [_], _ => rfl
  have T : Prg C mg gv fns fdt pst := by
    refine ⟨fun x i e => fns_of (T := gvT) (Pf := fun x i => FnIn C.K mg gv fns x i (C.fa i) (fdt i) (pst i)) ?_ x i e, fun x d e => csts_of (T := gvT) (Pf := fun x d => ∃ u v, mg x = some u ∧ RelV v u ∧ ∀ ι H, RV C ι H d v) ?_ x d e, ?_⟩
    · exact all_cons (fun i e => by cases e; exact in_mk F0 sc0 b0 rfl cB0 (PySem.W.mg_of X G xa0)) <| all_cons (fun i e => by cases e; exact in_mk F1 sc1 b1 rfl cB1 (PySem.W.mg_of X G xa1)) <| all_cons (fun i e => by cases e; exact in_mk F2 sc2 b2 rfl cB2 (PySem.W.mg_of X G xa2)) <| all_cons (fun i e => by cases e; exact in_mk F3 sc3 b3 rfl cB3 (PySem.W.mg_of X G xa3)) <| all_cons (fun i e => by cases e; exact in_mk F4 sc4 b4 rfl cB4 (PySem.W.mg_of X G xa4)) <| all_cons (fun i e => by cases e; exact in_mk F5 sc5 b5 rfl cB5 (PySem.W.mg_of X G xa5)) <| all_cons (fun i e => by cases e; exact in_mk F6 sc6 b6 rfl cB6 (PySem.W.mg_of X G xa6)) <| all_cons (fun i e => by cases e; exact in_mk F7 sc7 b7 rfl cB7 (PySem.W.mg_of X G xa7)) <| all_cons (fun i e => by cases e; exact in_mk F8 sc8 b8 rfl cB8 (PySem.W.mg_of X G xa8)) <| all_cons (fun i e => by cases e; exact in_mk F9 sc9 b9 rfl cB9 (PySem.W.mg_of X G xa9)) <| all_cons (fun i e => by cases e; exact in_mk F10 sc10 b10 rfl cB10 (PySem.W.mg_of X G xa10)) <| all_cons (fun i e => by cases e; exact in_mk F11 sc11 b11 rfl cB11 (PySem.W.mg_of X G xa11)) <| all_cons (fun i e => by cases e; exact in_mk F12 sc12 b12 rfl cB12 (PySem.W.mg_of X G xa12)) <| all_cons (fun i e => by cases e; exact in_mk F13 sc13 b13 rfl cB13 (PySem.W.mg_of X G xa13)) <| all_cons (fun i e => by cases e; exact in_mk F14 sc14 b14 rfl cB14 (PySem.W.mg_of X G xa14)) <| all_cons (fun i e => by cases e; exact in_mk F15 sc15 b15 rfl cB15 (PySem.W.mg_of X G xa15)) <| all_cons (fun i e => by cases e; exact in_mk F16 sc16 b16 rfl cB16 (PySem.W.mg_of X G xa16)) <| all_cons (fun i e => by cases e; exact in_mk F17 sc17 b17 rfl cB17 (PySem.W.mg_of X G xa17)) <| all_cons (fun i e => by cases e; exact in_mk F18 sc18 b18 rfl cB18 (PySem.W.mg_of X G xa18)) <| all_cons (fun i e => by cases e; exact in_mk F19 sc19 b19 rfl cB19 (PySem.W.mg_of X G xa19)) <| all_cons (fun i e => by cases e; exact in_mk F20 sc20 b20 rfl cB20 (PySem.W.mg_of X G xa20)) <| all_cons (fun i e => by cases e; exact in_mk F21 sc21 b21 rfl cB21 (PySem.W.mg_of X G xa21)) <| all_cons (fun i e => by cases e; exact in_mk F22 sc22 b22 rfl cB22 (PySem.W.mg_of X G xa22)) <| all_cons (fun i e => by cases e; exact in_mk F23 sc23 b23 rfl cB23 (PySem.W.mg_of X G xa23)) <| all_cons (fun i e => by cases e; exact in_mk F24 sc24 b24 rfl cB24 (PySem.W.mg_of X G xa24)) <| all_cons (fun i e => by cases e; exact in_mk F25 sc25 b25 rfl cB25 (PySem.W.mg_of X G xa25)) <| all_cons (fun i e => by cases e; exact in_mk F26 sc26 b26 rfl cB26 (PySem.W.mg_of X G xa26)) <| all_cons (fun i e => by cases e; exact in_mk F27 sc27 b27 rfl cB27 (PySem.W.mg_of X G xa27)) <| all_cons (fun i e => by cases e; exact in_mk F28 sc28 b28 rfl cB28 (PySem.W.mg_of X G xa28)) <| all_cons (fun i e => by cases e; exact in_mk F29 sc29 b29 rfl cB29 (PySem.W.mg_of X G xa29)) <| all_cons (fun i e => by cases e; exact in_mk F30 sc30 b30 rfl cB30 (PySem.W.mg_of X G xa30)) <| all_cons (fun i e => by cases e; exact in_mk F31 sc31 b31 rfl cB31 (PySem.W.mg_of X G xa31)) <| all_cons (fun i e => by cases e) <| all_cons (fun i e => by cases e) <| all_cons (fun i e => by cases e) <| all_cons (fun i e => by cases e) <| all_cons (fun i e => by cases e) <| all_cons (fun i e => by cases e) <| all_cons (fun i e => by cases e) <| all_cons (fun i e => by cases e) <| all_cons (fun i e => by cases e) <| all_nil
    · exact all_cons (fun i e => by cases e) <| all_cons (fun i e => by cases e) <| all_cons (fun i e => by cases e) <| all_cons (fun i e => by cases e) <| all_cons (fun i e => by cases e) <| all_cons (fun i e => by cases e) <| all_cons (fun i e => by cases e) <| all_cons (fun i e => by cases e) <| all_cons (fun i e => by cases e) <| all_cons (fun i e => by cases e) <| all_cons (fun i e => by cases e) <| all_cons (fun i e => by cases e) <| all_cons (fun i e => by cases e) <| all_cons (fun i e => by cases e) <| all_cons (fun i e => by cases e) <| all_cons (fun i e => by cases e) <| all_cons (fun i e => by cases e) <| all_cons (fun i e => by cases e) <| all_cons (fun i e => by cases e) <| all_cons (fun i e => by cases e) <| all_cons (fun i e => by cases e) <| all_cons (fun i e => by cases e) <| all_cons (fun i e => by cases e) <| all_cons (fun i e => by cases e) <| all_cons (fun i e => by cases e) <| all_cons (fun i e => by cases e) <| all_cons (fun i e => by cases e) <| all_cons (fun i e => by cases e) <| all_cons (fun i e => by cases e) <| all_cons (fun i e => by cases e) <| all_cons (fun i e => by cases e) <| all_cons (fun i e => by cases e) <| all_cons (fun d e => by cases e; exact ⟨_, (.str ⟨([97, 98, 99, 100, 101, 102, 103, 104, 105, 106, 107, 108, 109, 110, 111, 112, 113, 114, 115, 116, 117, 118, 119, 120, 121, 122] : List Nat).toArray⟩), PySem.W.mg_of X G xg0, (str_rel (by decide +kernel : Str.ofString "abcdefghijklmnopqrstuvwxyz" = ⟨([97, 98, 99, 100, 101, 102, 103, 104, 105, 106, 107, 108, 109, 110, 111, 112, 113, 114, 115, 116, 117, 118, 119, 120, 121, 122] : List Nat).toArray⟩)), fun _ _ => (.str [97, 98, 99, 100, 101, 102, 103, 104, 105, 106, 107, 108, 109, 110, 111, 112, 113, 114, 115, 116, 117, 118, 119, 120, 121, 122])⟩) <| all_cons (fun d e => by cases e; exact ⟨_, (.int 8), PySem.W.mg_of X G xg1, ⟨_, rfl⟩, fun _ _ => (.int 8)⟩) <| all_cons (fun d e => by cases e; exact ⟨_, (.int 4), PySem.W.mg_of X G xg2, ⟨_, rfl⟩, fun _ _ => (.int 4)⟩) <| all_cons (fun d e => by cases e; exact ⟨_, (.int 60), PySem.W.mg_of X G xg3, ⟨_, rfl⟩, fun _ _ => (.int 60)⟩) <| all_cons (fun d e => by cases e; exact ⟨_, (.int 4), PySem.W.mg_of X G xg4, ⟨_, rfl⟩, fun _ _ => (.int 4)⟩) <| all_cons (fun d e => by cases e; exact ⟨_, (.int 3), PySem.W.mg_of X G xg5, ⟨_, rfl⟩, fun _ _ => (.int 3)⟩) <| all_cons (fun d e => by cases e; exact ⟨_, (.ref ad17), PySem.W.mg_of X G xg6, rfl, fun _ _ => (.rd ⟨xk39, ⟨⟨_, _, rfl, xk39h0⟩, ⟨⟨_, _, rfl, xk39h1⟩, ⟨⟨_, _, rfl, xk39h2⟩, ⟨⟨_, _, rfl, xk39h3⟩, ⟨⟨_, _, rfl, xk39h4⟩, ⟨⟨_, _, rfl, xk39h5⟩, ⟨⟨_, _, rfl, xk39h6⟩, ⟨⟨_, _, rfl, xk39h7⟩, ⟨⟨_, _, rfl, xk39h8⟩, ⟨⟨_, _, rfl, xk39h9⟩, trivial⟩⟩⟩⟩⟩⟩⟩⟩⟩⟩, xk39l⟩ (kv_res (ps := [([102, 97, 99, 116], (.int 2)), ([119, 105, 115, 104], (.int 2)), ([110, 111, 116], (.int 2)), ([97, 110, 100], (.int 3)), ([111, 114], (.int 3)), ([115, 111, 109, 101], (.int 3)), ([101, 118, 101, 114, 121], (.int 3)), ([108, 101, 97, 115, 116], (.int 3)), ([109, 111, 115, 116], (.int 3)), ([115, 104, 111, 119], (.int 4))]) ⟨str_rel (by decide +kernel : Str.ofString "fact" = ⟨([102, 97, 99, 116] : List Nat).toArray⟩), ⟨(.int 2), ⟨_, rfl⟩, fun _ _ => (.int 2)⟩, ⟨str_rel (by decide +kernel : Str.ofString "wish" = ⟨([119, 105, 115, 104] : List Nat).toArray⟩), ⟨(.int 2), ⟨_, rfl⟩, fun _ _ => (.int 2)⟩, ⟨str_rel (by decide +kernel : Str.ofString "not" = ⟨([110, 111, 116] : List Nat).toArray⟩), ⟨(.int 2), ⟨_, rfl⟩, fun _ _ => (.int 2)⟩, ⟨str_rel (by decide +kernel : Str.ofString "and" = ⟨([97, 110, 100] : List Nat).toArray⟩), ⟨(.int 3), ⟨_, rfl⟩, fun _ _ => (.int 3)⟩, ⟨str_rel (by decide +kernel : Str.ofString "or" = ⟨([111, 114] : List Nat).toArray⟩), ⟨(.int 3), ⟨_, rfl⟩, fun _ _ => (.int 3)⟩, ⟨str_rel (by decide +kernel : Str.ofString "some" = ⟨([115, 111, 109, 101] : List Nat).toArray⟩), ⟨(.int 3), ⟨_, rfl⟩, fun _ _ => (.int 3)⟩, ⟨str_rel (by decide +kernel : Str.ofString "every" = ⟨([101, 118, 101, 114, 121] : List Nat).toArray⟩), ⟨(.int 3), ⟨_, rfl⟩, fun _ _ => (.int 3)⟩, ⟨str_rel (by decide +kernel : Str.ofString "least" = ⟨([108, 101, 97, 115, 116] : List Nat).toArray⟩), ⟨(.int 3), ⟨_, rfl⟩, fun _ _ => (.int 3)⟩, ⟨str_rel (by decide +kernel : Str.ofString "most" = ⟨([109, 111, 115, 116] : List Nat).toArray⟩), ⟨(.int 3), ⟨_, rfl⟩, fun _ _ => (.int 3)⟩, ⟨str_rel (by decide +kernel : Str.ofString "show" = ⟨([115, 104, 111, 119] : List Nat).toArray⟩), ⟨(.int 4), ⟨_, rfl⟩, fun _ _ => (.int 4)⟩, trivial⟩⟩⟩⟩⟩⟩⟩⟩⟩⟩))⟩) <| all_cons (fun d e => by cases e; exact ⟨_, (.ref ad51), PySem.W.mg_of X G xg7, rfl, fun _ _ => (.tup (vs := [(.ref ad40), (.ref ad45), (.int 0)]) (.inr ⟨_, _, _, xk55, rfl, rfl, (by show 3 ≤ sizeLine; decide), (.cons rfl (.cons rfl (.cons ⟨_, rfl⟩ .nil)))⟩) (.cons (.tup (vs := []) (.inr ⟨_, _, _, xk44, rfl, rfl, (by show 0 ≤ sizeLine; decide), .nil⟩) .nil) (.cons (.tup (vs := []) (.inr ⟨_, _, _, xk49, rfl, rfl, (by show 0 ≤ sizeLine; decide), .nil⟩) .nil) (.cons (.int 0) .nil))))⟩) <| all_cons (fun d e => by cases e; exact ⟨_, (.str ⟨([44] : List Nat).toArray⟩), PySem.W.mg_of X G xg8, (str_rel (by decide +kernel : Str.ofString "," = ⟨([44] : List Nat).toArray⟩)), fun _ _ => (.str [44])⟩) <| all_nil
    · intro x hx _
      simp only [blts, List.mem_cons, List.not_mem_nil, or_false] at hx
      rcases hx with rfl | rfl | rfl | rfl | rfl | rfl | rfl | rfl | rfl | rfl | rfl | rfl | rfl | rfl
      · exact PySem.W.mg_none_of X G xz_len
      · exact PySem.W.mg_none_of X G xz_list
      · exact PySem.W.mg_none_of X G xz_tuple
      · exact PySem.W.mg_none_of X G xz_all
      · exact PySem.W.mg_none_of X G xz_any
      · exact PySem.W.mg_none_of X G xz_sum
      · exact PySem.W.mg_none_of X G xz_int
      · exact PySem.W.mg_none_of X G xz_isinstance
      · exact PySem.W.mg_none_of X G xz_str
      · exact PySem.W.mg_none_of X G xz_bool
      · exact PySem.W.mg_none_of X G xz_dict
      · exact PySem.W.mg_none_of X G xz_range
      · exact PySem.W.mg_none_of X G xz_zip
      · exact PySem.W.mg_none_of X G xz_enumerate
  refine ⟨(PySem.W.fnOf "law" "law" (defArgs st31) (defBody st31) (defScope st31) .none kV31 dc31 pm31 an31 cd31 ct31), fun s v => .of_eq rfl, fun base _ _ => ?_⟩
  exact law_ok (C := C) (i := 31) (x := "law") T rfl pure
end Wl
open PySem PySem.W PyProof.Rows
set_option maxRecDepth 100000 in
set_option maxHeartbeats 0 in
theorem PySem.Challenge.cw_worldsay_k10_sentences_written_and_read_holds : PySem.Challenge.rw_worldsay_k10_sentences_written_and_read.Holds := by
  w_on; o_law; k_head; (case hw => w_witness2)
  k_fill
  refine Dp.walk_dp (l := PySem.Challenge.rw_worldsay_k10_sentences_written_and_read) (x := "_law_script") (k := 150) rfl rfl ⟨rfl, by decide, by decide⟩ (fun w h Y => PySem.W.kIn_of Y) ?F
  case F =>
    intro w mg fa h KX G hmg
    refine' Wl.all_mk KX G hmg ?xa0 ?xl0 ?xc0 ?xp0 ?xa1 ?xl1 ?xc1 ?xp1 ?xa2 ?xl2 ?xc2 ?xp2 ?xa3 ?xl3 ?xc3 ?xp3 ?xa4 ?xl4 ?xc4 ?xp4 ?xa5 ?xl5 ?xc5 ?xp5 ?xa6 ?xl6 ?xc6 ?xp6 ?xa7 ?xl7 ?xc7 ?xp7 ?xa8 ?xl8 ?xc8 ?xp8 ?xa9 ?xl9 ?xc9 ?xp9 ?xa10 ?xl10 ?xc10 ?xp10 ?xa11 ?xl11 ?xc11 ?xp11 ?xa12 ?xl12 ?xc12 ?xp12 ?xa13 ?xl13 ?xc13 ?xp13 ?xa14 ?xl14 ?xc14 ?xp14 ?xa15 ?xl15 ?xc15 ?xp15 ?xa16 ?xl16 ?xc16 ?xp16 ?xa17 ?xl17 ?xc17 ?xp17 ?xa18 ?xl18 ?xc18 ?xp18 ?xa19 ?xl19 ?xc19 ?xp19 ?xa20 ?xl20 ?xc20 ?xp20 ?xa21 ?xl21 ?xc21 ?xp21 ?xa22 ?xl22 ?xc22 ?xp22 ?xa23 ?xl23 ?xc23 ?xp23 ?xa24 ?xl24 ?xc24 ?xp24 ?xa25 ?xl25 ?xc25 ?xp25 ?xa26 ?xl26 ?xc26 ?xp26 ?xa27 ?xl27 ?xc27 ?xp27 ?xa28 ?xl28 ?xc28 ?xp28 ?xa29 ?xl29 ?xc29 ?xp29 ?xa30 ?xl30 ?xc30 ?xp30 ?xa31 ?xl31 ?xc31 ?xp31 ?xg0 ?xg1 ?xg2 ?xg3 ?xg4 ?xg5 ?xg6 ?xk39 ?xk39h0 ?xk39h1 ?xk39h2 ?xk39h3 ?xk39h4 ?xk39h5 ?xk39h6 ?xk39h7 ?xk39h8 ?xk39h9 ?xk39l ?xg7 ?xk55 ?xk44 ?xk49 ?xg8 ?xz_len ?xz_list ?xz_tuple ?xz_all ?xz_any ?xz_sum ?xz_int ?xz_isinstance ?xz_str ?xz_bool ?xz_dict ?xz_range ?xz_zip ?xz_enumerate Wl.law_true
    (case xa0 => first | k_is | rfl)
    (case xl0 => first | k_is | rfl)
    (case xc0 => first | k_is | rfl)
    (case xp0 => first | k_is | rfl)
    (case xa1 => first | k_is | rfl)
    (case xl1 => first | k_is | rfl)
    (case xc1 => first | k_is | rfl)
    (case xp1 => first | k_is | rfl)
    (case xa2 => first | k_is | rfl)
    (case xl2 => first | k_is | rfl)
    (case xc2 => first | k_is | rfl)
    (case xp2 => first | k_is | rfl)
    (case xa3 => first | k_is | rfl)
    (case xl3 => first | k_is | rfl)
    (case xc3 => first | k_is | rfl)
    (case xp3 => first | k_is | rfl)
    (case xa4 => first | k_is | rfl)
    (case xl4 => first | k_is | rfl)
    (case xc4 => first | k_is | rfl)
    (case xp4 => first | k_is | rfl)
    (case xa5 => first | k_is | rfl)
    (case xl5 => first | k_is | rfl)
    (case xc5 => first | k_is | rfl)
    (case xp5 => first | k_is | rfl)
    (case xa6 => first | k_is | rfl)
    (case xl6 => first | k_is | rfl)
    (case xc6 => first | k_is | rfl)
    (case xp6 => first | k_is | rfl)
    (case xa7 => first | k_is | rfl)
    (case xl7 => first | k_is | rfl)
    (case xc7 => first | k_is | rfl)
    (case xp7 => first | k_is | rfl)
    (case xa8 => first | k_is | rfl)
    (case xl8 => first | k_is | rfl)
    (case xc8 => first | k_is | rfl)
    (case xp8 => first | k_is | rfl)
    (case xa9 => first | k_is | rfl)
    (case xl9 => first | k_is | rfl)
    (case xc9 => first | k_is | rfl)
    (case xp9 => first | k_is | rfl)
    (case xa10 => first | k_is | rfl)
    (case xl10 => first | k_is | rfl)
    (case xc10 => first | k_is | rfl)
    (case xp10 => first | k_is | rfl)
    (case xa11 => first | k_is | rfl)
    (case xl11 => first | k_is | rfl)
    (case xc11 => first | k_is | rfl)
    (case xp11 => first | k_is | rfl)
    (case xa12 => first | k_is | rfl)
    (case xl12 => first | k_is | rfl)
    (case xc12 => first | k_is | rfl)
    (case xp12 => first | k_is | rfl)
    (case xa13 => first | k_is | rfl)
    (case xl13 => first | k_is | rfl)
    (case xc13 => first | k_is | rfl)
    (case xp13 => first | k_is | rfl)
    (case xa14 => first | k_is | rfl)
    (case xl14 => first | k_is | rfl)
    (case xc14 => first | k_is | rfl)
    (case xp14 => first | k_is | rfl)
    (case xa15 => first | k_is | rfl)
    (case xl15 => first | k_is | rfl)
    (case xc15 => first | k_is | rfl)
    (case xp15 => first | k_is | rfl)
    (case xa16 => first | k_is | rfl)
    (case xl16 => first | k_is | rfl)
    (case xc16 => first | k_is | rfl)
    (case xp16 => first | k_is | rfl)
    (case xa17 => first | k_is | rfl)
    (case xl17 => first | k_is | rfl)
    (case xc17 => first | k_is | rfl)
    (case xp17 => first | k_is | rfl)
    (case xa18 => first | k_is | rfl)
    (case xl18 => first | k_is | rfl)
    (case xc18 => first | k_is | rfl)
    (case xp18 => first | k_is | rfl)
    (case xa19 => first | k_is | rfl)
    (case xl19 => first | k_is | rfl)
    (case xc19 => first | k_is | rfl)
    (case xp19 => first | k_is | rfl)
    (case xa20 => first | k_is | rfl)
    (case xl20 => first | k_is | rfl)
    (case xc20 => first | k_is | rfl)
    (case xp20 => first | k_is | rfl)
    (case xa21 => first | k_is | rfl)
    (case xl21 => first | k_is | rfl)
    (case xc21 => first | k_is | rfl)
    (case xp21 => first | k_is | rfl)
    (case xa22 => first | k_is | rfl)
    (case xl22 => first | k_is | rfl)
    (case xc22 => first | k_is | rfl)
    (case xp22 => first | k_is | rfl)
    (case xa23 => first | k_is | rfl)
    (case xl23 => first | k_is | rfl)
    (case xc23 => first | k_is | rfl)
    (case xp23 => first | k_is | rfl)
    (case xa24 => first | k_is | rfl)
    (case xl24 => first | k_is | rfl)
    (case xc24 => first | k_is | rfl)
    (case xp24 => first | k_is | rfl)
    (case xa25 => first | k_is | rfl)
    (case xl25 => first | k_is | rfl)
    (case xc25 => first | k_is | rfl)
    (case xp25 => first | k_is | rfl)
    (case xa26 => first | k_is | rfl)
    (case xl26 => first | k_is | rfl)
    (case xc26 => first | k_is | rfl)
    (case xp26 => first | k_is | rfl)
    (case xa27 => first | k_is | rfl)
    (case xl27 => first | k_is | rfl)
    (case xc27 => first | k_is | rfl)
    (case xp27 => first | k_is | rfl)
    (case xa28 => first | k_is | rfl)
    (case xl28 => first | k_is | rfl)
    (case xc28 => first | k_is | rfl)
    (case xp28 => first | k_is | rfl)
    (case xa29 => first | k_is | rfl)
    (case xl29 => first | k_is | rfl)
    (case xc29 => first | k_is | rfl)
    (case xp29 => first | k_is | rfl)
    (case xa30 => first | k_is | rfl)
    (case xl30 => first | k_is | rfl)
    (case xc30 => first | k_is | rfl)
    (case xp30 => first | k_is | rfl)
    (case xa31 => first | k_is | rfl)
    (case xl31 => first | k_is | rfl)
    (case xc31 => first | k_is | rfl)
    (case xp31 => first | k_is | rfl)
    (case xg0 => first | k_is | rfl)
    (case xg1 => first | k_is | rfl)
    (case xg2 => first | k_is | rfl)
    (case xg3 => first | k_is | rfl)
    (case xg4 => first | k_is | rfl)
    (case xg5 => first | k_is | rfl)
    (case xg6 => first | k_is | rfl)
    (case xk39 => first | k_is | rfl)
    (case xk39h0 => first | k_is | rfl)
    (case xk39h1 => first | k_is | rfl)
    (case xk39h2 => first | k_is | rfl)
    (case xk39h3 => first | k_is | rfl)
    (case xk39h4 => first | k_is | rfl)
    (case xk39h5 => first | k_is | rfl)
    (case xk39h6 => first | k_is | rfl)
    (case xk39h7 => first | k_is | rfl)
    (case xk39h8 => first | k_is | rfl)
    (case xk39h9 => first | k_is | rfl)
    (case xk39l => first | k_is | rfl)
    (case xg7 => first | k_is | rfl)
    (case xk55 => first | k_is | rfl)
    (case xk44 => first | k_is | rfl)
    (case xk49 => first | k_is | rfl)
    (case xg8 => first | k_is | rfl)
    (case xz_len => first | k_is | rfl)
    (case xz_list => first | k_is | rfl)
    (case xz_tuple => first | k_is | rfl)
    (case xz_all => first | k_is | rfl)
    (case xz_any => first | k_is | rfl)
    (case xz_sum => first | k_is | rfl)
    (case xz_int => first | k_is | rfl)
    (case xz_isinstance => first | k_is | rfl)
    (case xz_str => first | k_is | rfl)
    (case xz_bool => first | k_is | rfl)
    (case xz_dict => first | k_is | rfl)
    (case xz_range => first | k_is | rfl)
    (case xz_zip => first | k_is | rfl)
    (case xz_enumerate => first | k_is | rfl)
    all_goals first | exact (#[] : Array (Option Value)) | exact (0 : Nat) | exact (none : Option Addr)
