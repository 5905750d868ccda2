import PyProof.Rows.All
import HandS.ForMost
import HandS.ForSpec
import HandS.Wide
import HandS.SortInts
import HandS.Deep
import HandS.IsInst
import HandS.Zip
import HandS.Star
import HandS.HeadHook1
import HandS.Conv
import HandS.Words
import HandS.Defaults
import HandS.ExcOwn
import HandS.Ends
import HandS.HeadEnd
import HandS.Iter
import PyProof.Draws
import HandS.FltList
import HandS.Style
import KE.DataMinMax
import HandS.TupAny
import HandS.RaiseMore
import HandS.TryOnly
import HandS.Strs
import KE.GoesEnum
import KE.GoesMore
import KE.KItemsList
import KE.KStar
import PyProof.EnumIter
import HandS.CallLocal
import HandS.Dict
import KE.KDictDisplayH
import KE.KDictPairs
import HandS.ExcIs
import HandS.Head0
import HandS.Head1
import HandS.Head2
import HandS.Head3
import HandS.HeadHook2
import HandS.HeadHook3
import HandS.HeadHook4
import HandS.EndTab
import KE.KStateDown
import HandS.WordsExc
import PySem.Challenge.RW_matedsquares_k40_words
set_option Elab.async false
set_option linter.all false
set_option maxRecDepth 100000
/-! Ev: a small evaluator over plain data. Part A: data, syntax, denotation, the checker against the row's syntax. -/
namespace Ev
open PySem PySem.Spec PyProof.Rows L2

/-! ### data -/
inductive D where
  | non | bl (b : Bool) | int (i : Int) | str (s : Str) | tup (xs : List D) | lst (xs : List D) | vw (xs : List D) | vt (xs : List D) | ref (n : Nat) | ob (c : Str) (ns : List Str) (ds : List D) | fn (x : Str)
abbrev DKey := Key ⊕ List Key
inductive Cell where
  | dead | lst (xs : List D) | dct (t : Bool) (kvs : List (DKey × D)) | obj (c : Str) (fs : List (Str × D))

inductive R (α : Type) where
  | ok (a : α) (h : List Cell) | exc (c : Str) (p : Option D) (h : List Cell) | stuck
@[reducible] def R.bind {α β : Type} (x : R α) (f : α → List Cell → R β) : R β := match x with
  | .ok a h => f a h
  | .exc c p h => .exc c p h
  | .stuck => .stuck
@[simp] theorem R.bind_ok {α β : Type} (a : α) (h : List Cell) (f : α → List Cell → R β) : (R.ok a h).bind f = f a h := rfl
@[simp] theorem R.bind_exc {α β : Type} (c : Str) (p : Option D) (h : List Cell) (f : α → List Cell → R β) : (R.exc c p h : R α).bind f = .exc c p h := rfl
@[simp] theorem R.bind_stuck {α β : Type} (f : α → List Cell → R β) : (R.stuck : R α).bind f = .stuck := rfl

def LN : Nat := 1000000
theorem LN_le : LN ≤ sizeLine := by rw [sizeLine_eq]; decide

/-- the items of a list (true) or tuple (false) that is read -/
def seqOf (h : List Cell) : D → Option (List D × Bool)
  | .lst xs => some (xs, true)
  | .vw xs => some (xs, true)
  | .tup xs => some (xs, false)
  | .vt xs => some (xs, false)
  | .ref n => match h[n]? with
    | some (.lst xs) => some (xs, true)
    | _ => none
  | _ => none

mutual
/-- as the model's data, no cells in it -/
def D.py : D → Option PyData
  | .non => some .none
  | .bl b => some (.bool b)
  | .int i => some (.int i)
  | .str s => some (.str s)
  | .tup xs => (D.pys xs).map .tuple
  | .vt xs => (D.pys xs).map .tuple
  | .lst xs => (D.pys xs).map .list
  | .vw xs => (D.pys xs).map .list
  | .ref _ => none
  | .ob _ _ _ => none
  | .fn _ => none
def D.pys : List D → Option (List PyData)
  | [] => some []
  | d :: ds => match d.py, D.pys ds with
    | some x, some xs => some (x :: xs)
    | _, _ => none
end
/-- .. of a value that may be a cell's list -/
def D.pyH (h : List Cell) (d : D) : Option PyData := match d with
  | .ref n => match h[n]? with
    | some (.lst xs) => (D.pys xs).map .list
    | _ => none
  | d => d.py

mutual
/-- no cells in it -/
def D.pure : D → Bool
  | .tup xs => D.pures xs
  | .lst xs => D.pures xs
  | .vt xs => D.pures xs
  | .vw xs => D.pures xs
  | .ob _ _ xs => D.pures xs
  | .ref _ => false
  | _ => true
def D.pures : List D → Bool
  | [] => true
  | d :: ds => d.pure && D.pures ds
end
/-- a value without objects -/
def D.flat : D → Bool
  | .non => true
  | .bl _ => true
  | .int _ => true
  | .str _ => true
  | _ => false

/-! ### operations -/
/-- a new list: a cell, or plain data -/
def newL (fz : Bool) (xs : List D) (h : List Cell) : R D :=
  if xs.length ≤ LN then (if fz then .ok (.lst xs) h else .ok (.ref h.length) (h ++ [.lst xs])) else .stuck

inductive BOp where
  | add | sub | mul | fdiv | mod | pow
  deriving DecidableEq
inductive COp where
  | eq | ne | lt | le | gt | ge | is | isnot | isin | notin
  deriving DecidableEq

def strLt (a b : Str) : Bool := decide (a.cps.toList < b.cps.toList)

def binD (o : BOp) (fz : Bool) (a b : D) (h : List Cell) : R D :=
  match o, a, b with
  | .add, .int i, .int j => .ok (.int (i + j)) h
  | .sub, .int i, .int j => .ok (.int (i - j)) h
  | .mul, .int i, .int j => if (-(2 ^ 64) < i ∧ i < 2 ^ 64) ∨ (-(2 ^ 64) < j ∧ j < 2 ^ 64) ∨ i.natAbs.log2 + j.natAbs.log2 < 1000000 then .ok (.int (i * j)) h else .stuck
  | .fdiv, .int i, .int j => if 0 < j ∧ (j < 1073741824 ∨ j.natAbs.log2 < 9000) then .ok (.int (i / j)) h else .stuck
  | .mod, .int i, .int j => if 0 < j then .ok (.int (i % j)) h else .stuck
  | .pow, .int i, .int j => if 0 ≤ j ∧ j ≤ 1000 ∧ i.natAbs < 2 ^ 64 then .ok (.int (i ^ j.toNat)) h else .stuck
  | .add, .str i, .str j => if i.length + j.length ≤ LN then .ok (.str (i ++ j)) h else .stuck
  | .add, .tup xs, .tup ys => if xs.length + ys.length ≤ LN ∧ xs ≠ [] then (match ys with | [] => .ok (.tup xs) h | _ => .ok (.tup (xs ++ ys)) h) else .stuck
  | .add, a, b => match a, b, seqOf h a, seqOf h b with
    | .vw _, _, _, _ => .stuck
    | _, .vw _, _, _ => .stuck
    | _, _, some (xs, true), some (ys, true) => newL fz (xs ++ ys) h
    | _, _, _, _ => .stuck
  | .mul, a, .int k => match a, seqOf h a with
    | .vw _, _ => .stuck
    | _, some (xs, true) => if -(LN : Int) ≤ k ∧ k ≤ (LN : Int) then newL fz (List.replicate k.toNat xs).flatten h else .stuck
    | _, _ => .stuck
  | _, _, _ => .stuck

/-- the key of a dict -/
def keyOf1 : D → Option Key
  | .int i => some (.inl i)
  | .str s => some (.inr s)
  | _ => none
def keysOf : List D → Option (List Key)
  | [] => some []
  | d :: ds => match keyOf1 d, keysOf ds with
    | some k, some ks => some (k :: ks)
    | _, _ => none
def keyOf : D → Option DKey
  | .int i => some (.inl (.inl i))
  | .str s => some (.inl (.inr s))
  | .tup xs => (keysOf xs).map .inr
  | _ => none
/-- the dict in a cell (true: its keys are tuples) -/
def dctOf (h : List Cell) (d : D) : Option (Bool × List (DKey × D)) := match d with
  | .ref n => match h[n]? with
    | some (.dct t kvs) => some (t, kvs)
    | _ => none
  | _ => none
def isT : DKey → Bool
  | .inl _ => false
  | .inr _ => true
def dget (kvs : List (DKey × D)) (k : DKey) : Option D := (kvs.find? fun kv => decide (kv.1 = k)).map (·.2)
def dput (kvs : List (DKey × D)) (k : DKey) (v : D) : List (DKey × D) :=
  if kvs.any (fun kv => decide (kv.1 = k)) then kvs.map (fun kv => if kv.1 = k then (kv.1, v) else kv) else kvs ++ [(k, v)]

/-- == of flat values -/
def flatEq : D → D → Bool
  | .non, .non => true
  | .bl a, .bl b => a == b
  | .bl a, .int b => (if a then 1 else 0) == b
  | .int a, .bl b => a == (if b then 1 else 0)
  | .int a, .int b => a == b
  | .str a, .str b => a == b
  | _, _ => false
/-- texts are compared as they are -/
def strEq : D → D → Option Bool
  | .str i, .str j => some (i == j)
  | _, _ => none
def cmpD (o : COp) (a b : D) (h : List Cell) : R D :=
  match o with
  | .eq => match strEq a b with
    | some k => .ok (.bl k) h
    | none => match a.pyH h, b.pyH h with
      | some x, some y => if SeqAt.shaped x && SeqAt.shaped y then .ok (.bl (PyData.eqv x y)) h else .stuck
      | _, _ => .stuck
  | .ne => match strEq a b with
    | some k => .ok (.bl (!k)) h
    | none => match a.pyH h, b.pyH h with
      | some x, some y => if SeqAt.shaped x && SeqAt.shaped y then .ok (.bl (!PyData.eqv x y)) h else .stuck
      | _, _ => .stuck
  | .lt => match a, b with | .int i, .int j => .ok (.bl (decide (i < j))) h | _, _ => .stuck
  | .le => match a, b with | .int i, .int j => .ok (.bl (decide (i ≤ j))) h | _, _ => .stuck
  | .gt => match a, b with | .int i, .int j => .ok (.bl (decide (j < i))) h | _, _ => .stuck
  | .ge => match a, b with | .int i, .int j => .ok (.bl (decide (j ≤ i))) h | _, _ => .stuck
  | .is => match b with | .non => .ok (.bl (match a with | .non => true | _ => false)) h | .bl k => (match a with | .bl j => .ok (.bl (decide (j = k))) h | _ => .stuck) | _ => .stuck
  | .isnot => match b with | .non => .ok (.bl (match a with | .non => false | _ => true)) h | .bl k => (match a with | .bl j => .ok (.bl (!decide (j = k))) h | _ => .stuck) | _ => .stuck
  | .isin => (inD a b h).bind fun d h => match d with | .bl c => .ok (.bl c) h | _ => .stuck
  | .notin => (inD a b h).bind fun d h => match d with | .bl c => .ok (.bl (!c)) h | _ => .stuck
where
  inD (a b : D) (h : List Cell) : R D :=
    match dctOf h b with
    | some (t, kvs) => match keyOf a with
      | some k => if isT k = t then .ok (.bl (dget kvs k).isSome) h else .stuck
      | none => .stuck
    | none => match a, b with
      | .str x, .str y => .ok (.bl (!(Builtin.Str.occurrences y x 0 y.length 1).isEmpty)) h
      | _, _ => match seqOf h b with
        | some (ys, isl) =>
          if a.flat && ys.all D.flat then .ok (.bl (ys.any fun y => flatEq y a)) h
          else match a.py, D.pys ys with
            | some x, some zs => if isl && SeqAt.shaped x && SeqAt.shaped (.list zs) then .ok (.bl (zs.any fun z => PyData.eqv z x)) h else .stuck
            | _, _ => .stuck
        | none => .stuck

end Ev
/-! Ev, part B: the small syntax, its denotation. -/
namespace Ev
open PySem PySem.Spec PyProof.Rows L2

inductive Prim where
  | len | tupleOf | listOf | abs | intOf | sorted | isinst (t : String) | max2 | min2 | all | any | sum | str | repr | max1 | min1
  deriving DecidableEq

/-- methods of lists -/
inductive Mt where
  | append | pop | popAt | index | insert | tindex
  deriving DecidableEq
mutual
inductive Ex where
  | var (i : Nat)
  | glob (x : Str)
  | cint (i : Int) | cbl (b : Bool) | cnon | cstr (s : Str)
  | bin (o : BOp) (fz : Bool) (a b : Ex)
  | neg (a : Ex)
  | cmp (o : COp) (a b : Ex)
  | chain (o o' : COp) (a b c : Ex)
  | and (a b : Ex) | or (a b : Ex) | not (a : Ex)
  | ite (c a b : Ex)
  | tup (es : Exs)
  | lst (fz : Bool) (es : Exs)
  | idx (a i : Ex)
  | slice (fz : Bool) (a : Ex) (lo hi : Exs)
  | call (f : Nat) (es : Exs)
  | prim (p : Prim) (fz : Bool) (es : Exs)
  | lrange (fz : Bool) (a : Ex)
  | lc (fz : Bool) (own : List (Str × Nat)) (tg : Tg) (it : Itx) (cond : Exs) (elt : Ex)
  | freeze (a : Ex)
  | rev (fz : Bool) (a : Ex)
  | dnew (t : Bool)
  | meth (m : Mt) (a : Ex) (es : Exs)
  | tupS (es : Sxs)
  | ctup (es : Exs)
  | lc2 (fz : Bool) (own : List (Str × Nat)) (vs1 : List Nat) (tg : Tg) (it : Itx) (tg1 : Tg) (it1 : Itx) (cond : Exs) (elt : Ex)
  | fzd (a : Ex)
  | attr (k : Str) (a : Ex) (f : Str)
  | mcall (i : Nat) (k m : Str) (a : Ex) (es : Exs)
  | make (i : Nat) (k : Str) (es : Exs)
  | callV (i : Nat) (cs : List (Str × Nat)) (es : Exs)
  | fnv (x : Str)
  | isin2 (t u : String) (a : Ex)
  | dcT (own : List (Str × Nat)) (tg : Tg) (it : Itx) (k v : Ex)
  | dget (a k d : Ex)
  | dispT (ps : Pxs)
  | lcC (fz : Bool) (own : List (Str × Nat)) (tg : Tg) (i : Nat) (elt : Ex)
  | lrange2 (fz : Bool) (a b : Ex)
inductive Exs where
  | nil | cons (e : Ex) (es : Exs)
inductive Sxs where
  | nil | cons (e : Ex) (es : Sxs) | star (e : Ex) (es : Sxs)
inductive Pxs where
  | nil | cons (k v : Ex) (r : Pxs)
inductive Itx where
  | seq (e : Ex) | range (es : Exs) | enum (e : Ex) | zip (a b : Ex) | zipS (e : Ex) | enumF (e : Ex) (k : Nat) | zipM (a b : Ex) | enumZ (a b : Ex) | zipN (es : Exs)
inductive Tg where
  | name (i : Nat) | tup (ts : Tgs) | idx (a i : Ex)
inductive Tgs where
  | nil | cons (t : Tg) (ts : Tgs)
end

def Tgs.n : Tgs → Nat
  | .nil => 0
  | .cons _ ts => ts.n + 1
/-- what an except suite hands back: it hangs on the class alone -/
inductive Hx where
  | cint (i : Int) | cbl (b : Bool) | cnon | cstr (s : Str)
  | isi (x : Str) | isv | and (a b : Hx) | not (a : Hx) | pick (a b i : Hx)
mutual
inductive Sm where
  | set (i : Nat) (e : Ex)
  | asg (tg : Tg) (e : Ex)
  | par (is : List Nat) (es : Exs)
  | aug (i : Nat) (o : BOp) (e : Ex)
  | expr (e : Ex)
  | ret (e : Ex) | retN
  | ite (c : Ex) (a b : Sms)
  | while (c : Ex) (b : Sms)
  | for (tg : Tg) (it : Itx) (b : Sms)
  | pass | brk | cnt
  | raise (c : Str)
  | tryR (b : Sms) (x : Str) (e : Ex)
  | tryA (b : Sms) (x : Str) (i : Nat) (e : Hx)
  | fz (i : Nat)
  | setA (k : Str) (a : Ex) (f : Str) (e : Ex)
inductive Sms where
  | nil | cons (s : Sm) (ss : Sms)
end

abbrev Env := List (Option D)
abbrev Hs := List Cell
mutual
/-- data without cells, out of data with lists in cells, at most so deep -/
def fzD : Nat → D → Hs → Option (D × Hs)
  | 0, _, _ => none
  | k + 1, d, h => if d.pure then some (d, h) else match d with
    | .ref n => match h[n]? with
      | some (.lst xs) => match fzL k xs h with
        | some (ys, h1) => match h1[n]? with
          | some (.lst _) => some (.lst ys, h1.set n .dead)
          | _ => none
        | none => none
      | _ => none
    | .tup xs => match fzL k xs h with
      | some (ys, h1) => some (.tup ys, h1)
      | none => none
    | .lst xs => match fzL k xs h with
      | some (ys, h1) => some (.lst ys, h1)
      | none => none
    | _ => none
def fzL : Nat → List D → Hs → Option (List D × Hs)
  | _, [], h => some ([], h)
  | k, x :: xs, h => match fzD k x h with
    | some (y, h1) => match fzL k xs h1 with
      | some (ys, h2) => some (y :: ys, h2)
      | none => none
    | none => none
end
def DEEPF : Nat := 6
def fzR (d : D) (h : Hs) : R D := match fzD DEEPF d h with
  | some (d', h') => .ok d' h'
  | none => .stuck
structure Cfg where
  Γ : Nat → List D → Hs → R D
  gl : Str → Option D
  xs : List Str
  F : Nat

inductive Out where
  | nx (ρ : Env) (h : Hs) | ret (d : D) (h : Hs) | brk (ρ : Env) (h : Hs) | cnt (ρ : Env) (h : Hs) | exc (c : Str) (p : Option D) (ρ : Env) (h : Hs) | stuck

/-- an expression's result, then a statement's rest -/
@[reducible] def R.go {α : Type} (x : R α) (ρ : Env) (f : α → Hs → Out) : Out := match x with
  | .ok a h => f a h
  | .exc c p h => .exc c p ρ h
  | .stuck => .stuck
@[reducible] def Out.andThen (x : Out) (f : Env → Hs → Out) : Out := match x with
  | .nx ρ h => f ρ h
  | o => o
@[simp] theorem R.go_ok {α : Type} (a : α) (h : Hs) (ρ : Env) (f : α → Hs → Out) : (R.ok a h).go ρ f = f a h := rfl
@[simp] theorem R.go_exc {α : Type} (c : Str) (p : Option D) (h : Hs) (ρ : Env) (f : α → Hs → Out) : (R.exc c p h : R α).go ρ f = .exc c p ρ h := rfl
@[simp] theorem R.go_stuck {α : Type} (ρ : Env) (f : α → Hs → Out) : (R.stuck : R α).go ρ f = .stuck := rfl
@[simp] theorem Out.nx_then (ρ : Env) (h : Hs) (f : Env → Hs → Out) : (Out.nx ρ h).andThen f = f ρ h := rfl
@[simp] theorem Out.ret_then (d : D) (h : Hs) (f : Env → Hs → Out) : (Out.ret d h).andThen f = .ret d h := rfl
@[simp] theorem Out.brk_then (ρ : Env) (h : Hs) (f : Env → Hs → Out) : (Out.brk ρ h).andThen f = .brk ρ h := rfl
@[simp] theorem Out.cnt_then (ρ : Env) (h : Hs) (f : Env → Hs → Out) : (Out.cnt ρ h).andThen f = .cnt ρ h := rfl
@[simp] theorem Out.exc_then (c : Str) (p : Option D) (ρ : Env) (h : Hs) (f : Env → Hs → Out) : (Out.exc c p ρ h).andThen f = .exc c p ρ h := rfl
@[simp] theorem Out.stuck_then (f : Env → Hs → Out) : Out.stuck.andThen f = .stuck := rfl

def wipeE (ρ : Env) : List Nat → Env
  | [] => ρ
  | v :: vs => (wipeE ρ vs).set v none

/-! ### loops -/
def whileD (c : Env → Hs → R Bool) (b : Env → Hs → Out) : Nat → Env → Hs → Out
  | 0, _, _ => .stuck
  | n + 1, ρ, h => match c ρ h with
    | .ok true h1 => match b ρ h1 with
      | .nx ρ' h' => whileD c b n ρ' h'
      | .cnt ρ' h' => whileD c b n ρ' h'
      | .brk ρ' h' => .nx ρ' h'
      | o => o
    | .ok false h1 => .nx ρ h1
    | .exc x p h1 => .exc x p ρ h1
    | .stuck => .stuck
def forD (g : D → Env → Hs → Out) (b : Env → Hs → Out) : List D → Env → Hs → Out
  | [], ρ, h => .nx ρ h
  | x :: xs, ρ, h => match g x ρ h with
    | .nx ρ1 h1 => match b ρ1 h1 with
      | .nx ρ' h' => forD g b xs ρ' h'
      | .cnt ρ' h' => forD g b xs ρ' h'
      | .brk ρ' h' => .nx ρ' h'
      | o => o
    | _ => .stuck
def lcD (g : D → Env → Hs → Out) (c : Env → Hs → R Bool) (e : Env → Hs → R D) (ρ : Env) : List D → List D → Hs → R (List D)
  | [], acc, h => .ok acc h
  | x :: xs, acc, h => match g x ρ h with
    | .nx ρ1 h1 => match c ρ1 h1 with
      | .ok true h2 => match e ρ1 h2 with
        | .ok d h3 => if acc.length < LN then lcD g c e ρ xs (acc ++ [d]) h3 else .stuck
        | _ => .stuck
      | .ok false h2 => lcD g c e ρ xs acc h2
      | _ => .stuck
    | _ => .stuck

/-- over a list in a cell, as it stands turn by turn -/
def lcCD (n : Nat) (g : D → Env → Hs → Out) (e : Env → Hs → R D) (ρ : Env) : Nat → Nat → List D → Hs → R (List D)
  | 0, _, _, _ => .stuck
  | k + 1, i, acc, h => match h[n]? with
    | some (.lst xs) => match xs[i]? with
      | none => .ok acc h
      | some x => match g x ρ h with
        | .nx ρ1 h1 => match e ρ1 h1 with
          | .ok d h2 => if acc.length < LN then lcCD n g e ρ k (i + 1) (acc ++ [d]) h2 else .stuck
          | _ => .stuck
        | _ => .stuck
    | _ => .stuck
/-- a dict with tuple keys, made -/
def dcD (g : D → Env → Hs → Out) (k e : Env → Hs → R D) (ρ : Env) : List D → List (DKey × D) → Hs → R (List (DKey × D))
  | [], acc, h => .ok acc h
  | x :: xs, acc, h => match g x ρ h with
    | .nx ρ1 h1 => match k ρ1 h1 with
      | .ok kd h2 => match e ρ1 h2 with
        | .ok d h3 => match keyOf kd with
          | some (.inr q) => if acc.length < LN then dcD g k e ρ xs (dput acc (.inr q) d) h3 else .stuck
          | _ => .stuck
        | _ => .stuck
      | _ => .stuck
    | _ => .stuck
/-- two clauses -/
def lc2D (g : D → Env → Hs → Out) (i1 : Env → Hs → R (List D)) (g1 : D → Env → Hs → Out) (c1 : Env → Hs → R Bool) (e : Env → Hs → R D) (ρ : Env) (vs1 : List Nat) : List D → List D → Hs → R (List D)
  | [], acc, h => .ok acc h
  | x :: xs, acc, h => match g x ρ h with
    | .nx ρ1 h1 => match i1 ρ1 h1 with
      | .ok ys h2 => match lcD g1 c1 e (wipeE ρ1 vs1) ys acc h2 with
        | .ok acc' h3 => lc2D g i1 g1 c1 e ρ vs1 xs acc' h3
        | _ => .stuck
      | _ => .stuck
    | _ => .stuck
/-- the columns of rows of one length -/
def colsD (rows : List (List D)) : Option (List D) := match rows with
  | [] => none
  | r :: rs => if rs.all (fun x => x.length == r.length) && decide (rows.length ≤ 13) then some ((List.range r.length).map fun j => .tup (rows.map fun x => x.getD j .non)) else none
def tupsOf : List D → Option (List (List D))
  | [] => some []
  | .tup xs :: r => (tupsOf r).map (xs :: ·)
  | .vt xs :: r => (tupsOf r).map (xs :: ·)
  | _ :: _ => none
/-! ### built-ins -/
/-- the best of what is walked -/
def bestL (b : Int → Int → Bool) (m : Int) : List Int → Int
  | [] => m
  | x :: xs => bestL b (if b x m then x else m) xs
def D.ints : List D → Option (List Int)
  | [] => some []
  | .int i :: ds => (D.ints ds).map (i :: ·)
  | _ => none
def D.bools : List D → Option (List Bool)
  | [] => some []
  | .bl i :: ds => (D.bools ds).map (i :: ·)
  | _ => none
def insI (x : Int) : List Int → List Int
  | [] => [x]
  | y :: ys => if x ≤ y then x :: y :: ys else y :: insI x ys
def sortI : List Int → List Int
  | [] => []
  | x :: xs => insI x (sortI xs)
def tyName (h : Hs) (d : D) : Option String := match d with
  | .non => some "NoneType"
  | .bl _ => some "bool"
  | .int _ => some "int"
  | .str _ => some "str"
  | .tup _ => some "tuple"
  | .lst _ => some "list"
  | .ref n => match h[n]? with
    | some (.lst _) => some "list"
    | _ => none
  | _ => none
def isaT (a t : String) : Option Bool :=
  if t = "tuple" ∨ t = "list" ∨ t = "bool" ∨ t = "int" ∨ t = "str" then some (a == t || (a == "bool" && t == "int")) else none
def typeIs (h : Hs) (d : D) (t : String) : Option Bool := (tyName h d).bind fun a => isaT a t

def primD (p : Prim) (fz : Bool) (ds : List D) (h : Hs) : R D :=
  match p, ds with
  | .len, [d] => match d with
    | .str z => if z.length ≤ LN then .ok (.int z.length) h else .stuck
    | d => match seqOf h d with
      | some (xs, _) => .ok (.int xs.length) h
      | none => match dctOf h d with
        | some (false, kvs) => .ok (.int kvs.length) h
        | _ => .stuck
  | .tupleOf, [d] => match seqOf h d with
    | some (xs, true) => .ok (.tup xs) h
    | some (_, false) => .ok d h
    | none => .stuck
  | .listOf, [d] => match seqOf h d with
    | some (xs, _) => newL fz xs h
    | none => .stuck
  | .abs, [.int i] => .ok (.int (if i < 0 then -i else i)) h
  | .intOf, [.int i] => .ok (.int i) h
  | .intOf, [.bl b] => .ok (.int (if b then 1 else 0)) h
  | .max2, [.int i, .int j] => .ok (.int (if j > i then j else i)) h
  | .min2, [.int i, .int j] => .ok (.int (if j < i then j else i)) h
  | .sorted, [d] => match seqOf h d with
    | some (xs, _) => match D.ints xs with
      | some ns => newL fz ((sortI ns).map .int) h
      | none => .stuck
    | none => .stuck
  | .all, [d] => match seqOf h d with
    | some (xs, true) => match D.bools xs with
      | some bs => .ok (.bl (bs.all id)) h
      | none => .stuck
    | _ => .stuck
  | .any, [d] => match seqOf h d with
    | some (xs, true) => match D.bools xs with
      | some bs => .ok (.bl (bs.any id)) h
      | none => .stuck
    | _ => .stuck
  | .sum, [d] => match seqOf h d with
    | some (xs, true) => match D.ints xs with
      | some ns => .ok (.int ns.sum) h
      | none => .stuck
    | _ => .stuck
  | .isinst t, [d] => match typeIs h d t with
    | some b => .ok (.bl b) h
    | none => .stuck
  | .str, [.int i] => if i.natAbs.log2 < 1920 then .ok (.str (toString i)) h else .stuck
  | .repr, [d] => match d.pyH h with
    | some x => if x.hasDict = false ∧ x.showable = true ∧ x.depth ≤ 64 ∧ x.shown.length ≤ LN then .ok (.str x.shown) h else .stuck
    | none => .stuck
  | .max1, [d] => match seqOf h d with
    | some (xs, _) => match D.ints xs with
      | some (n :: ns) => .ok (.int (bestL (fun x y => decide (x > y)) n ns)) h
      | _ => .stuck
    | _ => .stuck
  | .min1, [d] => match seqOf h d with
    | some (xs, _) => match D.ints xs with
      | some (n :: ns) => .ok (.int (bestL (fun x y => decide (x < y)) n ns)) h
      | _ => .stuck
    | _ => .stuck
  | _, _ => .stuck

def idxOf (y : D) : List D → Nat → Option Nat
  | [], _ => none
  | x :: xs, n => if flatEq x y then some n else idxOf y xs (n + 1)
/-- is it a list's method, or a tuple's -/
def Mt.recv (m : Mt) (h : Hs) (x : D) : Bool := match m with
  | .tindex => (match x with | .vt _ => true | _ => false)
  | _ => (match seqOf h x with | some (_, true) => true | _ => false)
def Mt.onL : Mt → Bool
  | .tindex => false
  | _ => true
def methD (m : Mt) (x : D) (ds : List D) (h : Hs) : R D := match m, ds with
  | .append, [y] => match x with
    | .ref n => match h[n]? with
      | some (.lst xs) => if xs.length < LN then .ok .non (h.set n (.lst (xs ++ [y]))) else .stuck
      | _ => .stuck
    | _ => .stuck
  | .pop, [] => match x with
    | .ref n => match h[n]? with
      | some (.lst xs) => match xs[xs.length - 1]? with
        | some y => .ok y (h.set n (.lst xs.dropLast))
        | none => .stuck
      | _ => .stuck
    | _ => .stuck
  | .popAt, [.int i] => match x with
    | .ref n => match h[n]? with
      | some (.lst xs) => if 0 ≤ i ∧ i < xs.length ∧ xs.length ≤ LN then (match xs[i.toNat]? with
        | some y => .ok y (h.set n (.lst (xs.eraseIdx i.toNat)))
        | none => .stuck) else .stuck
      | _ => .stuck
    | _ => .stuck
  | .index, [y] => match seqOf h x with
    | some (xs, true) => if y.flat && xs.all D.flat then (match idxOf y xs 0 with
      | some j => .ok (.int (j : Nat)) h
      | none => .stuck) else .stuck
    | _ => .stuck
  | .insert, [.int i, y] => match x with
    | .ref n => match h[n]? with
      | some (.lst xs) => if 0 ≤ i ∧ i ≤ xs.length ∧ xs.length < LN then .ok .non (h.set n (.lst (xs.take i.toNat ++ y :: xs.drop i.toNat))) else .stuck
      | _ => .stuck
    | _ => .stuck
  | .tindex, [y] => match x with
    | .vt xs => if y.flat && xs.all D.flat then (match idxOf y xs 0 with
      | some j => .ok (.int (j : Nat)) h
      | none => .stuck) else .stuck
    | _ => .stuck
  | _, _ => .stuck
def truD (h : Hs) (d : D) : Option Bool := match d with
  | .non => some false
  | .bl b => some b
  | .int i => some (i != 0)
  | .str y => if y.length ≤ LN then some ((y.length : Int) != 0) else none
  | d => match seqOf h d with
    | some (xs, _) => some (!xs.isEmpty)
    | none => match dctOf h d with
      | some (false, kvs) => some (!kvs.isEmpty)
      | _ => none

def idxD (a i : D) (h : Hs) : R D :=
  match dctOf h a with
  | some (t, kvs) => match keyOf i with
    | some k => if isT k = t then (match dget kvs k with | some v => .ok v h | none => .stuck) else .stuck
    | none => .stuck
  | none => match a, i with
    | .str z, .int i => if z.length ≤ LN then (match atI z.cps.toList i with | some c => .ok (.str ⟨#[c]⟩) h | none => .stuck) else .stuck
    | a, .int i => match seqOf h a with
      | some (xs, _) => match atI xs i with
        | some v => .ok v h
        | none => .stuck
      | none => .stuck
    | _, _ => .stuck
def cutD {α : Type} (xs : List α) (lo hi : Option Int) : List α := (xs.drop (HT.sIx xs.length 0 lo)).take (HT.sIx xs.length xs.length hi - HT.sIx xs.length 0 lo)
def sliceD (fz : Bool) (a : D) (lo hi : Option Int) (h : Hs) : R D :=
  match a with
  | .str z => if z.length ≤ LN then .ok (.str (cutS z lo hi)) h else .stuck
  | a => match seqOf h a with
    | some (xs, true) => newL fz (cutD xs lo hi) h
    | some (xs, false) => if HT.sIx xs.length 0 lo = 0 ∧ HT.sIx xs.length xs.length hi = xs.length then .ok a h else .ok (.tup (cutD xs lo hi)) h
    | none => .stuck
def revD (fz : Bool) (a : D) (h : Hs) : R D := match seqOf h a with
  | some (xs, true) => newL fz xs.reverse h
  | some (xs, false) => .ok (.tup xs.reverse) h
  | _ => .stuck
def freezeD (d : D) (h : Hs) : R D := match d with
  | .ref n => match h[n]? with
    | some (.lst xs) => if D.pures xs then .ok (.lst xs) (h.set n .dead) else .stuck
    | some (.obj k fs) => if D.pures (fs.map (·.2)) then .ok (.ob k (fs.map (·.1)) (fs.map (·.2))) (h.set n .dead) else .stuck
    | _ => .stuck
  | d => if d.pure then .ok d h else .stuck
/-- the class of an instance, its attributes -/
def insOf (h : Hs) (d : D) : Option (Str × List (Str × D)) := match d with
  | .ob k ns ds => some (k, ns.zip ds)
  | .ref n => match h[n]? with
    | some (.obj k fs) => some (k, fs)
    | _ => none
  | _ => none
def attrD (k f : Str) (d : D) (h : Hs) : R D := match insOf h d with
  | some (k', fs) => if k' = k then (match fs.lookup f with | some v => .ok v h | none => .stuck) else .stuck
  | none => .stuck
/-- is it an instance of that class without an attribute of that name -/
def isMeth (k m : Str) (d : D) (h : Hs) : Bool := match insOf h d with
  | some (k', fs) => decide (k' = k) && (fs.lookup m).isNone
  | none => false
def putA (f : Str) (v : D) : List (Str × D) → List (Str × D)
  | [] => [(f, v)]
  | (g, w) :: r => if g = f then (g, v) :: r else (g, w) :: putA f v r
def setAD (k f : Str) (o v : D) (h : Hs) : Option Hs := match o with
  | .ref n => match h[n]? with
    | some (.obj k' fs) => if k' = k ∧ fs.length < 999 then some (h.set n (.obj k (putA f v fs))) else none
    | _ => none
  | _ => none
def dgetD (a k d : D) (h : Hs) : R D := match dctOf h a, keyOf k with
  | some (t, kvs), some q => if isT q = t then .ok ((dget kvs q).getD d) h else .stuck
  | _, _ => .stuck
def keysD : List D → Option (List DKey)
  | [] => some []
  | d :: ds => match keyOf d, keysD ds with
    | some k, some ks => some (k :: ks)
    | _, _ => none
def seqsOf (h : Hs) : List D → Option (List (List D))
  | [] => some []
  | .ref _ :: _ => none
  | d :: ds => match seqOf h d, seqsOf h ds with
    | some (xs, _), some r => some (xs :: r)
    | _, _ => none
def setLst (n : Nat) (xs : List D) (i v : D) (h : Hs) : Option Hs := match i with
  | .int k => (ixN xs.length k).map fun j => h.set n (.lst (xs.set j v))
  | _ => none
def setDct (n : Nat) (t : Bool) (kvs : List (DKey × D)) (i v : D) (h : Hs) : Option Hs := match keyOf i with
  | some k => if isT k = t ∧ kvs.length < LN then some (h.set n (.dct t (dput kvs k v))) else none
  | none => none
def setD (a i v : D) (h : Hs) : Option Hs := match a with
  | .ref n => match h[n]? with
    | some (.lst xs) => setLst n xs i v h
    | some (.dct t kvs) => setDct n t kvs i v h
    | _ => none
  | _ => none

/-- list(range(a, b)) -/
def lr2D (fz : Bool) (x y : D) (h : Hs) : R D := match x, y with
  | .int i, .int j => if -(LN : Int) ≤ i ∧ i ≤ (LN : Int) ∧ -(LN : Int) ≤ j ∧ j ≤ (LN : Int) then newL fz ((List.range (j - i).toNat).map fun k => .int (i + (k : Nat))) h else .stuck
  | _, _ => .stuck
/-! ### denotation -/
def truF (f : Env → Hs → R D) : Env → Hs → R Bool := fun ρ h => (f ρ h).bind fun x h1 => match truD h1 x with
  | some k => .ok k h1
  | none => .stuck
def noT : Env → Hs → R Bool := fun _ _ => .stuck
abbrev withT (f : Env → Hs → R D) : (Env → Hs → R D) × (Env → Hs → R Bool) := (f, truF f)
mutual
/-- a value, and a test's answer -/
def Ex.dt (c : Cfg) : Ex → (Env → Hs → R D) × (Env → Hs → R Bool)
  | .var i => withT fun ρ h => match ρ[i]? with
    | some (some d) => .ok d h
    | _ => .stuck
  | .glob x => withT fun _ h => match c.gl x with
    | some d => .ok d h
    | none => .stuck
  | .cint i => withT fun _ h => .ok (.int i) h
  | .cbl b => withT fun _ h => .ok (.bl b) h
  | .cnon => withT fun _ h => .ok .non h
  | .cstr s => withT fun _ h => .ok (.str s) h
  | .bin o fz a b => withT fun ρ h => ((a.dt c).1 ρ h).bind fun x h1 => ((b.dt c).1 ρ h1).bind fun y h2 => binD o fz x y h2
  | .neg a => withT fun ρ h => ((a.dt c).1 ρ h).bind fun x h1 => match x with | .int i => .ok (.int (-i)) h1 | _ => .stuck
  | .cmp o a b => withT fun ρ h => ((a.dt c).1 ρ h).bind fun x h1 => ((b.dt c).1 ρ h1).bind fun y h2 => cmpD o x y h2
  | .chain o o' a b e => withT fun ρ h => ((a.dt c).1 ρ h).bind fun x h1 => ((b.dt c).1 ρ h1).bind fun y h2 => (cmpD o x y h2).bind fun z h3 => match z with
    | .bl true => ((e.dt c).1 ρ h3).bind fun w h4 => cmpD o' y w h4
    | .bl false => .ok (.bl false) h3
    | _ => .stuck
  | .and a b => (fun ρ h => ((a.dt c).1 ρ h).bind fun x h1 => match x with
      | .bl true => (b.dt c).1 ρ h1
      | .bl false => .ok (.bl false) h1
      | _ => .stuck,
    fun ρ h => ((a.dt c).2 ρ h).bind fun k h1 => if k = true then (b.dt c).2 ρ h1 else .ok false h1)
  | .or a b => (fun ρ h => ((a.dt c).1 ρ h).bind fun x h1 => match x with
      | .bl true => .ok (.bl true) h1
      | .bl false => (b.dt c).1 ρ h1
      | _ => .stuck,
    fun ρ h => ((a.dt c).2 ρ h).bind fun k h1 => if k = true then .ok true h1 else (b.dt c).2 ρ h1)
  | .not a => (fun ρ h => ((a.dt c).1 ρ h).bind fun x h1 => match x with
      | .bl b => .ok (.bl (!b)) h1
      | _ => .stuck,
    fun ρ h => ((a.dt c).2 ρ h).bind fun k h1 => .ok (!k) h1)
  | .ite t a b => (fun ρ h => ((t.dt c).2 ρ h).bind fun k h1 => if k = true then (a.dt c).1 ρ h1 else (b.dt c).1 ρ h1, noT)
  | .tup es => withT fun ρ h => (es.den c ρ h).bind fun ds h1 => if ds.length ≤ LN then .ok (.tup ds) h1 else .stuck
  | .lst fz es => withT fun ρ h => (es.den c ρ h).bind fun ds h1 => newL fz ds h1
  | .idx a i => withT fun ρ h => ((a.dt c).1 ρ h).bind fun x h1 => ((i.dt c).1 ρ h1).bind fun y h2 => idxD x y h2
  | .slice fz a lo hi => withT fun ρ h => ((a.dt c).1 ρ h).bind fun x h1 => (lo.part c ρ h1).bind fun l h2 => (hi.part c ρ h2).bind fun u h3 => sliceD fz x l u h3
  | .call f es => withT fun ρ h => (es.den c ρ h).bind fun ds h1 => c.Γ f ds h1
  | .prim p fz es => withT fun ρ h => (es.den c ρ h).bind fun ds h1 => primD p fz ds h1
  | .lrange fz a => withT fun ρ h => ((a.dt c).1 ρ h).bind fun x h1 => match x with
    | .int n => if -(LN : Int) ≤ n ∧ n ≤ (LN : Int) then newL fz ((List.range n.toNat).map fun k => .int (k : Nat)) h1 else .stuck
    | _ => .stuck
  | .lc fz own tg it cond elt => withT fun ρ h => (it.den c ρ h).bind fun xs h1 =>
    (lcD (tg.den c) (cond.tsts c) (elt.dt c).1 (wipeE ρ (own.map (·.2))) xs [] h1).bind fun ds h2 => newL fz ds h2
  | .rev fz a => withT fun ρ h => ((a.dt c).1 ρ h).bind fun x h1 => revD fz x h1
  | .freeze a => (fun ρ h => ((a.dt c).1 ρ h).bind fun x h1 => freezeD x h1, noT)
  | .dnew t => withT fun _ h => .ok (.ref h.length) (h ++ [.dct t []])
  | .meth m a es => withT fun ρ h => ((a.dt c).1 ρ h).bind fun x h1 => if m.recv h1 x = true then (es.den c ρ h1).bind fun ds h2 => methD m x ds h2 else .stuck
  | .tupS es => withT fun ρ h => (es.den c ρ h).bind fun ds h1 => if ds.length ≤ LN then .ok (.tup ds) h1 else .stuck
  | .lc2 fz own vs1 tg it tg1 it1 cond elt => withT fun ρ h => (it.den c ρ h).bind fun xs h1 =>
    (lc2D (tg.den c) (it1.den c) (tg1.den c) (cond.tsts c) (elt.dt c).1 (wipeE ρ (own.map (·.2))) vs1 xs [] h1).bind fun ds h2 => newL fz ds h2
  | .ctup es => withT fun ρ h => (es.den c ρ h).bind fun ds h1 => if ds.length ≤ LN then .ok (.vt ds) h1 else .stuck
  | .fzd a => (fun ρ h => ((a.dt c).1 ρ h).bind fun x h1 => fzR x h1, noT)
  | .attr k a f => withT fun ρ h => ((a.dt c).1 ρ h).bind fun x h1 => attrD k f x h1
  | .mcall i k m a es => withT fun ρ h => ((a.dt c).1 ρ h).bind fun x h1 => if isMeth k m x h1 = true then (es.den c ρ h1).bind fun ds h2 => c.Γ i (x :: ds) h2 else .stuck
  | .make i k es => withT fun ρ h => (es.den c ρ h).bind fun ds h1 => (c.Γ i (.ref h1.length :: ds) (h1 ++ [.obj k []])).bind fun r h2 => match r with
    | .non => .ok (.ref h1.length) h2
    | _ => .stuck
  | .callV i cs es => withT fun ρ h => match ρ[i]? with
    | some (some (.fn x)) => match cs.lookup x with
      | some j => (es.den c ρ h).bind fun ds h1 => c.Γ j ds h1
      | none => .stuck
    | _ => .stuck
  | .fnv x => withT fun _ h => .ok (.fn x) h
  | .isin2 t u a => withT fun ρ h => ((a.dt c).1 ρ h).bind fun x h1 => match typeIs h1 x t, typeIs h1 x u with
    | some b, some b' => .ok (.bl (b || b')) h1
    | _, _ => .stuck
  | .dcT own tg it k v => withT fun ρ h => (it.den c ρ h).bind fun xs h1 => (dcD (tg.den c) (k.dt c).1 (v.dt c).1 (wipeE ρ (own.map (·.2))) xs [] h1).bind fun kvs h2 => .ok (.ref h2.length) (h2 ++ [.dct true kvs])
  | .dget a k d => withT fun ρ h => ((a.dt c).1 ρ h).bind fun x h1 => if (dctOf h1 x).isSome = true then ((k.dt c).1 ρ h1).bind fun y h2 => ((d.dt c).1 ρ h2).bind fun z h3 => dgetD x y z h3 else .stuck
  | .dispT ps => withT fun ρ h => (ps.den c ρ h).bind fun ds h1 => match keysD (ds.map (·.1)) with
    | some kk => if kk.all isT && decide (ds.length ≤ 15) && decide (0 < ds.length) then .ok (.ref h1.length) (h1 ++ [.dct true ((kk.zip (ds.map (·.2))).foldl (fun m p => dput m p.1 p.2) [])]) else .stuck
    | none => .stuck
  | .lcC fz own tg i elt => withT fun ρ h => match ρ[i]? with
    | some (some (.ref n)) => (lcCD n (tg.den c) (elt.dt c).1 (wipeE ρ (own.map (·.2))) c.F 0 [] h).bind fun ds h2 => newL fz ds h2
    | _ => .stuck
  | .lrange2 fz a b => withT fun ρ h => ((a.dt c).1 ρ h).bind fun x h1 => ((b.dt c).1 ρ h1).bind fun y h2 => lr2D fz x y h2
def Exs.den (c : Cfg) : Exs → Env → Hs → R (List D)
  | .nil => fun _ h => .ok [] h
  | .cons e es => fun ρ h => ((e.dt c).1 ρ h).bind fun x h1 => (es.den c ρ h1).bind fun xs h2 => .ok (x :: xs) h2
/-- pairs, from the left -/
def Pxs.den (c : Cfg) : Pxs → Env → Hs → R (List (D × D))
  | .nil => fun _ h => .ok [] h
  | .cons k v r => fun ρ h => ((k.dt c).1 ρ h).bind fun x h1 => ((v.dt c).1 ρ h1).bind fun y h2 => (r.den c ρ h2).bind fun ps h3 => .ok ((x, y) :: ps) h3
/-- some of them starred -/
def Sxs.den (c : Cfg) : Sxs → Env → Hs → R (List D)
  | .nil => fun _ h => .ok [] h
  | .cons e es => fun ρ h => ((e.dt c).1 ρ h).bind fun x h1 => (es.den c ρ h1).bind fun xs h2 => .ok (x :: xs) h2
  | .star e es => fun ρ h => ((e.dt c).1 ρ h).bind fun x h1 => match seqOf h1 x with
    | some (ys, _) => (es.den c ρ h1).bind fun xs h2 => .ok (ys ++ xs) h2
    | none => .stuck
/-- an optional part of a slice -/
def Exs.part (c : Cfg) : Exs → Env → Hs → R (Option Int)
  | .nil => fun _ h => .ok none h
  | .cons e _ => fun ρ h => ((e.dt c).1 ρ h).bind fun x h1 => match x with
    | .int i => .ok (some i) h1
    | _ => .stuck
/-- a clause's tests: none or one -/
def Exs.tsts (c : Cfg) : Exs → Env → Hs → R Bool
  | .nil => fun _ h => .ok true h
  | .cons e _ => (e.dt c).2
def Itx.den (c : Cfg) : Itx → Env → Hs → R (List D)
  | .seq e => fun ρ h => ((e.dt c).1 ρ h).bind fun x h1 => match x with
    | .ref _ => .stuck
    | x => match seqOf h1 x with
      | some (xs, _) => .ok xs h1
      | none => .stuck
  | .range es => fun ρ h => (es.den c ρ h).bind fun ds h1 => match ds with
    | [.int n] => if -(LN : Int) ≤ n ∧ n ≤ (LN : Int) then .ok ((List.range n.toNat).map fun k => .int (k : Nat)) h1 else .stuck
    | [.int a, .int b] => if -(LN : Int) ≤ a ∧ a ≤ (LN : Int) ∧ -(LN : Int) ≤ b ∧ b ≤ (LN : Int) then .ok ((List.range (b - a).toNat).map fun k => .int (a + (k : Nat))) h1 else .stuck
    | [.int a, .int b, .int s] => if s = -1 ∧ -(LN : Int) ≤ a ∧ a ≤ (LN : Int) ∧ -(LN : Int) ≤ b ∧ b ≤ (LN : Int) then .ok ((List.range (a - b).toNat).map fun k => .int (a - (k : Nat))) h1 else .stuck
    | _ => .stuck
  | .enum e => fun ρ h => ((e.dt c).1 ρ h).bind fun x h1 => match x with
    | .ref _ => .stuck
    | x => match seqOf h1 x with
      | some (xs, _) => .ok ((List.range xs.length).zipWith (fun k x => .tup [.int (k : Nat), x]) xs) h1
      | none => .stuck
  | .zip a b => fun ρ h => ((a.dt c).1 ρ h).bind fun x h1 => ((b.dt c).1 ρ h1).bind fun y h2 => match x, y with
    | .ref _, _ => .stuck
    | _, .ref _ => .stuck
    | x, y => match seqOf h2 x, seqOf h2 y with
      | some (xs, k), some (ys, k') => if k = k' then .ok (xs.zipWith (fun x y => .tup [x, y]) ys) h2 else .stuck
      | _, _ => .stuck
  | .zipM a b => fun ρ h => ((a.dt c).1 ρ h).bind fun x h1 => ((b.dt c).1 ρ h1).bind fun y h2 => match x, y with
    | .ref _, _ => .stuck
    | _, .ref _ => .stuck
    | x, y => match seqOf h2 x, seqOf h2 y with
      | some (xs, _), some (ys, _) => if xs.length = ys.length then .ok ((List.range xs.length).map fun j => .tup [xs.getD j .non, ys.getD j .non]) h2 else .stuck
      | _, _ => .stuck
  | .enumZ a b => fun ρ h => ((a.dt c).1 ρ h).bind fun x h1 => ((b.dt c).1 ρ h1).bind fun y h2 => match x, y with
    | .ref _, _ => .stuck
    | _, .ref _ => .stuck
    | x, y => match seqOf h2 x, seqOf h2 y with
      | some (xs, _), some (ys, _) => if xs.length = ys.length then .ok ((List.range xs.length).map fun j => .tup [.int (j : Nat), .tup [xs.getD j .non, ys.getD j .non]]) h2 else .stuck
      | _, _ => .stuck
  | .zipN es => fun ρ h => (es.den c ρ h).bind fun ds h1 => match (seqsOf h1 ds).bind colsD with
    | some ys => .ok ys h1
    | none => .stuck
  | .zipS e => fun ρ h => ((e.dt c).1 ρ h).bind fun x h1 => match x with
    | .ref _ => .stuck
    | x => match seqOf h1 x with
      | some (xs, _) => (match (tupsOf xs).bind colsD with
        | some ys => .ok ys h1
        | none => .stuck)
      | none => .stuck
  | .enumF e k => fun ρ h => ((e.dt c).1 ρ h).bind fun x h1 => match x with
    | .ref _ => .stuck
    | x => match seqOf h1 x with
      | some (xs, true) => .ok ((List.range xs.length).zipWith (fun j x => .tup [.int ((k + j : Nat) : Int), x]) xs) h1
      | _ => .stuck
def Tg.den (c : Cfg) : Tg → D → Env → Hs → Out
  | .name i => fun d ρ h => if i < ρ.length then .nx (ρ.set i (some d)) h else .stuck
  | .tup ts => fun d ρ h => match d with
    | .tup xs => if xs.length = ts.n then ts.den c xs ρ h else .stuck
    | .vt xs => if xs.length = ts.n then ts.den c xs ρ h else .stuck
    | .lst xs => if xs.length = ts.n then ts.den c xs ρ h else .stuck
    | _ => .stuck
  | .idx a i => fun d ρ h => ((a.dt c).1 ρ h).go ρ fun x h1 => ((i.dt c).1 ρ h1).go ρ fun y h2 => match setD x y d h2 with
    | some h3 => .nx ρ h3
    | none => .stuck
def Tgs.den (c : Cfg) : Tgs → List D → Env → Hs → Out
  | .nil => fun ds ρ h => match ds with
    | [] => .nx ρ h
    | _ => .stuck
  | .cons t ts => fun ds ρ h => match ds with
    | d :: r => (t.den c d ρ h).andThen fun ρ1 h1 => ts.den c r ρ1 h1
    | [] => .stuck
end
abbrev Ex.den (c : Cfg) (e : Ex) : Env → Hs → R D := (e.dt c).1
abbrev Ex.tst (c : Cfg) (e : Ex) : Env → Hs → R Bool := (e.dt c).2

def augD (o : BOp) (x y : D) : Option D := match o, x, y with
  | .add, .int i, .int j => some (.int (i + j))
  | .sub, .int i, .int j => some (.int (i - j))
  | .mul, .int i, .int j => if (-(2 ^ 64) < i ∧ i < 2 ^ 64) ∨ (-(2 ^ 64) < j ∧ j < 2 ^ 64) then some (.int (i * j)) else none
  | .fdiv, .int i, .int j => if 0 < j ∧ j < 1073741824 then some (.int (i / j)) else none
  | .mod, .int i, .int j => if 0 < j then some (.int (i % j)) else none
  | .add, .str i, .str j => if i.length + j.length ≤ LN then some (.str (i ++ j)) else none
  | _, _, _ => none
def setS (ρ : Env) (i : Nat) (d : D) (h : Hs) : Out := if i < ρ.length then .nx (ρ.set i (some d)) h else .stuck

/-- the classes of the program's own exceptions: one is above all others -/
def supOf (k x : Str) : Bool := k == x || x == ("MatedsquaresError" : Str)
def Hx.val (k : Str) : Hx → Option D
  | .cint i => some (.int i)
  | .cbl b => some (.bl b)
  | .cnon => some .non
  | .cstr s => some (.str s)
  | .isi x => some (.bl (supOf k x))
  | .isv => some (.bl true)
  | .and a b => match a.val k with
    | some (.bl true) => b.val k
    | some (.bl false) => some (.bl false)
    | _ => none
  | .not a => match a.val k with
    | some (.bl b) => some (.bl (!b))
    | _ => none
  | .pick a b i => match a.val k, b.val k, i.val k with
    | some x, some y, some (.bl j) => some (if j then y else x)
    | _, _, _ => none
/-- the classes that it asks about -/
def Hx.xs : Hx → List Str
  | .isi x => [x]
  | .and a b => a.xs ++ b.xs
  | .not a => a.xs
  | .pick a b i => a.xs ++ b.xs ++ i.xs
  | _ => []
mutual
def Sm.den (c : Cfg) : Sm → Env → Hs → Out
  | .set i e, ρ, h => (e.den c ρ h).go ρ fun d h1 => setS ρ i d h1
  | .asg tg e, ρ, h => (e.den c ρ h).go ρ fun d h1 => tg.den c d ρ h1
  | .par is es, ρ, h => (es.den c ρ h).go ρ fun ds h1 => match is, ds with
    | [i, j], [x, y] => if i < ρ.length ∧ j < ρ.length then .nx ((ρ.set i (some x)).set j (some y)) h1 else .stuck
    | [i, j, k], [x, y, z] => if i < ρ.length ∧ j < ρ.length ∧ k < ρ.length then .nx (((ρ.set i (some x)).set j (some y)).set k (some z)) h1 else .stuck
    | _, _ => .stuck
  | .aug i o e, ρ, h => match ρ[i]? with
    | some (some x) => (e.den c ρ h).go ρ fun y h1 => match augD o x y with
      | some z => setS ρ i z h1
      | none => .stuck
    | _ => .stuck
  | .expr e, ρ, h => (e.den c ρ h).go ρ fun _ h1 => .nx ρ h1
  | .ret e, ρ, h => (e.den c ρ h).go ρ fun d h1 => .ret d h1
  | .retN, _, h => .ret .non h
  | .ite t a b, ρ, h => (t.tst c ρ h).go ρ fun k h1 => if k = true then a.den c ρ h1 else b.den c ρ h1
  | .while t b, ρ, h => whileD (t.tst c) (b.den c) c.F ρ h
  | .for tg it b, ρ, h => (it.den c ρ h).go ρ fun xs h1 => forD (tg.den c) (b.den c) xs ρ h1
  | .pass, ρ, h => .nx ρ h
  | .brk, ρ, h => .brk ρ h
  | .cnt, ρ, h => .cnt ρ h
  | .raise x, ρ, h => if c.xs.contains x then .exc x none ρ h else .stuck
  | .tryR b x e, ρ, h => match b.den c ρ h with
    | .exc k p ρ' h' => if c.xs.contains k && c.xs.contains x then (if supOf k x then (e.den c ρ' h').go ρ' fun d h1 => .ret d h1 else .exc k p ρ' h') else .stuck
    | o => o
  | .tryA b x i e, ρ, h => match b.den c ρ h with
    | .exc k p ρ' h' => if c.xs.contains k && c.xs.contains x && e.xs.all c.xs.contains then (if supOf k x then (match p, e.val k with
      | none, some d => if i < ρ'.length then .ret d h' else .stuck
      | _, _ => .stuck) else .exc k p ρ' h') else .stuck
    | o => o
  | .fz i, ρ, h => match ρ[i]? with
    | some (some d) => (match fzD DEEPF d h with
      | some (d', h') => .nx (ρ.set i (some d')) h'
      | none => .stuck)
    | _ => .nx ρ h
  | .setA k a f e, ρ, h => (e.den c ρ h).go ρ fun v h1 => (a.den c ρ h1).go ρ fun o h2 => match setAD k f o v h2 with
    | some h3 => .nx ρ h3
    | none => .stuck
def Sms.den (c : Cfg) : Sms → Env → Hs → Out
  | .nil, ρ, h => .nx ρ h
  | .cons s ss, ρ, h => (s.den c ρ h).andThen fun ρ1 h1 => ss.den c ρ1 h1
end

/-! ### functions, programs -/
structure Fn where
  nm : Str
  ps : List Str
  N : List Str
  body : Sms
  sh : Bool := false
  cl : Option Str := none
  q : Str := nm
def pureO : Option D → Bool
  | none => true
  | some d => d.pure
/-- a def's body, run on plain data with cells of its own -/
def runFn (c : Cfg) (f : Fn) (ds : List D) : R D :=
  if ds.length = f.ps.length ∧ D.pures ds then
    match f.body.den c (ds.map some ++ List.replicate (f.N.length - ds.length) none) [] with
    | .nx _ _ => .ok .non []
    | .ret d _ => if d.pure then .ok d [] else .stuck
    | .exc x p _ _ => if pureO p then .exc x p [] else .stuck
    | _ => .stuck
  else .stuck
/-- .. on what it is handed, with its caller's cells -/
def runSh (c : Cfg) (f : Fn) (ds : List D) (h : Hs) : R D :=
  if ds.length = f.ps.length then
    match f.body.den c (ds.map some ++ List.replicate (f.N.length - ds.length) none) h with
    | .nx _ h' => .ok .non h'
    | .ret d h' => .ok d h'
    | .exc x p _ h' => .exc x p h'
    | _ => .stuck
  else .stuck
def G (fs : List Fn) (gl : Str → Option D) (xs : List Str) (F : Nat) : Nat → Nat → List D → Hs → R D
  | 0, _, _, _ => .stuck
  | n + 1, x, ds, h => match fs[x]? with
    | none => .stuck
    | some f => if f.sh then runSh ⟨G fs gl xs F n, gl, xs, F⟩ f ds h else match runFn ⟨G fs gl xs F n, gl, xs, F⟩ f ds with
      | .ok d _ => .ok d h
      | .exc x p _ => .exc x p h
      | .stuck => .stuck
end Ev
set_option maxHeartbeats 2000000
/-! Ev, part Gd: defs whose callers stand in no display: repr of tuples and lists. -/
namespace Ev
open PySem PySem.Spec PyProof.Rows L2
/-- the promise of a def to callers outside of all displays -/
structure FnG (prog : Program) (wd : World) (K : PySem.W.Frag) (mg : Str → Option Value) (ground : Heap) (C : CXT) (n : Nat) (at' : Addr) (fun' : FuncData) (names : List Str) (want : Sp) : Prop where
  size : ∀ {xs H Q E}, want xs H Q E → xs.length = names.length
  goes : ∀ {A : Around} {up : List PySem.Env} {s : Shared} {H : Hp} {given : Args} {us : List Value} {xs : List V} {Q : VK} {E : XK}, Room n A → A.guards = some [] →
    Env0 prog wd K mg ground A up s H → BindsTo s fun' given (names.zip us) → Vals xs us → want xs H Q E → codeAny (model prog wd) A (.call (.ref at') given) (CR C up prog wd H s Q E) s
theorem FnG.less {prog : Program} {wd : World} {K : PySem.W.Frag} {mg : Str → Option Value} {ground : Heap} {C : CXT} {m n : Nat} {at' : Addr} {fun' : FuncData} {names : List Str} {want : Sp}
    (D : FnG prog wd K mg ground C m at' fun' names want) (h : m ≤ n) : FnG prog wd K mg ground C n at' fun' names want := ⟨D.size, fun r => D.goes (r.mono h)⟩
theorem deep_guards {A : Around} {e : PySem.Env} : (A.deeper e).guards = A.guards := rfl
/-- such a def by its body -/
theorem fnG_of {prog : Program} {wd : World} {K : PySem.W.Frag} {mg : Str → Option Value} {ground : Heap} {C : CXT} {n : Nat} {want : Sp} {x qual : Str} {pars : Arguments} {bd : List Stmt} {sc : Scope} {at' : Addr} {fun' : FuncData} {N names : List Str}
    (D : FunD K x qual pars bd sc [] [] at' fun') (S : FnScope N names sc) (size : ∀ {xs H Q E}, want xs H Q E → xs.length = names.length)
    (body : ∀ (cd : Value) (A : Around) (up : List PySem.Env) (s : Shared) (H : Hp) (xs : List V) (Q : VK) (E : XK), Room n (A.deeper (envOfC qual sc s.heap.objs.size at' cd)) → A.guards = some [] → want xs H Q E →
      ∃ t, PSs (cxOf C prog wd K mg ground N qual sc at' cd A up s H E) bd t ∧ t { nx := fun _ H' => Q .non H', rt := Q } (L2.start N xs) H) : FnG prog wd K mg ground C (n + 1) at' fun' names want := by
  refine ⟨size, ?_⟩
  intro A up s H given us xs Q E room gd e0 bnd rel hw
  obtain ⟨_, _, _, _, _, _, _, cd, _, _, rfl, found, code, _⟩ := D.ex
  have keeps : ∀ b o, ground.get? b = some o → s.heap.get? b = some o := fun b o e => (e0.bs b o e).1
  have KX : K.In s.heap := e0.mod.kin.keeps keeps
  have places : ∀ y ∈ names.zip us, sc.names.lookup y.1 = some .local ∨ (sc.names.lookup y.1 = some .cell ∧ ((cellsFrom (s.heap.objs.size + 1) sc.names []).lookup y.1).isSome = true) := by
    intro y hy
    obtain ⟨nm, v⟩ := y
    have hm := (List.of_mem_zip hy).1
    rcases S.par nm hm with l | l
    · exact Or.inl l
    · exact Or.inr ⟨l, PySem.W.cellsFrom_some _ _ _ (Or.inl l)⟩
  refine codeAny_call_function room.depth (KX _ _ found) rfl S.co S.gen rfl (PySem.W.codeRec_of KX code) (bnd _ _ _ _ ?_)
  refine wpAny_newFunctionEnv_cells S.kind places ?_
  intro env henv s1 made
  subst henv
  refine ⟨(e0.mod.nolimit.keeps keeps).keeps made.toInCall.keep, codeAny_func ?_⟩
  obtain ⟨t, walk, res⟩ := body cd A up s H xs Q E (room.deeper _) gd hw
  have I : Inv (cxOf C prog wd K mg ground N qual sc at' cd A up s H E) [] (L2.start N xs) H s1 := inv_start S room.hd e0 (size hw) rel made
  refine wpAny_mono (walk.run [] s1 (L2.start N xs) H _ I res) ?_ (fun _ _ z => z)
  intro fl s' z
  cases fl with
  | next =>
    obtain ⟨σ', H', J, q⟩ := z
    exact ⟨V.non, H', J.os, J.bare, J.base, J.hok, rfl, q⟩
  | ret u =>
    obtain ⟨v, σ', H', J, rv, q⟩ := z
    exact ⟨v, H', J.os, J.bare, J.base, J.hok, rv, q⟩
  | brk => exact (z.choose_spec.choose_spec.2 : False).elim
  | cont => exact (z.choose_spec.choose_spec.2 : False).elim
section
variable {X : Cx} {C : CXT} {n : Nat} {at' : Addr} {fun' : FuncData} {names : List Str} {want : Sp} {E : L2.St → XK}
/-- its call -/
theorem pe_callG {x : Str} {p pos : Pos} {e : Expr} {es : List Expr} {t : TA} (D : FnG X.prog X.w X.K X.mg X.base C n at' fun' names want) (room : Room n X.A) (gd : X.A.guards = some []) (glob : Gl X x) (there : X.mg x = some (.ref at')) (kept : PySem.W.keepIn X.K (.ref at') = true)
    (bnd : Binds X.K fun' names []) (out : ∀ σ, PassesAt C X σ (E σ)) (walk : PA X (e :: es) t) (dbg : (x == ("__debug__" : Str)) = false) (st : starEach (e :: es) X.env = (false, eval e X.env) :: starEach es X.env)
    (bk : (backTo pos (starEach es X.env)).any (·.1) = false) : PE X (.Call (.Name x p) (e :: es) [] pos) (tCallS want E t) := by
  constructor
  intro pins s σ H Q I h
  refine wpAny_Call_Name_kw (ld_glob I glob there ?_ dbg)
  refine PySem.W.callWith_K (h₀ := X.base) I.ok.mod.kin kept ?_ st bk
  refine thn (walk.run pos pins s σ H _ I h) ?_
  intro us s1 z
  obtain ⟨xs, H1, I1, rel, hw⟩ := z
  refine ⟨I1.kIn, ?_⟩
  have len : us.length = names.length := rel.length ▸ D.size hw
  have b := bnd s1 us I1.kIn (by rw [List.append_nil]; exact len)
  rw [List.append_nil] at b
  refine wpAny_call (codeAny_mono (D.goes (given := ⟨us, []⟩) room gd I1.env0 b rel hw) ?_)
  intro r s' z
  cases r with
  | error ex => exact out σ pins H1 s1 ex s' I1 z
  | ok fl =>
    cases fl with
    | ret u => exact I1.after z
    | next => exact (z : False).elim
    | brk => exact (z : False).elim
    | cont => exact (z : False).elim
end
/-- repr of plain data -/
def rRepr (K : PySem.W.Frag) : List V → Hp → VK → Prop := fun xs H Q => ∃ v d, xs = [v] ∧ Dp K H v d ∧ d.hasDict = false ∧ d.showable = true ∧ d.depth ≤ 64 ∧ d.shown.length ≤ sizeLine ∧ Q (.str d.shown) H
theorem call_reprD {X : Cx} (gd : X.A.guards = some []) (un : X.A.units + 65 < cLine) : CallR X (.builtin "repr") (rRepr X.K) := by
  intro pins s σ H xs us Q I rel h
  obtain ⟨v, d, rfl, dp, nd, sh, dep, sz, q⟩ := h
  obtain ⟨u, rfl, ru⟩ := vals1 rel
  cases dp with
  | non => cases ru; exact PySem.P.repr_of_none ⟨.str _, H, I.tok _, ⟨_, rfl⟩, by simpa only [PyData.shown] using q⟩
  | bl b =>
    cases ru
    exact PySem.P.repr_of_bool ⟨.str _, H, I.tok _, ⟨_, rfl⟩, by simpa only [PyData.shown] using q⟩
  | int i =>
    obtain ⟨t, rfl⟩ := ru
    exact PySem.P.repr_of_int (by simpa only [PyData.showable, decide_eq_true_eq] using sh) ⟨.str _, H, I.tok _, ⟨_, rfl⟩, by simpa only [PyData.shown] using q⟩
  | str x =>
    obtain ⟨t, rfl⟩ := ru
    exact PySem.P.repr_of_str ⟨.str _, H, I.tok _, ⟨_, rfl⟩, by simpa only [PyData.shown] using q⟩ (by simpa only [PyData.shown] using sz)
  | @lst a xs ds h1 h2 =>
    cases ru
    obtain ⟨as, rd⟩ := Dp.reads I _ _ _ (Dp.lst h1 h2) rfl
    exact repr_of_reads' rd sh (PyData.noDict_hsm nd) gd (by omega) (fun _ _ e => e) (fun h' u t k => ⟨.str _, H, I.kept k, ⟨_, rfl⟩, q⟩) sz
  | @tup a xs ds h1 h2 =>
    cases ru
    obtain ⟨as, rd⟩ := Dp.reads I _ _ _ (Dp.tup h1 h2) rfl
    exact repr_of_reads' rd sh (PyData.noDict_hsm nd) gd (by omega) (fun _ _ e => e) (fun h' u t k => ⟨.str _, H, I.kept k, ⟨_, rfl⟩, q⟩) sz
/-- the call of the law itself: `Seen` says what is tracked at the start -/
structure Seen (K : PySem.W.Frag) (prog : Program) (wd : World) (h : Heap) (a : Addr) (ns : List Int) (H : Hp) : Prop where
  only : Only H
  list : SqL K H a (ns.map V.int)
  good : HOk prog wd H h
  mine : ∀ b, H b ≠ none → b = a
  free : H a ≠ none → K.lookup a = none
theorem seen_ex {K : PySem.W.Frag} {prog : Program} {wd : World} {h : Heap} {a : Addr} {vs : List Value} {ns : List Int} (KX : K.In h) (there : h.get? a = some { cls := .type "list", data := .seq vs.toArray }) (are : IntsAre vs ns) (short : ns.length ≤ sizeLine) :
    ∃ H, Seen K prog wd h a ns H := by
  have rv : Vals (ns.map V.int) vs := vals_ints are
  by_cases known : ∃ o, K.lookup a = some o
  · obtain ⟨o, hk⟩ := known
    have e := KX a o hk
    rw [there] at e
    cases e
    refine ⟨fun _ => none, ⟨fun _ => Or.inl rfl, Or.inr ⟨_, vs.toArray, _, hk, rfl, rfl, rfl, ?_, by simpa using rv⟩, fun b u z => (nomatch z), fun b z => absurd rfl z, fun z => absurd rfl z⟩⟩
    rw [List.size_toArray, are.length]
    exact short
  · have hk : K.lookup a = none := by
      cases e : K.lookup a with
      | none => rfl
      | some o => exact absurd ⟨o, e⟩ known
    generalize ho : HO.frz { cls := .type "list", data := .seq vs.toArray } (.lst (ns.map V.int)) = o
    refine ⟨fun b => if b = a then some o else none, ⟨fun b => ?_, ?_, fun b u z => ?_, fun b z => ?_, fun _ => hk⟩⟩
    · by_cases hb : b = a
      · subst ho
        exact Or.inr ⟨_, _, if_pos hb⟩
      · exact Or.inl (if_neg hb)
    · subst ho
      exact Or.inl (Or.inr ⟨_, if_pos rfl⟩)
    · by_cases hb : b = a
      · have z1 := (if_pos hb).symm.trans z
        subst ho
        cases z1
        subst hb
        exact ⟨there, by rw [List.length_map]; exact short, vs, _, rv, there⟩
      · exact nomatch (if_neg hb).symm.trans z
    · by_cases hb : b = a
      · exact hb
      · exact absurd (if_neg hb) z
theorem law_callG {prog : Program} {wd : World} {K : PySem.W.Frag} {mg mb : Str → Option Value} {C : CXT} {n : Nat} {at' a : Addr} {fun' : FuncData} {x : Str} {want : Sp} {s : Shared} {vs : List Value} {ns : List Int}
    (KX : K.In s.heap) (glob : s.heap.Ns mainGlobals mg) (blt : s.heap.Ns builtinsNs mb) (boot : ∀ x : Str, x ≠ "__name__" → mb x = bootBuiltins x) (lim : s.heap.NoLimit) (calm : s.gens = #[])
    (there : s.heap.get? a = some { cls := .type "list", data := .seq vs.toArray }) (are : IntsAre vs ns) (short : ns.length ≤ sizeLine) (room : Room n callerA)
    (D : ∀ ground : Heap, K.In ground → ground.Ns mainGlobals mg → FnG prog wd K mg ground C n at' fun' [x] want) (bnd : ∀ (s : Shared) (u : Value), BindsTo s fun' ⟨[u], []⟩ [(x, u)])
    (hw : ∀ H : Hp, Only H → SqL K H a (ns.map V.int) → want [.ref a] H (fun v _ => v = .bl true) fun _ _ _ => False) (none' : ∀ H e s', C [] H s (fun _ _ _ => False) e s' → False) :
    codeAny (model prog wd) callerA (.call (.ref at') ⟨[.ref a], []⟩) (fun r s' => r = .ok (.ret (.bool true)) ∧ OldK s.heap s'.heap ∧ s'.os = s.os ∧ AllBare s'.gens) s := by
  obtain ⟨H, Z⟩ := seen_ex (prog := prog) (wd := wd) KX there are short
  have hid : ∀ {b : Addr} {o : Obj}, s.heap.get? b = some o → H b = none → (hidT s.heap H).get? b = some o := fun e z => hidT_get e z
  have dicts : ∀ {b : Addr} {o : Obj} {es : Array DictEntry} {ep : Nat}, s.heap.get? b = some o → o.data = .dict es ep → H b = none := by
    intro b o es ep e d
    cases q : H b with
    | none => rfl
    | some u =>
      have := Z.mine b (by rw [q]; exact fun z => nomatch z)
      subst this
      rw [there] at e
      cases e
      exact nomatch (d : Data.seq vs.toArray _ = Data.dict es ep)
  have spaces : ∀ {b : Addr} {m : Str → Option Value}, s.heap.Ns b m → (hidT s.heap H).Ns b m := by
    intro b m z
    obtain ⟨o, es, ep, e, d, r⟩ := z
    exact ⟨o, es, ep, hid e (dicts e d), d, r⟩
  have KB : K.In (hidT s.heap H) := by
    intro b o e
    refine hid (KX b o e) ?_
    cases q : H b with
    | none => rfl
    | some u =>
      have hb := Z.mine b (by rw [q]; exact fun z => nomatch z)
      have := Z.free (by rw [← hb, q]; exact fun z => nomatch z)
      rw [hb, this] at e
      cases e
  have mod : Mod K mg (hidT s.heap H) := by
    obtain ⟨mc, l1, l2⟩ := lim
    exact ⟨KB, spaces glob, ⟨mb, spaces blt, boot⟩, mc, spaces l1, l2⟩
  have e0 : Env0 prog wd K mg (hidT s.heap H) callerA [] s H := ⟨rfl, mod, fun b o e => of_hidT e, Nat.le_of_eq (hidT_size _ _), trivial, fun b hb => (nomatch hb), Z.good, .of_eq calm⟩
  refine codeAny_mono ((D _ KB (spaces glob)).goes (given := ⟨[.ref a], []⟩) (us := [.ref a]) (xs := [.ref a]) room rfl e0 (bnd s (.ref a)) (.cons rfl .nil) (hw H Z.only Z.list)) ?_
  intro r s' z
  cases r with
  | error e => exact (none' H e s' z).elim
  | ok fl =>
    cases fl with
    | next => exact (z : False).elim
    | brk => exact (z : False).elim
    | cont => exact (z : False).elim
    | ret u =>
      obtain ⟨v, H', os, bare, un, good, rel, q⟩ := z
      cases (q : v = .bl true)
      cases (rel : u = Value.bool true)
      refine ⟨rfl, OldK.of_keep fun b o e => ?_, os, bare⟩
      cases q : H b with
      | none => exact un.keep b o e q (fun z => nomatch z) (by simp)
      | some u =>
        rcases Z.only b with z | ⟨ob, ys, z⟩
        · rw [q] at z; cases z
        · obtain ⟨e1, _⟩ := Z.good b _ z
          obtain ⟨e2, _⟩ := good b _ (un.frzs b ob _ z)
          rw [e] at e1
          cases e1
          exact e2
end Ev
/-! Ev, part X: rules that the layer lacks. -/
namespace Ev
open PySem PySem.Spec PyProof.Rows Srt SrtO
section
variable {prog : Program} {w : World} {A : Around} {E : Value → Shared → Prop} {s : Shared}
theorem collect_tup {l : Addr} {vs : List Value} {Q : List Value → Shared → Prop} (hl : IsTup s.heap l vs.toArray)
    (h : Q vs { s with heap := (s.heap.push (seqObj "list" #[] 0)).update s.heap.objs.size (Obj.mapSeq (· ++ vs.toArray)) }) (hsz : vs.length ≤ sizeLine) :
    wpAny (model prog w) A (collect (.ref l)) Q E s := by
  obtain ⟨o, ho, hc, n, hd⟩ := id hl
  unfold collect
  refine wpAny_bind (wpAny_runValue (codeAny_builtin entry_proto_collect' ?_))
  show wpAny _ _ (do again (.builtin "list.__iadd__" ⟨[← newList [], .ref l], []⟩)) _ _ s
  refine wpAny_bind (wpAny_newList (wpAny_pure ⟨Code.quiet_builtin _ (by decide +kernel), codeAny_builtin entry_list_iadd' ?_⟩))
  show wpAny _ _ (Builtin.List.listExtendWith (.ref s.heap.objs.size) (.ref l) (.ref s.heap.objs.size)) _ _ { s with heap := s.heap.push (seqObj "list" #[] 0) }
  unfold Builtin.List.listExtendWith
  have ho' : (s.heap.push (seqObj "list" #[] 0)).get? l = some o := Heap.get?_push_of_some _ ho
  refine wpAny_bind (wpAny_typeOf (T := "tuple") ⟨o, ho', hc⟩ ?_)
  have ht : (Value.type "tuple" == Value.type "tuple") = true := by rfl
  rw [if_pos (by rw [ht]; simp)]
  refine wpAny_bind (listItems_at ho' hd ?_)
  refine wpAny_bind (listItems_at (xs := #[]) (n := 0) (Heap.get?_push_size _ rfl) rfl ?_)
  rw [if_neg (by simp)]
  refine wpAny_bind (listUpdate_at (xs := #[]) (n := 0) (Heap.get?_push_size _ rfl) rfl ?_ (Nat.zero_le _) (by show (#[] ++ vs.toArray).size ≤ sizeLine + 1; simp only [Array.size_append, List.size_toArray, List.length_nil]; omega))
  refine wpAny_pure ?_
  show wpAny (model prog w) A (do
      let o ← load s.heap.objs.size
      match o.data with
      | .seq xs _ => pure xs.toList
      | _ => unsupported "internal:collect") Q E { s with heap := (s.heap.push (seqObj "list" #[] 0)).update s.heap.objs.size (Obj.mapSeq (· ++ vs.toArray)) }
  refine wpAny_bind (wpAny_load (get?_update_seq (Heap.get?_push_size _ rfl) _) ?_)
  show wpAny _ _ (pure ((#[] : Array Value) ++ vs.toArray).toList) Q E _
  rw [show ((#[] : Array Value) ++ vs.toArray).toList = vs by simp]
  exact wpAny_pure h
theorem sorted_tup {l : Addr} {vs : List Value} {ltv : Value → Value → Bool} {Q : Value → Shared → Prop} (O : Swo ltv) (hl : IsTup s.heap l vs.toArray) (hz : vs.length ≤ sizeLine)
    (hS : 2 ≤ vs.length → ∀ (h₁ : Heap) (a : Addr), h₁.get? a = some (seqObj "list" vs.toArray 0) → (∀ b o, s.heap.get? b = some o → b ≠ a ∧ h₁.get? b = some o) → SortableO prog w A.in1.in1 { s with heap := h₁ } a vs ltv)
    (h : ∀ out : List Value, Srtd ltv out → Stb ltv out vs → Q (.ref (s.heap.objs.size + 1)) { s with heap := sortedAll s.heap vs out.toArray }) :
    wpAny (model prog w) A (call (.builtin "sorted") [.ref l]) Q E s := by
  refine Calls.call_function_entry kind_sorted plain_sorted entry_sorted (args_sorted1 _) ?_
  unfold Builtin.«sorted»
  refine wpAny_bind (m := checkCount "sorted" 1 1 _) (wpAny_pure ?_)
  refine wpAny_bind (collect_tup hl ?_ hz)
  refine wpAny_bind (wpAny_newList ?_ hz)
  have hsz : ((s.heap.push (seqObj "list" #[] 0)).update s.heap.objs.size (Obj.mapSeq (· ++ vs.toArray))).objs.size = s.heap.objs.size + 1 := by
    rw [Heap.size_update, size_push']
  have hoL : (((s.heap.push (seqObj "list" #[] 0)).update s.heap.objs.size (Obj.mapSeq (· ++ vs.toArray))).push (seqObj "list" vs.toArray 0)).get? (s.heap.objs.size + 1) = some (seqObj "list" vs.toArray 0) := by
    rw [← hsz]; exact Heap.get?_push_size _ rfl
  have keep : ∀ b o, s.heap.get? b = some o → b ≠ s.heap.objs.size + 1 ∧ (((s.heap.push (seqObj "list" #[] 0)).update s.heap.objs.size (Obj.mapSeq (· ++ vs.toArray))).push (seqObj "list" vs.toArray 0)).get? b = some o := fun b o q => by
    have hlt : b < s.heap.objs.size := Heap.lt_size q
    refine ⟨Nat.ne_of_lt (Nat.lt_succ_of_lt hlt), Heap.get?_push_of_some _ ?_⟩
    rw [Heap.get?_update_ne _ _ _ _ (Nat.ne_of_lt hlt)]
    exact Heap.get?_push_of_some _ q
  show wpAny _ _ _ _ _ { s with heap := ((s.heap.push (seqObj "list" #[] 0)).update s.heap.objs.size (Obj.mapSeq (· ++ vs.toArray))).push (seqObj "list" vs.toArray 0) }
  rw [hsz]
  refine wpAny_bind (wpAny_holding (wpAny_call_entry slot_list_sort ⟨_, hoL, rfl⟩ entry_list_sort (list_sort_ord O hoL hz (fun h2 => hS h2 _ _ hoL keep) fun out hs hb => ⟨_, rfl, ?_⟩) (args_list_sort _)))
  exact wpAny_pure ⟨_, rfl, h out hs hb⟩
end
end Ev
namespace Ev
open PySem PySem.Spec PyProof.Rows L2
theorem cr_sortedTup {X : Cx} : CallR X (.builtin "sorted") (fun vs H Q => ∃ (a : Addr) (ns : List Int), vs = [V.ref a] ∧ SqT X.K H a (ns.map V.int) ∧ ∀ (ns' : List Int) (p : Addr), ns'.Perm ns → ns'.Pairwise (· ≤ ·) → H p = none → Q (.ref p) (upd H p (.lst (ns'.map V.int)))) := by
  intro pins s σ H vs us Q I r h
  obtain ⟨a, ns, rfl, hs, q⟩ := h
  obtain ⟨its, rv, hl, hz⟩ := I.tuple hs
  rw [Vals.ref1 r]
  have hi := rv.ints
  refine sorted_tup SrtO.swo_int hl (by rw [← rv.length]; exact hz) (fun h2 h₁ a' _ _ => SrtO.ints_sortable hi h2) fun out h1 h2 => ?_
  obtain ⟨k1, k2, k3⟩ := SrtO.ints_out hi h1 h2
  obtain ⟨ep, he'⟩ := PyProof.Rows.sortedAll_at s.heap its out.toArray
  have hlen : ((out.map SrtO.iv).map V.int).length ≤ sizeLine := by
    rw [List.length_map, k2.length_eq]
    rw [List.length_map] at hz
    exact hz
  exact ⟨.ref _, upd H (s.heap.objs.size + 1) (.lst ((out.map SrtO.iv).map V.int)), I.laid (t' := s.toks) (fun _ _ => PyProof.Rows.sortedAll_old) (Nat.le_succ _) ⟨hlen, out, ep, vals_of_ints k1, he'⟩, rfl, q _ _ k2 k3 (I.hok.fresh (Nat.le_succ _))⟩
end Ev
set_option maxHeartbeats 1000000
/-! Ev, part W: enumerate over a tuple. -/
namespace EnT
open PySem PySem.Spec PyProof.Rows L2

theorem drawsT {prog : Program} {w : World} {A : Around} (hh : A.handled = none) (it l : Addr) (hne : l ≠ it) (us : Array Value) :
    Draws prog w A it [it, l] us.size (fun i v => us[i]? = some v) (fun i h => h.IsTupleIter it l i ∧ h.IsTuple l us) := by
  refine ⟨fun _ _ st => ?_, fun _ _ _ st k => ?_, fun i s Q E hi st hQ => ?_, fun s Q E st hE => ?_⟩
  · obtain ⟨⟨o, ho, _⟩, _⟩ := st
    exact ⟨o, ho⟩
  · exact ⟨st.1.at fun o q => k it (by simp) o q, (let ⟨o, ho, r⟩ := st.2; ⟨o, k l (by simp) o ho, r⟩)⟩
  · have e : us[i]? = some us[i] := by simp [hi]
    exact RZ.nextOf_tuple_item st.1 st.2 e fun h' a b => hQ _ h' s.toks e ⟨a, (let ⟨o, ho, r⟩ := st.2; ⟨o, b.extBut l o hne ho, r⟩)⟩ b
  · exact RZ.nextOf_tuple_end hh st.1 st.2 (by simp) hE

theorem drawsEnd {prog : Program} {w : World} {A : Around} (hh : A.handled = none) (it l : Addr) (us : Array Value) {i : Nat} (hi : us[i]? = none) :
    Draws prog w A it [it, l] 0 (fun _ _ => True) (fun _ h => h.IsTupleIter it l i ∧ h.IsTuple l us) := by
  refine ⟨fun _ _ st => ?_, fun _ _ _ st k => ?_, fun i s Q E z => absurd z (Nat.not_lt_zero i), fun s Q E st hE => ?_⟩
  · obtain ⟨⟨o, ho, _⟩, _⟩ := st
    exact ⟨o, ho⟩
  · exact ⟨st.1.at fun o q => k it (by simp) o q, (let ⟨o, ho, r⟩ := st.2; ⟨o, k l (by simp) o ho, r⟩)⟩
  · exact RZ.nextOf_tuple_end hh st.1 st.2 hi hE

/-- where the iterator goes, then the enumerator -/
abbrev enH (h : Heap) (l : Addr) : Heap := h.push { cls := .type "tuple_iterator", data := .fields #[.ref l, .int 0 0] }
theorem enum_newT (l : Addr) (us : Array Value) : Meets (Builtin.«enumerate.__new__» ⟨[.type "enumerate", .ref l], []⟩) fun _ R s => s.heap.IsTuple l us ∧
    R (.ok (.ret (.ref (enH s.heap l).objs.size))) { s with heap := (enH s.heap l).push { cls := .type "enumerate", data := .fields #[.none, .bool false, .ref s.heap.objs.size, rawInt 0, .none, .none] } } :=
  .of_wp fun prog w A R s h => by
    obtain ⟨hp, g, d, tk, os⟩ := s
    obtain ⟨ht, fin⟩ := h
    have hsub := sub_enumerate
    have hT : Heap.IsTuple (Shared.heap ⟨hp, g, d, tk, os⟩) l us := ht
    wp_walk
    refine wpAny_stack_any fun st => wpAny_pure ?_
    split
    · rename_i c _ _ _ _ _
      cases (c == Value.type "enumerate") <;> (wp_walk using wpAny_pyIter_tuple hT; exact ⟨_, rfl, fin⟩)
    · wp_walk using wpAny_pyIter_tuple hT
      exact ⟨_, rfl, fin⟩
section
variable {prog : Program} {w : World} {A : Around} {E : Value → Shared → Prop} {s : Shared}
theorem call_enumT {l : Addr} {us : Array Value} {Q : Value → Shared → Prop} (hl : s.heap.IsTuple l us)
    (h : ∀ h', IsEnum h' (s.heap.objs.size + 1) s.heap.objs.size 0 .none → h'.IsTupleIter s.heap.objs.size l 0 → (∀ b o, s.heap.get? b = some o → h'.get? b = some o) → Q (.ref (s.heap.objs.size + 1)) { s with heap := h' }) :
    wpAny (model prog w) A (call (.type "enumerate") [.ref l]) Q E s := by
  have z : (enH s.heap l).objs.size = s.heap.objs.size + 1 := Heap.size_push ..
  refine callType_new F.called_enumerate (by decide) (F.typeCall_enumerate_1 _) (F.newCall_enumerate_1 _) (fun ob => F.args_object_init_2 ob _) F.entry_enumerate_new (enum_newT l us) ⟨hl, ?_⟩
  show _ ∧ _
  rw [z]
  have he : IsEnum ((enH s.heap l).push { cls := .type "enumerate", data := .fields #[.none, .bool false, .ref s.heap.objs.size, rawInt 0, .none, .none] }) (s.heap.objs.size + 1) s.heap.objs.size 0 .none := by
    rw [← z]; exact Heap.get?_push_size (enH s.heap l) rfl
  exact ⟨⟨_, he, rfl⟩, h _ he ⟨_, Heap.get?_push_of_some _ (Heap.get?_push_size _ rfl), rfl, rfl⟩ fun b o q => Heap.get?_push_of_some _ (Heap.get?_push_of_some _ q)⟩
end

/-- the tuple at a, its items numbered -/
def IteT (K : PySem.W.Frag) (a : Addr) : It where
  go i H := ∃ (xs : List V) (x : V), SqT K H a xs ∧ xs[i]? = some x
  yld i H v H' := ∃ T x, v = .ref T ∧ H T = none ∧ H' = upd H T (.tup [.int (i : Nat), x]) ∧ ∀ xs, SqT K H a xs → xs[i]? = some x
  stop i H := ∃ xs : List V, SqT K H a xs ∧ xs.length ≤ i
structure EnSt (a e it : Addr) (i : Nat) (h : Heap) : Prop where
  en : ∃ old, IsEnum h e it ((i : Nat) : Int) old
  ti : h.IsTupleIter it a i
  ne : e ≠ it
  ai : a ≠ it
  ae : a ≠ e
theorem two {b e it : Addr} (h : b ∈ [e, it]) : b = e ∨ b = it := by simpa using h
theorem EnSt.lt {a e it : Addr} {i : Nat} {h : Heap} (st : EnSt a e it i h) {b : Addr} (hb : b ∈ [e, it]) : b < h.objs.size := by
  rcases two hb with rfl | rfl
  · obtain ⟨_, q⟩ := st.en; exact Heap.lt_size q
  · obtain ⟨_, q, _⟩ := st.ti; exact Heap.lt_size q
theorem turn_enumT {P : Program} {w : World} {K : PySem.W.Frag} {elts : List Expr} {kk : Nat} {tpos : Pos} (a e it : Addr) : Turn P w K (.Tuple elts kk tpos) (IteT K a) [e, it] e (EnSt a e it) := by
  refine ⟨by simp, fun i h st b hb => ?_, fun i h h' st k => ?_, ?_, ?_, fun A i s Q E st hQ => ?_⟩
  · rcases two hb with rfl | rfl
    · obtain ⟨_, q⟩ := st.en; exact ⟨_, q, fun v z => nomatch z⟩
    · obtain ⟨o, q, _, d⟩ := st.ti; exact ⟨o, q, fun v z => by rw [d] at z; cases z⟩
  · obtain ⟨old, q⟩ := st.en
    exact ⟨⟨old, k e (by simp) _ q⟩, st.ti.at fun o z => k it (by simp) o z, st.ne, st.ai, st.ae⟩
  · rintro X rfl rfl rfl hc i pins s σ H E I hf st ⟨xs, x, hq, hx⟩
    obtain ⟨its, rv, p, hz⟩ := I.tuple hq
    obtain ⟨u, hu, ru⟩ := rv.get hx
    obtain ⟨old, he⟩ := st.en
    have pt : s.heap.IsTuple a its.toArray := p
    have hlt : i < its.toArray.size := by
      rw [List.size_toArray]; exact (List.getElem?_eq_some_iff.mp hu).1
    refine wpAny_pyNext_enum_itemD (drawsT (A := X.A.in1) (I.ok.hd hc) it a st.ai its.toArray) he ⟨st.ti, pt⟩ hlt st.ne (by simp [st.ne, Ne.symm st.ae]) fun y h' tk py ho st' hT hsz hk => ?_
    have ey : y = u := by
      have py' : its.toArray[i]? = some y := py
      rw [List.getElem?_toArray, hu] at py'; exact (Option.some.inj py').symm
    subst ey
    refine ⟨_, rfl, wpAny_letOwnedTupleGo_enum (s := { s with heap := h', toks := tk + 1 }) ho fun h2 he2 sb => ?_⟩
    have big : ∀ b ∈ [e, it], b ≠ s.heap.objs.size := fun b hb => Nat.ne_of_lt (st.lt hb)
    have hT2 : h2.get? s.heap.objs.size = some { cls := .type "tuple", data := .seq #[.int i tk, y] } := (sb.2 _ (big e (by simp)).symm).trans hT
    have new : ObjOk X.prog X.w (upd H s.heap.objs.size (.tup [.int (i : Nat), x])) h2 s.heap.objs.size (.tup [.int (i : Nat), x]) := ⟨by show 2 ≤ sizeLine; decide, [.int i tk, y], .cons ⟨_, rfl⟩ (.cons ru .nil), ⟨_, hT2, rfl, _, rfl⟩⟩
    have I1 : Inv X pins σ (upd H s.heap.objs.size (.tup [.int (i : Nat), x])) { s with heap := h2, toks := tk + 1 } :=
      I.turnedNew (ch := [e, it]) (fun b ob hb q => by
        have n1 : b ≠ e := fun z => hb (by simp [z])
        have n2 : b ≠ it := fun z => hb (by simp [z])
        exact (sb.2 b n1).trans (hk b ob n1 n2 q)) hf (Nat.le_refl _) new
    refine ⟨.ref s.heap.objs.size, _, I1, rfl, ⟨_, x, rfl, I.hok.fresh (Nat.le_refl _), rfl, fun zs hzs => by rw [I.tuple_inj hzs hq]; exact hx⟩, ⟨⟨y, ?_⟩, st'.1.at fun o q => (sb.2 it (Ne.symm st.ne)).trans q, st.ne, st.ai, st.ae⟩, fun b hb => ?_⟩
    · rw [show ((i + 1 : Nat) : Int) = (i : Int) + 1 from by omega]; exact he2
    · rw [upd_ne (big b hb)]; exact (hf b hb).1
  · rintro X rfl rfl rfl hc i pins s σ H E I hf st ⟨xs, hq, hx⟩
    obtain ⟨its, rv, p, hz⟩ := I.tuple hq
    obtain ⟨old, he⟩ := st.en
    have hl := rv.length
    have pt : s.heap.IsTuple a its.toArray := p
    obtain ⟨f0, f1, f2, f3, f4, f5⟩ := hf it (by simp)
    exact wpAny_pyNext_enum_endD (drawsEnd (A := X.A.in1) (I.ok.hd hc) it a its.toArray (i := i) (by simp; omega)) he ⟨st.ti, pt⟩ fun h' eb => ⟨rfl, I.turned (t' := s.toks) (fun b o n q => eb b o n q) f0 f1 f3 f4 f5⟩
  · obtain ⟨_, he⟩ := st.en
    exact wpAny_pyIter_enum he hQ
/-- over a list or a tuple -/
def iEnumA (K : PySem.W.Frag) (ta : TA) : TI := fun σ H R => ta σ H fun vs H1 => ∃ a xs, vs = [.ref a] ∧ ((SqL K H1 a xs ∧ R (Ite K a) H1) ∨ (SqT K H1 a xs ∧ R (IteT K a) H1))
theorem pi_enumA {X : Cx} {e : Expr} {ta : TA} {p pos tpos : Pos} {elts : List Expr} {kk : Nat} (hg : Gl X "enumerate") (hm : X.mg "enumerate" = none) (ha : PA X [e] ta) (hs : starEach [e] X.env = [(false, eval e X.env)] := by rfl) :
    PI X (.Tuple elts kk tpos) (.Call (.Name "enumerate" p) [e] [] pos) (iEnumA X.K ta) := by
  constructor
  intro pins s σ H R I h
  refine Call_ (ld_blt I hg hm boot_enumerate (PyProof.Rows.callWith_type1 (thn (ha.run pos pins s σ H _ I h) fun us s1 q => ?_) hs rfl))
  obtain ⟨_, H1, I1, r1, a, xs, rfl, q⟩ := q
  obtain ⟨u, rfl, ru⟩ := vals1 r1
  cases ru
  have fp : ∀ b ∈ [s1.heap.objs.size + 1, s1.heap.objs.size], FpOk X pins H1 b := fun b hb => by
    have le : s1.heap.objs.size ≤ b := by rcases two hb with rfl | rfl <;> omega
    exact I1.fpOk le (I1.hok.fresh le)
  rcases q with ⟨hq, q⟩ | ⟨hq, q⟩
  · obtain ⟨its, rv, p', hz⟩ := I1.list hq
    refine call_enumerate_list p'.isList fun h' he ht _ hk => wpAny_pyIter_enum he ?_
    exact ⟨_, [s1.heap.objs.size + 1, s1.heap.objs.size], _, _, H1, rfl, I1.kept (t' := s1.toks) hk, turn_enum a (s1.heap.objs.size + 1) s1.heap.objs.size, ⟨⟨.none, he⟩, ht, Nat.succ_ne_self _⟩, fp, q⟩
  · obtain ⟨its, rv, p', hz⟩ := I1.tuple hq
    obtain ⟨oa, hoa, _⟩ := id p'
    have la : a < s1.heap.objs.size := Heap.lt_size hoa
    refine call_enumT (show s1.heap.IsTuple a its.toArray from p') fun h' he ht hk => wpAny_pyIter_enum he ?_
    exact ⟨_, [s1.heap.objs.size + 1, s1.heap.objs.size], _, _, H1, rfl, I1.kept (t' := s1.toks) hk, turn_enumT a (s1.heap.objs.size + 1) s1.heap.objs.size, ⟨⟨.none, he⟩, ht, Nat.succ_ne_self _, Nat.ne_of_lt la, Nat.ne_of_lt (Nat.lt_succ_of_lt la)⟩, fp, q⟩
end EnT
set_option maxHeartbeats 1000000
/-! Ev, part V: the greatest, the least of a list. -/
namespace Ev
open PySem PySem.Spec PyProof.Rows L2

theorem bestL_snoc (b : Int → Int → Bool) (x : Int) : ∀ (xs : List Int) (m : Int), bestL b m (xs ++ [x]) = if b x (bestL b m xs) then x else bestL b m xs
  | [], m => rfl
  | y :: ys, m => bestL_snoc b x ys _
theorem arg_best (b : Int → Int → Bool) (f : Nat → Int) (n : Int) (ns : List Int) (h : ∀ i x, (n :: ns)[i]? = some x → f i = x) : ∀ k, k ≤ ns.length → f (argBest (fun i j => b (f i) (f j)) k) = bestL b n (ns.take k)
  | 0, _ => by rw [List.take_zero]; exact h 0 n rfl
  | k + 1, hk => by
    have ih := arg_best b f n ns h k (by omega)
    have e : ns[k]? = some ns[k] := List.getElem?_eq_getElem (by omega)
    have ek : f (k + 1) = ns[k] := h (k + 1) _ (by simpa using e)
    rw [List.take_add_one, e]
    show _ = bestL b n (ns.take k ++ [ns[k]])
    rw [bestL_snoc, ← ih]
    show f (if b (f (k + 1)) (f (argBest (fun i j => b (f i) (f j)) k)) = true then k + 1 else argBest (fun i j => b (f i) (f j)) k) = _
    rw [ek]
    by_cases q : b ns[k] (f (argBest (fun i j => b (f i) (f j)) k)) = true
    · rw [if_pos q, if_pos q]; exact ek
    · rw [if_neg q, if_neg q]
theorem int_pairs : ∀ {ns : List Int} {its : List Value}, Vals (ns.map V.int) its → ∃ ps : List (Int × Tok), its = ps.map (fun p => .int p.1 p.2) ∧ ps.map (·.1) = ns
  | [], _, .nil => ⟨[], rfl, rfl⟩
  | n :: ns, _, .cons r rr => by
    obtain ⟨t, rfl⟩ := r
    obtain ⟨ps, rfl, rfl⟩ := int_pairs rr
    exact ⟨(n, t) :: ps, rfl, rfl⟩
theorem pair_at {ps : List (Int × Tok)} {n : Int} {ns : List Int} (e : ps.map (·.1) = n :: ns) : ∀ i x, (n :: ns)[i]? = some x → numAt ps.toArray i = x := fun i x q => by
  rw [← e, List.getElem?_map] at q
  unfold numAt
  rw [List.getElem?_toArray, q]; rfl
def rBest (K : PySem.W.Frag) (b : Int → Int → Bool) : List V → Hp → VK → Prop := fun vs H Q => ∃ (a : Addr) (n : Int) (ns : List Int), vs = [.ref a] ∧ SqL K H a ((n :: ns).map V.int) ∧ Q (.int (bestL b n ns)) H
section
variable {X : Cx}
theorem best_end {b : Int → Int → Bool} {ps : List (Int × Tok)} {n : Int} {ns : List Int} (e : ps.map (·.1) = n :: ns) {v : Value}
    (hv : (intItems ps.toArray)[argBest (fun i j => b (numAt ps.toArray i) (numAt ps.toArray j)) (ps.toArray.size - 1)]? = some v) : RelV (.int (bestL b n ns)) v := by
  obtain ⟨t, rfl⟩ := intItems_at hv
  have hl : ps.length = ns.length + 1 := by have := congrArg List.length e; simpa using this
  have hs : ps.toArray.size - 1 = ns.length := by rw [List.size_toArray]; omega
  rw [hs, arg_best b _ n ns (pair_at e) ns.length (Nat.le_refl _), List.take_length]
  exact ⟨t, rfl⟩
theorem cr_max1 (hc : X.calm = true) : CallR X (.builtin "max") (rBest X.K fun x y => decide (x > y)) := by
  intro pins s σ H vs us Q I r h
  obtain ⟨a, n, ns, rfl, hs, q⟩ := h
  obtain ⟨its, rv, hl, _⟩ := I.list hs
  obtain ⟨ps, rfl, e⟩ := int_pairs rv
  rw [Vals.ref1 r]
  refine max_intList (xs := ps.toArray) (I.ok.hd hc) (by have := hl.isList; simpa [intItems] using this) (by have := congrArg List.length e; simp at this; simp; omega) fun v h' tk hv k => ?_
  exact ⟨_, H, I.kept k, best_end (b := fun x y => decide (x > y)) e hv, q⟩
theorem cr_min1 (hc : X.calm = true) : CallR X (.builtin "min") (rBest X.K fun x y => decide (x < y)) := by
  intro pins s σ H vs us Q I r h
  obtain ⟨a, n, ns, rfl, hs, q⟩ := h
  obtain ⟨its, rv, hl, _⟩ := I.list hs
  obtain ⟨ps, rfl, e⟩ := int_pairs rv
  rw [Vals.ref1 r]
  refine min_intList (xs := ps.toArray) (I.ok.hd hc) (by have := hl.isList; simpa [intItems] using this) (by have := congrArg List.length e; simp at this; simp; omega) fun v h' tk hv k => ?_
  exact ⟨_, H, I.kept k, best_end (b := fun x y => decide (x < y)) e hv, q⟩
end
/-! ### of a tuple -/
section
variable {prog : Program} {w : World} {A : Around} {E : Value → Shared → Prop} {s : Shared} {l : Addr} {xs : Array (Int × Tok)}
theorem iter_intTup {Q : Value → Shared → Prop} (hl : s.heap.IsTuple l (intItems xs))
    (h : ∀ s₂ : Shared, s₂ = { s with heap := s.heap.push { cls := .type "tuple_iterator", data := .fields #[.ref l, .int 0 0] } } →
      (s₂.heap.IsTupleIter s.heap.objs.size l 0 ∧ s₂.heap.IsTuple l (intItems xs)) → (∀ b ∈ [s.heap.objs.size, l], b < s₂.heap.objs.size) → l ≠ s.heap.objs.size → Q (.ref s.heap.objs.size) s₂) :
    wpAny (model prog w) A (pyIter (.ref l)) Q E s := by
  have hlt : l < s.heap.objs.size := by obtain ⟨_, e, _⟩ := hl; exact Heap.lt_size e
  refine wpAny_pyIter_tuple hl (h _ rfl ⟨⟨_, Heap.get?_push_size _ rfl, rfl, rfl⟩, hl.push _⟩ (fun b hb => ?_) (Nat.ne_of_lt hlt))
  show b < (s.heap.push _).objs.size
  rw [Heap.size_push]
  rcases List.mem_cons.mp hb with rfl | hb
  · exact Nat.lt_succ_self _
  · rcases List.mem_cons.mp hb with rfl | hb
    · exact Nat.lt_succ_of_lt hlt
    · cases hb
theorem old_keptT {h' : Heap} (hk : ∀ b o, b ∉ [s.heap.objs.size] → (s.heap.push { cls := .type "tuple_iterator", data := .fields #[.ref l, .int 0 0] }).get? b = some o → h'.get? b = some o) :
    ∀ b o, s.heap.get? b = some o → h'.get? b = some o := fun b o e => by
  refine hk b o (fun hm => ?_) (Heap.get?_push_of_some _ e)
  rcases List.mem_cons.mp hm with e1 | hm
  · exact absurd (e1 ▸ Heap.lt_size e) (Nat.lt_irrefl _)
  · cases hm
theorem max_intTup {Q : Value → Shared → Prop} (hh : A.handled = none) (hl : s.heap.IsTuple l (intItems xs)) (hne : 0 < xs.size)
    (h : ∀ v h' tk, (intItems xs)[argBest (fun i j => decide (numAt xs i > numAt xs j)) (xs.size - 1)]? = some v → (∀ b o, s.heap.get? b = some o → h'.get? b = some o) → Q v { s with heap := h', toks := tk }) :
    wpAny (model prog w) A (call (.builtin "max") [.ref l]) Q E s := by
  refine call_max_walk (iter_intTup hl fun s₂ e st hfp hlI => ?_)
  subst e
  refine ⟨_, _, _, _, _, _, _, rfl, Walks.tuple (A := A.in1) hh _ l hlI (intItems xs), st, hfp, by simpa [intItems] using hne, CmpOf.ints_gt (numAt xs) (fun _ _ => intItems_at), fun v h' tk hP hk => ?_⟩
  exact h v h' tk (by simpa [intItems] using hP) (old_keptT hk)
theorem min_intTup {Q : Value → Shared → Prop} (hh : A.handled = none) (hl : s.heap.IsTuple l (intItems xs)) (hne : 0 < xs.size)
    (h : ∀ v h' tk, (intItems xs)[argBest (fun i j => decide (numAt xs i < numAt xs j)) (xs.size - 1)]? = some v → (∀ b o, s.heap.get? b = some o → h'.get? b = some o) → Q v { s with heap := h', toks := tk }) :
    wpAny (model prog w) A (call (.builtin "min") [.ref l]) Q E s := by
  refine call_min_walk (iter_intTup hl fun s₂ e st hfp hlI => ?_)
  subst e
  refine ⟨_, _, _, _, _, _, _, rfl, Walks.tuple (A := A.in1) hh _ l hlI (intItems xs), st, hfp, by simpa [intItems] using hne, CmpOf.ints_lt (numAt xs) (fun _ _ => intItems_at), fun v h' tk hP hk => ?_⟩
  exact h v h' tk (by simpa [intItems] using hP) (old_keptT hk)
end
def rBestT (K : PySem.W.Frag) (b : Int → Int → Bool) : List V → Hp → VK → Prop := fun vs H Q => ∃ (a : Addr) (n : Int) (ns : List Int), vs = [.ref a] ∧ SqT K H a ((n :: ns).map V.int) ∧ Q (.int (bestL b n ns)) H
section
variable {X : Cx}
theorem cr_max1T (hc : X.calm = true) : CallR X (.builtin "max") (rBestT X.K fun x y => decide (x > y)) := by
  intro pins s σ H vs us Q I r h
  obtain ⟨a, n, ns, rfl, hs, q⟩ := h
  obtain ⟨its, rv, hl, _⟩ := I.tuple hs
  obtain ⟨ps, rfl, e⟩ := int_pairs rv
  rw [Vals.ref1 r]
  refine max_intTup (xs := ps.toArray) (I.ok.hd hc) (by have := (show s.heap.IsTuple a _ from hl); simpa [intItems] using this) (by have := congrArg List.length e; simp at this; simp; omega) fun v h' tk hv k => ?_
  exact ⟨_, H, I.kept k, best_end (b := fun x y => decide (x > y)) e hv, q⟩
theorem cr_min1T (hc : X.calm = true) : CallR X (.builtin "min") (rBestT X.K fun x y => decide (x < y)) := by
  intro pins s σ H vs us Q I r h
  obtain ⟨a, n, ns, rfl, hs, q⟩ := h
  obtain ⟨its, rv, hl, _⟩ := I.tuple hs
  obtain ⟨ps, rfl, e⟩ := int_pairs rv
  rw [Vals.ref1 r]
  refine min_intTup (xs := ps.toArray) (I.ok.hd hc) (by have := (show s.heap.IsTuple a _ from hl); simpa [intItems] using this) (by have := congrArg List.length e; simp at this; simp; omega) fun v h' tk hv k => ?_
  exact ⟨_, H, I.kept k, best_end (b := fun x y => decide (x < y)) e hv, q⟩
end
end Ev
/-! Ev, part C: how data lie in the abstract heap. S: what is plain data there; ι: where the cells lie. -/
namespace Ev
open PySem PySem.Spec PyProof.Rows L2

section
variable (K : PySem.W.Frag)
mutual
inductive RV (S : Hp) (ι : List Addr) : D → V → Prop where
  | non : RV S ι .non .non
  | bl (b : Bool) : RV S ι (.bl b) (.bl b)
  | int (i : Int) : RV S ι (.int i) (.int i)
  | str (s : Str) : RV S ι (.str s) (.str s)
  | tup {a : Addr} {vs : List V} {ds : List D} : S a = some (.tup vs) → RVs S ι ds vs → RV S ι (.tup ds) (.ref a)
  | lst {a : Addr} {vs : List V} {ds : List D} : S a = some (.lst vs) → RVs S ι ds vs → RV S ι (.lst ds) (.ref a)
  | vw {a : Addr} {vs : List V} {ds : List D} : SqL K S a vs → RVs S ι ds vs → RV S ι (.vw ds) (.ref a)
  | vt {a : Addr} {o : Obj} {vs : List V} {ds : List D} : S a = some (.frz o (.tup vs)) → o.cls = .type "tuple" ∧ o.dict = none → RVs S ι ds vs → RV S ι (.vt ds) (.ref a)
  | ref {n : Nat} {a : Addr} : ι[n]? = some a → RV S ι (.ref n) (.ref a)
  | ob {c : Str} {a dx : Addr} {vs : List (Str × V)} {ns : List Str} {ds : List D} : S a = some (.ins (He.ga K c) dx vs) → vs.map (·.1) = ns → RVs S ι ds (vs.map (·.2)) → RV S ι (.ob c ns ds) (.ref a)
  | fn (x : Str) : RV S ι (.fn x) (.ref (He.ga K x))
inductive RVs (S : Hp) (ι : List Addr) : List D → List V → Prop where
  | nil : RVs S ι [] []
  | cons {d : D} {v : V} {ds : List D} {vs : List V} : RV S ι d v → RVs S ι ds vs → RVs S ι (d :: ds) (v :: vs)
end
end

abbrev Sub (S S' : Hp) : Prop := ∀ a o, S a = some o → S' a = some o
theorem SqL.up {K : PySem.W.Frag} {S S' : Hp} (h : Sub S S') {a : Addr} {vs : List V} : SqL K S a vs → SqL K S' a vs
  | .inl (.inl e) => .inl (.inl (h _ _ e))
  | .inl (.inr ⟨o, e⟩) => .inl (.inr ⟨o, h _ _ e⟩)
  | .inr e => .inr e
theorem SqT.up {K : PySem.W.Frag} {S S' : Hp} (h : Sub S S') {a : Addr} {vs : List V} : SqT K S a vs → SqT K S' a vs
  | .inl (.inl e) => .inl (.inl (h _ _ e))
  | .inl (.inr ⟨o, e⟩) => .inl (.inr ⟨o, h _ _ e⟩)
  | .inr e => .inr e

theorem vtT {K : PySem.W.Frag} {S : Hp} {a : Addr} {o : Obj} {vs : List V} (e : S a = some (.frz o (.tup vs))) : SqT K S a vs := .inl (.inr ⟨o, e⟩)
section
variable {K : PySem.W.Frag} {S S' : Hp} {ι ι' : List Addr} {H H' : Hp} {h h' : Hs} {ρ : Env} {σ : L2.St}
mutual
theorem RV.up (hS : Sub S S') (hι : ∀ (n : Nat) (a : Addr), ι[n]? = some a → ι'[n]? = some a) : ∀ {d : D} {v : V}, RV K S ι d v → RV K S' ι' d v
  | _, _, .non => .non
  | _, _, .bl b => .bl b
  | _, _, .int i => .int i
  | _, _, .str s => .str s
  | _, _, .tup e r => .tup (hS _ _ e) (RVs.up hS hι r)
  | _, _, .lst e r => .lst (hS _ _ e) (RVs.up hS hι r)
  | _, _, .vw e r => .vw (SqL.up hS e) (RVs.up hS hι r)
  | _, _, .vt e z r => .vt (hS _ _ e) z (RVs.up hS hι r)
  | _, _, .ref e => .ref (hι _ _ e)
  | _, _, .ob e z r => .ob (hS _ _ e) z (RVs.up hS hι r)
  | _, _, .fn x => .fn x
theorem RVs.up (hS : Sub S S') (hι : ∀ (n : Nat) (a : Addr), ι[n]? = some a → ι'[n]? = some a) : ∀ {d : List D} {v : List V}, RVs K S ι d v → RVs K S' ι' d v
  | _, _, .nil => .nil
  | _, _, .cons r t => .cons (RV.up hS hι r) (RVs.up hS hι t)
end
theorem RVs.length : ∀ {ds : List D} {vs : List V}, RVs K S ι ds vs → ds.length = vs.length
  | _, _, .nil => rfl
  | _, _, .cons _ t => congrArg Nat.succ (RVs.length t)
theorem RVs.get : ∀ {ds : List D} {vs : List V} {i : Nat} {d : D}, RVs K S ι ds vs → ds[i]? = some d → ∃ v, vs[i]? = some v ∧ RV K S ι d v
  | _, _, _, _, .nil, e => by simp at e
  | _, _, 0, _, .cons r _, e => by simp at e; subst e; exact ⟨_, rfl, r⟩
  | _, _, i + 1, d, .cons _ t, e => by
    obtain ⟨u, h1, h2⟩ := RVs.get (i := i) (d := d) t (by simpa using e)
    exact ⟨u, by simpa using h1, h2⟩
theorem RVs.none : ∀ {ds : List D} {vs : List V} {i : Nat}, RVs K S ι ds vs → ds[i]? = .none → vs[i]? = .none := fun {ds vs i} r e => by
  have := r.length
  exact List.getElem?_eq_none_iff.mpr (by have := List.getElem?_eq_none_iff.mp e; omega)
theorem RVs.append : ∀ {xs ys : List D} {us ws : List V}, RVs K S ι xs us → RVs K S ι ys ws → RVs K S ι (xs ++ ys) (us ++ ws)
  | _, _, _, _, .nil, s => s
  | _, _, _, _, .cons r t, s => .cons r (RVs.append t s)
theorem RVs.take : ∀ {xs : List D} {us : List V} (n : Nat), RVs K S ι xs us → RVs K S ι (xs.take n) (us.take n)
  | _, _, 0, _ => .nil
  | _, _, _ + 1, .nil => .nil
  | _, _, n + 1, .cons r t => .cons r (RVs.take n t)
theorem RVs.drop : ∀ {xs : List D} {us : List V} (n : Nat), RVs K S ι xs us → RVs K S ι (xs.drop n) (us.drop n)
  | _, _, 0, r => r
  | _, _, _ + 1, .nil => .nil
  | _, _, n + 1, .cons _ t => RVs.drop n t
theorem RVs.set {x : D} {u : V} (r : RV K S ι x u) : ∀ {xs : List D} {us : List V} (i : Nat), RVs K S ι xs us → RVs K S ι (xs.set i x) (us.set i u)
  | _, _, _, .nil => .nil
  | _, _, 0, .cons _ t => .cons r t
  | _, _, i + 1, .cons q t => .cons q (RVs.set r i t)
theorem RVs.rep (n : Nat) {xs : List D} {us : List V} (r : RVs K S ι xs us) : RVs K S ι (List.replicate n xs).flatten (List.replicate n us).flatten := by
  induction n with
  | zero => exact .nil
  | succ n ih => rw [List.replicate_succ, List.replicate_succ, List.flatten_cons, List.flatten_cons]; exact r.append ih
theorem RVs.ints : ∀ {ns : List Int}, RVs K S ι (ns.map .int) (ns.map .int)
  | [] => .nil
  | n :: ns => .cons (.int n) RVs.ints
theorem RVs.nil_iff {xs : List D} {us : List V} (r : RVs K S ι xs us) : xs = [] ↔ us = [] := by
  cases r with
  | nil => simp
  | cons _ _ => simp

/-! ### cells, slots -/
def CellOk (K : PySem.W.Frag) (S : Hp) (ι : List Addr) (H : Hp) (a : Addr) : Cell → Prop
  | .dead => True
  | .obj c fs => S a = none ∧ ∃ dx vs, H a = some (.ins (He.ga K c) dx vs) ∧ Paired (fun (p : Str × D) (q : Str × V) => p.1 = q.1 ∧ RV K S ι p.2 q.2) fs vs
  | .lst xs => S a = none ∧ ∃ vs, H a = some (.lst vs) ∧ RVs K S ι xs vs
  | .dct false kvs => S a = none ∧ ∃ kv, H a = some (.dK kv) ∧ Paired (fun (p : DKey × D) (q : Key × V) => p.1 = .inl q.1 ∧ RV K S ι p.2 q.2) kvs kv
  | .dct true kvs => S a = none ∧ ∃ kv, H a = some (.dT kv) ∧ Paired (fun (p : DKey × D) (q : List Key × V) => p.1 = .inr q.1 ∧ RV K S ι p.2 q.2) kvs kv
structure HRel (K : PySem.W.Frag) (S : Hp) (ι : List Addr) (h : Hs) (H : Hp) : Prop where
  len : ι.length = h.length
  nd : ι.Nodup
  sub : Sub S H
  out : ∀ a ∈ ι, H a ≠ none
  cell : ∀ (n : Nat) (a : Addr) (c : Cell), ι[n]? = some a → h[n]? = some c → CellOk K S ι H a c
def ERel (K : PySem.W.Frag) (S : Hp) (ι : List Addr) (ρ : Env) (σ : L2.St) : Prop := ρ.length = σ.length ∧ ∀ (i : Nat) (d : D), ρ[i]? = some (some d) → ∃ v, σ[i]? = some (some v) ∧ RV K S ι d v
structure Ext (S : Hp) (ι : List Addr) (H : Hp) (S' : Hp) (ι' : List Addr) (H' : Hp) : Prop where
  sub : Sub S S'
  pre : ∀ (n : Nat) (a : Addr), ι[n]? = some a → ι'[n]? = some a
  keep : ∀ a o, H a = some o → a ∉ ι → H' a = some o
  new : ∀ a, a ∈ ι' → a ∈ ι ∨ H a = none
  snew : ∀ a, S' a ≠ none → S a ≠ none ∨ a ∈ ι ∨ H a = none
  there : ∀ a, a ∈ ι → H a ≠ none → H' a ≠ none

theorem Ext.refl : Ext S ι H S ι H := ⟨fun _ _ e => e, fun _ _ e => e, fun _ _ e _ => e, fun _ e => .inl e, fun _ e => .inl e, fun _ _ e => e⟩
theorem none_or {H : Hp} (a : Addr) : H a = none ∨ ∃ o, H a = some o := by
  cases H a with
  | none => exact .inl rfl
  | some o => exact .inr ⟨o, rfl⟩
theorem Ext.trans {S2 : Hp} {ι2 : List Addr} {H2 : Hp} (x : Ext S ι H S' ι' H') (y : Ext S' ι' H' S2 ι2 H2) : Ext S ι H S2 ι2 H2 := by
  refine ⟨fun a o e => y.sub _ _ (x.sub _ _ e), fun n a e => y.pre _ _ (x.pre _ _ e), fun a o e ne => ?_, fun a m => ?_, fun a m => ?_, fun a m e => ?_⟩
  · refine y.keep a o (x.keep a o e ne) fun m => ?_
    rcases x.new a m with q | q
    · exact ne q
    · rw [e] at q; cases q
  · rcases y.new a m with q | q
    · exact x.new a q
    · rcases none_or (H := H) a with e | ⟨o, e⟩
      · exact .inr e
      · by_cases k : a ∈ ι
        · exact .inl k
        · rw [x.keep a o e k] at q; cases q
  · rcases y.snew a m with q | q | q
    · exact x.snew a q
    · rcases x.new a q with z | z
      · exact .inr (.inl z)
      · exact .inr (.inr z)
    · rcases none_or (H := H) a with e | ⟨o, e⟩
      · exact .inr (.inr e)
      · by_cases k : a ∈ ι
        · exact .inr (.inl k)
        · rw [x.keep a o e k] at q; cases q
  · obtain ⟨n, hn⟩ := List.mem_iff_getElem?.mp m
    exact y.there a (List.mem_of_getElem? (x.pre n a hn)) (x.there a m e)
theorem RV.ext {S2 : Hp} {ι2 : List Addr} {d : D} {v : V} (r : RV K S ι d v) (x : Ext S ι H S2 ι2 H') : RV K S2 ι2 d v := r.up x.sub x.pre
theorem RVs.ext {S2 : Hp} {ι2 : List Addr} {d : List D} {v : List V} (r : RVs K S ι d v) (x : Ext S ι H S2 ι2 H') : RVs K S2 ι2 d v := r.up x.sub x.pre
theorem ERel.ext (r : ERel K S ι ρ σ) (x : Ext S ι H S' ι' H') : ERel K S' ι' ρ σ := ⟨r.1, fun i d e => let ⟨v, h1, h2⟩ := r.2 i d e; ⟨v, h1, h2.ext x⟩⟩

/-- an own exception: its class by name, what it carries -/
def XOk (K : PySem.W.Frag) (mg : Str → Option Value) (c : Str) (p : Option D) (cls : Value) (dd : Option Addr) (S : Hp) (ι : List Addr) : Prop :=
  (∃ C, mg c = some (.ref C) ∧ cls = .ref C) ∧ match p with
    | none => dd = none
    | some d => ∃ a f v, dd = some a ∧ S a = some (.xd [(f, v)]) ∧ RV K S ι d v

/-! ### what a reading is asked -/
def PostG {α : Type} (K : PySem.W.Frag) (mg : Str → Option Value) (W : WX) (S : Hp) (ι : List Addr) (H : Hp) (σ : L2.St) (k : α → Hs → Hp → List Addr → Hp → Prop) : R α → Prop
  | .ok a h' => ∀ S' ι' H', HRel K S' ι' h' H' → Ext S ι H S' ι' H' → k a h' S' ι' H'
  | .exc c p h' => ∀ cls dd S' ι' H', HRel K S' ι' h' H' → Ext S ι H S' ι' H' → XOk K mg c p cls dd S' ι' → W cls dd σ H'
  | .stuck => False
variable {mg : Str → Option Value} {W : WX}
theorem PostG.bind {α β : Type} {x : R α} {f : α → Hs → R β} {k : β → Hs → Hp → List Addr → Hp → Prop} (hp : PostG K mg W S ι H σ k (x.bind f)) :
    PostG K mg W S ι H σ (fun a h' S' ι' H' => PostG K mg W S' ι' H' σ k (f a h')) x := by
  cases x with
  | ok a h1 =>
    intro S' ι' H' hr ex
    have hp : PostG K mg W S ι H σ k (f a h1) := hp
    show PostG K mg W S' ι' H' σ k (f a h1)
    cases e : f a h1 with
    | ok b h2 => rw [e] at hp; exact fun S2 ι2 H2 hr2 ex2 => hp S2 ι2 H2 hr2 (ex.trans ex2)
    | exc c p h2 => rw [e] at hp; exact fun cls dd S2 ι2 H2 hr2 ex2 xo => hp cls dd S2 ι2 H2 hr2 (ex.trans ex2) xo
    | stuck => rw [e] at hp; exact hp
  | exc c p h1 => exact hp
  | stuck => exact hp
theorem PostG.imp {α : Type} {x : R α} {k k' : α → Hs → Hp → List Addr → Hp → Prop} (hp : PostG K mg W S ι H σ k x) (hk : ∀ a h' S' ι' H', HRel K S' ι' h' H' → Ext S ι H S' ι' H' → k a h' S' ι' H' → k' a h' S' ι' H') :
    PostG K mg W S ι H σ k' x := by
  cases x with
  | ok a h1 => exact fun S' ι' H' hr ex => hk _ _ _ _ _ hr ex (hp S' ι' H' hr ex)
  | exc c p h1 => exact hp
  | stuck => exact hp

def Post (K : PySem.W.Frag) (mg : Str → Option Value) (W : WX) (D' : Ends) (S : Hp) (ι : List Addr) (H : Hp) : Out → Prop
  | .nx ρ' h' => ∀ S' ι' σ' H', HRel K S' ι' h' H' → ERel K S' ι' ρ' σ' → Ext S ι H S' ι' H' → D'.nx σ' H'
  | .ret d h' => ∀ v S' ι' H', HRel K S' ι' h' H' → Ext S ι H S' ι' H' → RV K S' ι' d v → D'.rt v H'
  | .brk ρ' h' => ∀ S' ι' σ' H', HRel K S' ι' h' H' → ERel K S' ι' ρ' σ' → Ext S ι H S' ι' H' → D'.bk σ' H'
  | .cnt ρ' h' => ∀ S' ι' σ' H', HRel K S' ι' h' H' → ERel K S' ι' ρ' σ' → Ext S ι H S' ι' H' → D'.ct σ' H'
  | .exc c p ρ' h' => ∀ cls dd S' ι' σ' H', HRel K S' ι' h' H' → ERel K S' ι' ρ' σ' → Ext S ι H S' ι' H' → XOk K mg c p cls dd S' ι' → W cls dd σ' H'
  | .stuck => False
theorem Post.ext {D' : Ends} {o : Out} {S2 : Hp} {ι2 : List Addr} {H2 : Hp} (hp : Post K mg W D' S ι H o) (ex : Ext S ι H S2 ι2 H2) : Post K mg W D' S2 ι2 H2 o := by
  cases o with
  | nx ρ h => exact fun S' ι' σ' H' a b c => hp S' ι' σ' H' a b (ex.trans c)
  | ret d h => exact fun v S' ι' H' a c r => hp v S' ι' H' a (ex.trans c) r
  | brk ρ h => exact fun S' ι' σ' H' a b c => hp S' ι' σ' H' a b (ex.trans c)
  | cnt ρ h => exact fun S' ι' σ' H' a b c => hp S' ι' σ' H' a b (ex.trans c)
  | exc c p ρ h => exact fun cls dd S' ι' σ' H' a b c x => hp cls dd S' ι' σ' H' a b (ex.trans c) x
  | stuck => exact hp
/-- an expression, then the rest of a statement -/
theorem Post.go {α : Type} {D' : Ends} {x : R α} {f : α → Hs → Out} (he : ERel K S ι ρ σ) (hp : Post K mg W D' S ι H (x.go ρ f)) :
    PostG K mg W S ι H σ (fun a h' S' ι' H' => Post K mg W D' S' ι' H' (f a h')) x := by
  cases x with
  | ok a h1 => exact fun S' ι' H' hr ex => Post.ext hp ex
  | exc c p h1 => exact fun cls dd S' ι' H' hr ex xo => hp cls dd S' ι' σ H' hr (he.ext ex) ex xo
  | stuck => exact hp

/-- a reading does at least what the denotation says -/
def SE (K : PySem.W.Frag) (mg : Str → Option Value) (W : WX) (t : TE) (de : Env → Hs → R D) : Prop := ∀ ρ h S ι σ H Q, HRel K S ι h H → ERel K S ι ρ σ → PostG K mg W S ι H σ (fun d _ S' ι' H' => ∀ v, RV K S' ι' d v → Q v H') (de ρ h) → t σ H Q
def ST (K : PySem.W.Frag) (mg : Str → Option Value) (W : WX) (t : TT) (de : Env → Hs → R Bool) : Prop := ∀ ρ h S ι σ H Q, HRel K S ι h H → ERel K S ι ρ σ → PostG K mg W S ι H σ (fun k _ _ _ H' => Q k H') (de ρ h) → t σ H Q
def SA (K : PySem.W.Frag) (mg : Str → Option Value) (W : WX) (t : TA) (de : Env → Hs → R (List D)) : Prop := ∀ ρ h S ι σ H Q, HRel K S ι h H → ERel K S ι ρ σ → PostG K mg W S ι H σ (fun ds _ S' ι' H' => ∀ vs, RVs K S' ι' ds vs → Q vs H') (de ρ h) → t σ H Q
def SS (K : PySem.W.Frag) (mg : Str → Option Value) (W : WX) (t : TS) (ds : Env → Hs → Out) : Prop := ∀ ρ h S ι σ H D', HRel K S ι h H → ERel K S ι ρ σ → Post K mg W D' S ι H (ds ρ h) → t D' σ H
def SG (K : PySem.W.Frag) (mg : Str → Option Value) (W : WX) (t : TG) (dg : D → Env → Hs → Out) : Prop := ∀ d v ρ h S ι σ H Q, HRel K S ι h H → ERel K S ι ρ σ → RV K S ι d v →
  (match dg d ρ h with
    | .nx ρ' h' => ∀ S' ι' σ' H', HRel K S' ι' h' H' → ERel K S' ι' ρ' σ' → Ext S ι H S' ι' H' → Q σ' H'
    | .exc c p ρ' h' => ∀ cls dd S' ι' σ' H', HRel K S' ι' h' H' → ERel K S' ι' ρ' σ' → Ext S ι H S' ι' H' → XOk K mg c p cls dd S' ι' → W cls dd σ' H'
    | _ => False) → t v σ H Q

/-! ### a new object -/
theorem HRel.fz {p : Addr} {o : HO} (r : HRel K S ι h H) (hp : H p = none) : HRel K (upd S p o) ι h (upd H p o) := by
  have hs : S p = none := by
    cases e : S p with
    | none => rfl
    | some q => rw [r.sub _ _ e] at hp; cases hp
  have np : p ∉ ι := fun m => r.out p m hp
  have up : Sub S (upd S p o) := fun a q e => by rw [upd_ne (ne_of_none e hs)]; exact e
  refine ⟨r.len, r.nd, fun a q e => ?_, fun a m e => ?_, fun n a c ha hc => ?_⟩
  · by_cases k : a = p
    · subst k; rw [upd_same] at e ⊢; exact e
    · rw [upd_ne k] at e ⊢; exact r.sub _ _ e
  · have k : a ≠ p := fun e => np (e ▸ m)
    rw [upd_ne k] at e
    exact r.out a m e
  · have k : a ≠ p := fun e => np (e ▸ List.mem_of_getElem? ha)
    have := r.cell n a c ha hc
    cases c with
    | dead => trivial
    | obj cn fs =>
      obtain ⟨h1, dx, vs, h2, h3⟩ := this
      exact ⟨by rw [upd_ne k]; exact h1, dx, vs, by rw [upd_ne k]; exact h2, Paired.mapP h3 fun _ _ z => ⟨z.1, z.2.up up fun _ _ e => e⟩⟩
    | lst xs =>
      obtain ⟨h1, vs, h2, h3⟩ := this
      exact ⟨by rw [upd_ne k]; exact h1, vs, by rw [upd_ne k]; exact h2, h3.up up fun _ _ e => e⟩
    | dct t kvs =>
      cases t with
      | false =>
        obtain ⟨h1, vs, h2, h3⟩ := this
        exact ⟨by rw [upd_ne k]; exact h1, vs, by rw [upd_ne k]; exact h2, Paired.mapP h3 fun _ _ z => ⟨z.1, z.2.up up fun _ _ e => e⟩⟩
      | true =>
        obtain ⟨h1, vs, h2, h3⟩ := this
        exact ⟨by rw [upd_ne k]; exact h1, vs, by rw [upd_ne k]; exact h2, Paired.mapP h3 fun _ _ z => ⟨z.1, z.2.up up fun _ _ e => e⟩⟩
theorem Ext.fz {p : Addr} {o : HO} (r : HRel K S ι h H) (hp : H p = none) : Ext S ι H (upd S p o) ι (upd H p o) := by
  have hs : S p = none := by
    cases e : S p with
    | none => rfl
    | some q => rw [r.sub _ _ e] at hp; cases hp
  refine ⟨fun a q e => by rw [upd_ne (ne_of_none e hs)]; exact e, fun _ _ e => e, fun a q e _ => by rw [upd_ne (ne_of_none e hp)]; exact e, fun a m => .inl m, fun a e => ?_, fun a m e => ?_⟩
  · by_cases k : a = p
    · subst k; exact .inr (.inr hp)
    · rw [upd_ne k] at e; exact .inl e
  · by_cases k : a = p
    · subst k; rw [upd_same]; exact fun z => nomatch z
    · rw [upd_ne k]; exact e
theorem Hp.snone (r : HRel K S ι h H) {p : Addr} (hp : H p = none) : S p = none := by
  cases e : S p with
  | none => rfl
  | some q => rw [r.sub _ _ e] at hp; cases hp
theorem nd_ix {α : Type} : ∀ {l : List α} {i j : Nat} {x : α}, l.Nodup → l[i]? = some x → l[j]? = some x → i = j
  | [], i, _, _, _, e, _ => by simp at e
  | y :: l, 0, 0, _, _, _, _ => rfl
  | y :: l, 0, j + 1, x, nd, e, f => by
    simp at e; subst e
    exact absurd (List.mem_of_getElem? (by simpa using f)) (List.nodup_cons.mp nd).1
  | y :: l, i + 1, 0, x, nd, e, f => by
    simp at f; subst f
    exact absurd (List.mem_of_getElem? (by simpa using e)) (List.nodup_cons.mp nd).1
  | y :: l, i + 1, j + 1, x, nd, e, f => congrArg Nat.succ (nd_ix (List.nodup_cons.mp nd).2 (by simpa using e) (by simpa using f))
theorem idx_snoc {α : Type} {l : List α} {x : α} {n : Nat} {a : α} (e : (l ++ [x])[n]? = some a) : l[n]? = some a ∨ (n = l.length ∧ a = x) := by
  by_cases k : n < l.length
  · rw [List.getElem?_append_left k] at e; exact .inl e
  · rw [List.getElem?_append_right (by omega)] at e
    cases q : n - l.length with
    | zero => rw [q] at e; simp at e; exact .inr ⟨by omega, e.symm⟩
    | succ m => rw [q] at e; simp at e
theorem CellOk.up {a : Addr} {c : Cell} (x : CellOk K S ι H a c) (hS : Sub S S') (hι : ∀ (n : Nat) (a : Addr), ι[n]? = some a → ι'[n]? = some a) (hs : S a = none → S' a = none) (hH : ∀ o, H a = some o → H' a = some o) : CellOk K S' ι' H' a c := by
  cases c with
  | dead => trivial
  | obj cn fs =>
    obtain ⟨h1, dx, vs, h2, h3⟩ := x
    exact ⟨hs h1, dx, vs, hH _ h2, Paired.mapP h3 fun _ _ z => ⟨z.1, z.2.up hS hι⟩⟩
  | lst xs =>
    obtain ⟨h1, vs, h2, h3⟩ := x
    exact ⟨hs h1, vs, hH _ h2, h3.up hS hι⟩
  | dct t kvs =>
    cases t with
    | false =>
      obtain ⟨h1, vs, h2, h3⟩ := x
      exact ⟨hs h1, vs, hH _ h2, Paired.mapP h3 fun _ _ z => ⟨z.1, z.2.up hS hι⟩⟩
    | true =>
      obtain ⟨h1, vs, h2, h3⟩ := x
      exact ⟨hs h1, vs, hH _ h2, Paired.mapP h3 fun _ _ z => ⟨z.1, z.2.up hS hι⟩⟩
theorem pre_snoc {p : Addr} : ∀ (n : Nat) (a : Addr), ι[n]? = some a → (ι ++ [p])[n]? = some a := fun n a e => by
  have k : n < ι.length := (List.getElem?_eq_some_iff.mp e).1
  rw [List.getElem?_append_left k]; exact e
/-- a new cell -/
theorem HRel.cellNew {p : Addr} {o : HO} {c : Cell} (r : HRel K S ι h H) (hp : H p = none) (hc : CellOk K S (ι ++ [p]) (upd H p o) p c) : HRel K S (ι ++ [p]) (h ++ [c]) (upd H p o) := by
  have np : p ∉ ι := fun m => r.out p m hp
  refine ⟨by rw [List.length_append, List.length_append, r.len]; rfl, ?_, fun a q e => ?_, fun a m e => ?_, fun n a c' ha hc' => ?_⟩
  · rw [List.nodup_append]
    exact ⟨r.nd, by simp, fun a ha b hb => by simp at hb; subst hb; exact fun e => np (e ▸ ha)⟩
  · have k : a ≠ p := fun z => by subst z; rw [Hp.snone r hp] at e; cases e
    rw [upd_ne k]; exact r.sub _ _ e
  · by_cases k : a = p
    · subst k; rw [upd_same] at e; cases e
    · rw [upd_ne k] at e
      rcases List.mem_append.mp m with q | q
      · exact r.out a q e
      · simp at q; exact k q
  · rcases idx_snoc ha with q | ⟨q, z⟩
    · have k : a ≠ p := fun e => np (e ▸ List.mem_of_getElem? q)
      have hn : n < h.length := by rw [← r.len]; exact (List.getElem?_eq_some_iff.mp q).1
      rw [List.getElem?_append_left hn] at hc'
      exact (r.cell n a c' q hc').up (fun _ _ e => e) pre_snoc (fun e => e) fun o' e => by rw [upd_ne k]; exact e
    · subst z
      rw [q, r.len] at hc'
      simp at hc'
      subst hc'
      exact hc
theorem Ext.cellNew {p : Addr} {o : HO} (hp : H p = none) : Ext S ι H S (ι ++ [p]) (upd H p o) := by
  refine ⟨fun _ _ e => e, pre_snoc, fun a q e _ => by rw [upd_ne (ne_of_none e hp)]; exact e, fun a m => ?_, fun a e => .inl e, fun a m e => ?_⟩
  · rcases List.mem_append.mp m with q | q
    · exact .inl q
    · simp at q; subst q; exact .inr hp
  · by_cases k : a = p
    · subst k; rw [upd_same]; exact fun z => nomatch z
    · rw [upd_ne k]; exact e
/-- a cell is written -/
theorem HRel.write {n : Nat} {p : Addr} {o : HO} {c : Cell} (r : HRel K S ι h H) (hn : ι[n]? = some p) (hs : S p = none) (hc : CellOk K S ι (upd H p o) p c) : HRel K S ι (h.set n c) (upd H p o) := by
  refine ⟨by rw [List.length_set]; exact r.len, r.nd, fun a q e => ?_, fun a m e => ?_, fun m a c' ha hc' => ?_⟩
  · have k : a ≠ p := fun z => by subst z; rw [hs] at e; cases e
    rw [upd_ne k]; exact r.sub _ _ e
  · by_cases k : a = p
    · subst k; rw [upd_same] at e; cases e
    · rw [upd_ne k] at e; exact r.out a m e
  · by_cases k : m = n
    · subst k
      rw [ha] at hn; cases hn
      have hl : m < h.length := by rw [← r.len]; exact (List.getElem?_eq_some_iff.mp ha).1
      rw [List.getElem?_set_self hl] at hc'
      cases hc'
      exact hc
    · rw [List.getElem?_set_ne (Ne.symm k)] at hc'
      have ka : a ≠ p := fun z => by
        subst z
        obtain ⟨l1, e1⟩ := List.getElem?_eq_some_iff.mp ha
        obtain ⟨l2, e2⟩ := List.getElem?_eq_some_iff.mp hn
        exact k (nd_ix r.nd ha hn)
      exact (r.cell m a c' ha hc').up (fun _ _ e => e) (fun _ _ e => e) (fun e => e) fun o' e => by rw [upd_ne ka]; exact e
theorem Ext.write {n : Nat} {p : Addr} {o : HO} (hn : ι[n]? = some p) : Ext S ι H S ι (upd H p o) := by
  refine ⟨fun _ _ e => e, fun _ _ e => e, fun a q e ne => ?_, fun _ m => .inl m, fun _ e => .inl e, fun a m e => ?_⟩
  · have k : a ≠ p := fun z => ne (z ▸ List.mem_of_getElem? hn)
    rw [upd_ne k]; exact e
  · by_cases k : a = p
    · subst k; rw [upd_same]; exact fun z => nomatch z
    · rw [upd_ne k]; exact e
end
end Ev
/-! Ev, part D: operations on values. -/
namespace Ev
open PySem PySem.Spec PyProof.Rows L2

section
variable {K : PySem.W.Frag} {S S' : Hp} {ι ι' : List Addr} {H H' : Hp} {h h' : Hs} {ρ : Env} {σ : L2.St} {mg : Str → Option Value} {W : WX} {Q : VK}

abbrev KQ (K : PySem.W.Frag) (Q : VK) : D → Hs → Hp → List Addr → Hp → Prop := fun d _ S' ι' H' => ∀ v, RV K S' ι' d v → Q v H'

theorem line_of {n : Nat} (e : n ≤ LN) : n ≤ sizeLine := Nat.le_trans e LN_le
theorem seq_ok (r : HRel K S ι h H) {d : D} {v : V} (rv : RV K S ι d v) {xs : List D} {b : Bool} (e : seqOf h d = some (xs, b)) :
    ∃ a vs, v = .ref a ∧ RVs K S ι xs vs ∧ (b = true → SqL K H a vs) ∧ (b = false → SqT K H a vs) := by
  cases rv with
  | tup e1 r1 => cases e; exact ⟨_, _, rfl, r1, fun z => (by cases z), fun _ => SqT.of (r.sub _ _ e1)⟩
  | lst e1 r1 => cases e; exact ⟨_, _, rfl, r1, fun _ => SqL.of (r.sub _ _ e1), fun z => (by cases z)⟩
  | vw e1 r1 => cases e; exact ⟨_, _, rfl, r1, fun _ => SqL.up r.sub e1, fun z => (by cases z)⟩
  | vt e1 _ r1 => cases e; exact ⟨_, _, rfl, r1, fun z => (by cases z), fun _ => SqT.up r.sub (vtT e1)⟩
  | @ref n a en =>
    replace e : (match h[n]? with | some (Cell.lst xs) => some (xs, true) | _ => none) = some _ := e
    cases q : h[n]? with
    | none => rw [q] at e; cases e
    | some c =>
      rw [q] at e
      cases c with
      | dead => cases e
      | obj _ _ => cases e
      | dct t kvs => cases e
      | lst ys =>
        cases e
        obtain ⟨_, vs, h2, h3⟩ := r.cell n a _ en q
        exact ⟨a, vs, rfl, h3, fun _ => SqL.of h2, fun z => (by cases z)⟩
  | non => cases e
  | bl _ => cases e
  | int _ => cases e
  | str _ => cases e
  | ob _ _ _ => cases e
  | fn _ => cases e
theorem seq_lst (r : HRel K S ι h H) {d : D} {v : V} (rv : RV K S ι d v) {xs : List D} (nv : ∀ ys, d ≠ .vw ys) (e : seqOf h d = some (xs, true)) :
    ∃ a vs, v = .ref a ∧ RVs K S ι xs vs ∧ H a = some (.lst vs) := by
  cases rv with
  | tup e1 r1 => cases e
  | lst e1 r1 => cases e; exact ⟨_, _, rfl, r1, r.sub _ _ e1⟩
  | vw e1 r1 => exact absurd rfl (nv _)
  | vt e1 _ r1 => cases e
  | @ref n a en =>
    replace e : (match h[n]? with | some (Cell.lst xs) => some (xs, true) | _ => none) = some _ := e
    cases q : h[n]? with
    | none => rw [q] at e; cases e
    | some c =>
      rw [q] at e
      cases c with
      | dead => cases e
      | obj _ _ => cases e
      | dct t kvs => cases e
      | lst ys =>
        cases e
        obtain ⟨_, vs, h2, h3⟩ := r.cell n a _ en q
        exact ⟨a, vs, rfl, h3, h2⟩
  | non => cases e
  | bl _ => cases e
  | int _ => cases e
  | str _ => cases e
  | ob _ _ _ => cases e
  | fn _ => cases e
/-- a new list -/
theorem newL_post (r : HRel K S ι h H) {fz : Bool} {ds : List D} {vs : List V} (rs : RVs K S ι ds vs) (hp : PostG K mg W S ι H σ (KQ K Q) (newL fz ds h)) :
    vs.length ≤ sizeLine ∧ ∀ p, H p = none → Q (.ref p) (upd H p (.lst vs)) := by
  unfold newL at hp
  by_cases z : ds.length ≤ LN
  · rw [if_pos z] at hp
    refine ⟨by rw [← rs.length]; exact line_of z, fun p hn => ?_⟩
    cases fz with
    | true =>
      have ex := Ext.fz (o := .lst vs) r hn
      exact hp _ _ _ (r.fz hn) ex _ (.lst upd_same (rs.ext ex))
    | false =>
      have ex : Ext S ι H S (ι ++ [p]) (upd H p (.lst vs)) := Ext.cellNew hn
      refine hp _ _ _ (r.cellNew hn ⟨Hp.snone r hn, vs, upd_same, rs.ext ex⟩) ex _ (.ref ?_)
      rw [← r.len]; simp
  · rw [if_neg z] at hp; exact hp.elim
theorem tup_post (r : HRel K S ι h H) {ds : List D} {vs : List V} (rs : RVs K S ι ds vs) (hp : PostG K mg W S ι H σ (KQ K Q) (.ok (.tup ds) h)) {p : Addr} (hn : H p = none) : Q (.ref p) (upd H p (.tup vs)) := by
  have ex := Ext.fz (o := .tup vs) r hn
  exact hp _ _ _ (r.fz hn) ex _ (.tup upd_same (rs.ext ex))
theorem flat_post (r : HRel K S ι h H) {d : D} {v : V} (rv : RV K S ι d v) (hp : PostG K mg W S ι H σ (KQ K Q) (.ok d h)) : Q v H := hp _ _ _ r Ext.refl _ rv

/-! ### two-place operations -/
def BOp.op : BOp → Operator
  | .add => .Add | .sub => .Sub | .mul => .Mult | .fdiv => .FloorDiv | .mod => .Mod | .pow => .Pow
def rAddS : R2 := fun x y H Q => ∃ i j, x = .str i ∧ y = .str j ∧ i.length + j.length ≤ sizeLine ∧ Q (.str (i ++ j)) H
def rBin (K : PySem.W.Frag) : BOp → R2
  | .add => fun x y H Q => rI0 (fun i j => .int (i + j)) x y H Q ∨ rAddS x y H Q ∨ rCatT K x y H Q ∨ rCat x y H Q
  | .sub => rI0 fun i j => .int (i - j)
  | .mul => fun x y H Q => rI CMul (fun i j => .int (i * j)) x y H Q ∨ rI CMulW (fun i j => .int (i * j)) x y H Q ∨ rRep x y H Q
  | .fdiv => fun x y H Q => rI CDiv (fun i j => .int (i / j)) x y H Q ∨ rI CDivW (fun i j => .int (i / j)) x y H Q
  | .mod => rI (fun _ j => 0 < j) fun i j => .int (i % j)
  | .pow => rI CPow fun i j => .int (i ^ j.toNat)
theorem bin_op {X : Cx} (o : BOp) : OpR X (binaryOp o.op) (rBin X.K o) := by
  cases o with
  | add => exact op_add.or (op_add_str.or (op_catT.or op_cat))
  | sub => exact op_sub
  | mul => exact op_mul.or (op_mulW.or op_rep)
  | fdiv => exact op_fdiv.or op_fdivW
  | mod => exact op_mod
  | pow => exact op_pow
theorem bin_sound (o : BOp) (fz : Bool) (r : HRel K S ι h H) {d e : D} {x y : V} (rx : RV K S ι d x) (ry : RV K S ι e y) (hp : PostG K mg W S ι H σ (KQ K Q) (binD o fz d e h)) : rBin K o x y H Q := by
  unfold binD at hp
  split at hp
  · cases rx; cases ry
    exact .inl ⟨_, _, rfl, rfl, flat_post r (.int _) hp⟩
  · cases rx; cases ry
    exact ⟨_, _, rfl, rfl, flat_post r (.int _) hp⟩
  · cases rx; cases ry
    split at hp
    · rename_i hc
      rcases hc with hc | hc | hc
      · exact .inl ⟨_, _, rfl, rfl, .inl hc, flat_post r (.int _) hp⟩
      · exact .inl ⟨_, _, rfl, rfl, .inr hc, flat_post r (.int _) hp⟩
      · exact .inr (.inl ⟨_, _, rfl, rfl, hc, flat_post r (.int _) hp⟩)
    · exact hp.elim
  · cases rx; cases ry
    split at hp
    · rename_i hc
      rcases hc with ⟨h0, hc | hc⟩
      · exact .inl ⟨_, _, rfl, rfl, ⟨h0, hc⟩, flat_post r (.int _) hp⟩
      · exact .inr ⟨_, _, rfl, rfl, ⟨h0, hc⟩, flat_post r (.int _) hp⟩
    · exact hp.elim
  · cases rx; cases ry
    split at hp
    · rename_i hc
      exact ⟨_, _, rfl, rfl, hc, flat_post r (.int _) hp⟩
    · exact hp.elim
  · cases rx; cases ry
    split at hp
    · rename_i hc
      exact ⟨_, _, rfl, rfl, ⟨hc.1, by omega, hc.2.2⟩, flat_post r (.int _) hp⟩
    · exact hp.elim
  · cases rx; cases ry
    split at hp
    · rename_i hc
      exact .inr (.inl ⟨_, _, rfl, rfl, line_of hc, flat_post r (.str _) hp⟩)
    · exact hp.elim
  · cases rx with
    | tup e1 r1 => cases ry with
      | tup e2 r2 =>
        split at hp
        · rename_i hc
          refine .inr (.inr (.inl ⟨_, _, _, _, rfl, rfl, SqT.of (r.sub _ _ e1), SqT.of (r.sub _ _ e2), fun z => hc.2 (r1.nil_iff.mpr z), by rw [← r1.length, ← r2.length]; exact line_of hc.1, fun z => ?_, fun z p hn => ?_⟩))
          · split at hp
            · exact flat_post r (.tup e1 r1) hp
            · rename_i hne
              exact absurd (r2.nil_iff.mpr z) (by intro q; exact hne q)
          · split at hp
            · exact absurd (r2.nil_iff.mp rfl) z
            · exact tup_post r (r1.append r2) hp hn
        · exact hp.elim
  · split at hp
    · exact hp.elim
    · exact hp.elim
    · rename_i n1 n2 e1 e2 _ _ _
      obtain ⟨a, vs, rfl, r1, h1⟩ := seq_lst r rx (fun ys => n1 ys) e1
      obtain ⟨b, us, rfl, r2, h2⟩ := seq_lst r ry (fun ys => n2 ys) e2
      obtain ⟨z, q⟩ := newL_post r (r1.append r2) hp
      rw [List.length_append] at z
      exact .inr (.inr (.inr ⟨_, _, _, _, rfl, rfl, h1, h2, z, q⟩))
    · exact hp.elim
  · split at hp
    · exact hp.elim
    · rename_i k _ _ _ _ n1 _ e1
      cases ry
      split at hp
      · rename_i hk
        obtain ⟨a, vs, rfl, r1, h1⟩ := seq_lst r rx (fun ys => n1 ys) e1
        obtain ⟨z, q⟩ := newL_post r (r1.rep _) hp
        have hl : (List.replicate (Int.toNat k) vs).flatten.length = Int.toNat k * vs.length := by simp
        refine .inr (.inr ⟨_, _, _, rfl, rfl, h1, ?_, ?_, ?_, q⟩)
        · have := hk.1; unfold LN at this; omega
        · have := hk.2; unfold LN at this; omega
        · rw [hl] at z; rw [Nat.mul_comm]; exact z
      · exact hp.elim
    · exact hp.elim
  · exact hp.elim

/-! ### data, equality -/
mutual
theorem py_ok (hs : Sub S H) : ∀ {d : D} {v : V} {z : PyData}, RV K S ι d v → d.py = some z → Dp K H v z
  | _, _, _, .non, e => by cases e; exact .non
  | _, _, _, .bl b, e => by cases e; exact .bl b
  | _, _, _, .int i, e => by cases e; exact .int i
  | _, _, _, .str s, e => by cases e; exact .str s
  | .tup ds, _, z, .tup e1 r, e => by
    unfold D.py at e
    cases q : D.pys ds with
    | none => rw [q] at e; cases e
    | some zs => rw [q] at e; cases e; exact .tup (SqT.of (hs _ _ e1)) (pys_ok hs r q)
  | .lst ds, _, z, .lst e1 r, e => by
    unfold D.py at e
    cases q : D.pys ds with
    | none => rw [q] at e; cases e
    | some zs => rw [q] at e; cases e; exact .lst (SqL.of (hs _ _ e1)) (pys_ok hs r q)
  | .vw ds, _, z, .vw e1 r, e => by
    unfold D.py at e
    cases q : D.pys ds with
    | none => rw [q] at e; cases e
    | some zs => rw [q] at e; cases e; exact .lst (SqL.up hs e1) (pys_ok hs r q)
  | .vt ds, _, z, .vt e1 _ r, e => by
    unfold D.py at e
    cases q : D.pys ds with
    | none => rw [q] at e; cases e
    | some zs => rw [q] at e; cases e; exact .tup (SqT.up hs (vtT e1)) (pys_ok hs r q)
  | .ref n, _, z, .ref e1, e => by cases e
theorem pys_ok (hs : Sub S H) : ∀ {ds : List D} {vs : List V} {zs : List PyData}, RVs K S ι ds vs → D.pys ds = some zs → DpAll K H vs zs
  | _, _, _, .nil, e => by cases e; exact .nil
  | d :: ds, _, zs, .cons r t, e => by
    unfold D.pys at e
    cases q : d.py with
    | none => rw [q] at e; cases e
    | some z =>
      cases q2 : D.pys ds with
      | none => rw [q, q2] at e; cases e
      | some zz => rw [q, q2] at e; cases e; exact .cons (py_ok hs r q) (pys_ok hs t q2)
end
theorem pyH_ok (r : HRel K S ι h H) {d : D} {v : V} {z : PyData} (rv : RV K S ι d v) (e : d.pyH h = some z) : Dp K H v z := by
  cases d with
  | ref n =>
    cases rv with
    | @ref _ a en =>
      replace e : (match h[n]? with | some (Cell.lst xs) => (D.pys xs).map PyData.list | _ => none) = some z := e
      cases q : h[n]? with
      | none => rw [q] at e; cases e
      | some c =>
        rw [q] at e
        cases c with
        | dead => cases e
        | obj _ _ => cases e
        | dct t kvs => cases e
        | lst ys =>
          replace e : (D.pys ys).map PyData.list = some z := e
          cases q2 : D.pys ys with
          | none => rw [q2] at e; cases e
          | some zs =>
            rw [q2] at e; cases e
            obtain ⟨_, vs, h2, h3⟩ := r.cell n a _ en q
            exact .lst (SqL.of h2) (pys_ok r.sub h3 q2)
  | non => exact py_ok r.sub rv e
  | bl _ => exact py_ok r.sub rv e
  | int _ => exact py_ok r.sub rv e
  | str _ => exact py_ok r.sub rv e
  | tup _ => exact py_ok r.sub rv e
  | lst _ => exact py_ok r.sub rv e
  | vw _ => exact py_ok r.sub rv e
  | vt _ => exact py_ok r.sub rv e
  | ob _ _ _ => exact py_ok r.sub rv e
  | fn _ => exact py_ok r.sub rv e

/-! ### keys -/
theorem key1_ok {d : D} {v : V} {k : Key} (rv : RV K S ι d v) (e : keyOf1 d = some k) : v = kV k := by
  cases rv <;> cases e <;> rfl
theorem keys_ok : ∀ {ds : List D} {vs : List V} {ks : List Key}, RVs K S ι ds vs → keysOf ds = some ks → vs = ks.map kV
  | _, _, _, .nil, e => by cases e; rfl
  | d :: ds, _, ks, .cons r t, e => by
    unfold keysOf at e
    cases q : keyOf1 d with
    | none => rw [q] at e; cases e
    | some z =>
      cases q2 : keysOf ds with
      | none => rw [q, q2] at e; cases e
      | some zz => rw [q, q2] at e; cases e; rw [key1_ok r q, keys_ok t q2]; rfl
theorem dget_k {kvs : List (DKey × D)} {kv : List (Key × V)} (r : Paired (fun (p : DKey × D) (q : Key × V) => p.1 = .inl q.1 ∧ RV K S ι p.2 q.2) kvs kv) (k : Key) :
    match dget kvs (.inl k) with
      | some d => ∃ v, valV kv k = some v ∧ RV K S ι d v
      | none => valV kv k = none := by
  induction r with
  | nil => rfl
  | @cons p q kvs kv hpq _ ih =>
    obtain ⟨e, rv⟩ := hpq
    by_cases z : q.1 = k
    · have e1 : dget (p :: kvs) (.inl k) = some p.2 := by simp [dget, List.find?_cons, e, z]
      rw [e1, valV_pos z]
      exact ⟨_, rfl, rv⟩
    · have e1 : dget (p :: kvs) (.inl k) = dget kvs (.inl k) := by simp [dget, List.find?_cons, e, z]
      rw [e1, valV_neg z]
      exact ih
theorem dget_t {kvs : List (DKey × D)} {kv : List (List Key × V)} (r : Paired (fun (p : DKey × D) (q : List Key × V) => p.1 = .inr q.1 ∧ RV K S ι p.2 q.2) kvs kv) (k : List Key) :
    match dget kvs (.inr k) with
      | some d => ∃ v, valV kv k = some v ∧ RV K S ι d v
      | none => valV kv k = none := by
  induction r with
  | nil => rfl
  | @cons p q kvs kv hpq _ ih =>
    obtain ⟨e, rv⟩ := hpq
    by_cases z : q.1 = k
    · have e1 : dget (p :: kvs) (.inr k) = some p.2 := by simp [dget, List.find?_cons, e, z]
      rw [e1, valV_pos z]
      exact ⟨_, rfl, rv⟩
    · have e1 : dget (p :: kvs) (.inr k) = dget kvs (.inr k) := by simp [dget, List.find?_cons, e, z]
      rw [e1, valV_neg z]
      exact ih
/-- reading a dict in a cell -/
theorem dct_get (r : HRel K S ι h H) {d i : D} {v y : V} (rv : RV K S ι d v) (ri : RV K S ι i y) {t : Bool} {kvs : List (DKey × D)} {k : DKey} (e : dctOf h d = some (t, kvs)) (ek : keyOf i = some k) (hk : isT k = t) :
    ∃ a o, v = .ref a ∧ DGet H a y o ∧ (match dget kvs k with | some d => ∃ w, o = some w ∧ RV K S ι d w | none => o = none) := by
  cases d with
  | ref n =>
    cases rv with
    | @ref _ a en =>
      replace e : (match h[n]? with | some (Cell.dct t kvs) => some (t, kvs) | _ => none) = some (t, kvs) := e
      cases q : h[n]? with
      | none => rw [q] at e; cases e
      | some c =>
        rw [q] at e
        cases c with
        | dead => cases e
        | obj _ _ => cases e
        | lst _ => cases e
        | dct t' kvs' =>
          cases e
          have hc := r.cell n a _ en q
          cases t with
          | false =>
            obtain ⟨_, kv, h2, h3⟩ := hc
            cases k with
            | inr _ => cases hk
            | inl k =>
              refine ⟨a, valV kv k, rfl, ?_, ?_⟩
              · cases i with
                | int i => cases ek; cases ri; exact DGet.k (k := Sum.inl i) h2
                | str i => cases ek; cases ri; exact DGet.k (k := Sum.inr i) h2
                | tup xs =>
                  replace ek : (keysOf xs).map Sum.inr = some _ := ek
                  cases q2 : keysOf xs with
                  | none => rw [q2] at ek; cases ek
                  | some _ => rw [q2] at ek; cases ek
                | _ => cases ek
              · have := dget_k h3 k
                cases q2 : dget kvs (.inl k) with
                | none => rw [q2] at this; exact this
                | some d => rw [q2] at this; exact this
          | true =>
            obtain ⟨_, kv, h2, h3⟩ := hc
            cases k with
            | inl _ => cases hk
            | inr k =>
              refine ⟨a, valV kv k, rfl, ?_, ?_⟩
              · cases i with
                | int i => cases ek
                | str i => cases ek
                | tup xs =>
                  replace ek : (keysOf xs).map Sum.inr = some _ := ek
                  cases q2 : keysOf xs with
                  | none => rw [q2] at ek; cases ek
                  | some ks =>
                    rw [q2] at ek; cases ek
                    cases ri with
                    | tup e1 r1 =>
                      have e2 := keys_ok r1 q2
                      subst e2
                      exact DGet.t h2 (r.sub _ _ e1)
                | _ => cases ek
              · have := dget_t h3 k
                cases q2 : dget kvs (.inr k) with
                | none => rw [q2] at this; exact this
                | some d => rw [q2] at this; exact this
  | _ => cases e

/-! ### comparisons -/
def COp.op : COp → CmpOp
  | .eq => .Eq | .ne => .NotEq | .lt => .Lt | .le => .LtE | .gt => .Gt | .ge => .GtE | .is => .Is | .isnot => .IsNot | .isin => .In | .notin => .NotIn
def rInDct (n : Bool) : R2 := fun x y H Q => ∃ a o, y = .ref a ∧ DGet H a x o ∧ Q (.bl (if n then !o.isSome else o.isSome)) H
def rInStr (n : Bool) : R2 := fun x y H Q => ∃ i j, x = .str i ∧ y = .str j ∧ Q (.bl (if n then !(!(Builtin.Str.occurrences j i 0 j.length 1).isEmpty) else (!(Builtin.Str.occurrences j i 0 j.length 1).isEmpty))) H
def rInDN (K : PySem.W.Frag) (n : Bool) : R2 := fun x y H Q => ∃ d ds, Dp K H x d ∧ Dp K H y (.list ds) ∧ SeqAt.shaped d = true ∧ SeqAt.shaped (.list ds) = true ∧ Q (.bl (if n then !ds.any (fun z => PyData.eqv z d) else ds.any fun z => PyData.eqv z d)) H
def rInAll (K : PySem.W.Frag) (n : Bool) : R2 := fun x y H Q => rInDct n x y H Q ∨ rInStr n x y H Q ∨ rIn K n x y H Q ∨ rInDN K n x y H Q
def rCmp (K : PySem.W.Frag) : COp → R2
  | .eq => fun x y H Q => rEq x y H Q ∨ rEqD K x y H Q
  | .ne => fun x y H Q => rNe x y H Q ∨ rNeD K x y H Q
  | .lt => rI0 fun i j => .bl (decide (i < j))
  | .le => rI0 fun i j => .bl (decide (i ≤ j))
  | .gt => rI0 fun i j => .bl (decide (j < i))
  | .ge => rI0 fun i j => .bl (decide (j ≤ i))
  | .is => fun x y H Q => (y = .non ∧ Q (.bl (decide (x = .non))) H) ∨ rIsB x y H Q
  | .isnot => fun x y H Q => (y = .non ∧ Q (.bl (!decide (x = .non))) H) ∨ rNotB x y H Q
  | .isin => rInAll K false
  | .notin => rInAll K true
section
variable {X : Cx}
theorem op_in_dct (hu : X.A.units + 1 < cLine) : OpR X (compareOp .In) (rInDct false) := by
  intro pins s σ H x y v u Q I rx ry ⟨a, o, e, g, q⟩
  subst e
  cases ry
  exact d_in hu I g rx fun s' I' => ⟨.bl o.isSome, H, I', rfl, q⟩
theorem op_notin_dct (hu : X.A.units + 1 < cLine) : OpR X (compareOp .NotIn) (rInDct true) := by
  intro pins s σ H x y v u Q I rx ry ⟨a, o, e, g, q⟩
  subst e
  cases ry
  exact d_notIn hu I g rx fun s' I' => ⟨.bl (!o.isSome), H, I', rfl, q⟩
theorem cmp_op (hu : X.A.units + 65 < cLine) (o : COp) : OpR X (compareOp o.op) (rCmp X.K o) := by
  cases o with
  | eq => exact op_eq.or (op_eqD (by omega))
  | ne => exact op_ne.or (op_neD (by omega))
  | lt => exact op_lt
  | le => exact op_le
  | gt => exact op_gt
  | ge => exact op_ge
  | is => exact op_isN.or op_isBl
  | isnot => exact op_notN.or op_notBl
  | isin => exact (op_in_dct (by omega)).or (op_in_str.or (op_in_seq.or (op_inD hu)))
  | notin => exact (op_notin_dct (by omega)).or (op_notin_str.or (op_notIn_seq.or (op_notInD hu)))
end
theorem flat_ok {d : D} {v : V} (rv : RV K S ι d v) (e : d.flat = true) : flatV v = true := by
  cases rv <;> first | rfl | cases e
theorem flats_ok : ∀ {ds : List D} {vs : List V}, RVs K S ι ds vs → ds.all D.flat = true → vs.all flatV = true
  | _, _, .nil, _ => rfl
  | _, _, .cons r t, e => by
    rw [List.all_cons, Bool.and_eq_true] at e ⊢
    exact ⟨flat_ok r e.1, flats_ok t e.2⟩
theorem flat_eq {a y : D} {v u : V} (ra : RV K S ι a v) (ry : RV K S ι y u) (ha : a.flat = true) (hy : y.flat = true) : flatEq y a = eqV u v := by
  cases ra <;> first | (cases ha; done) | (cases ry <;> first | (cases hy; done) | rfl)
theorem flat_any {a : D} {v : V} (ra : RV K S ι a v) (ha : a.flat = true) : ∀ {ds : List D} {vs : List V}, RVs K S ι ds vs → ds.all D.flat = true → (ds.any fun y => flatEq y a) = inV v vs
  | _, _, .nil, _ => rfl
  | _, _, .cons r t, e => by
    rw [List.all_cons, Bool.and_eq_true] at e
    unfold inV
    rw [List.any_cons, List.any_cons, flat_eq ra r ha e.1, flat_any ra ha t e.2]
    rfl
theorem in_sound (n : Bool) (r : HRel K S ι h H) {d e : D} {x y : V} (rx : RV K S ι d x) (ry : RV K S ι e y)
    (hp : PostG K mg W S ι H σ (KQ K Q) ((cmpD.inD d e h).bind fun d h => match d with | .bl c => .ok (.bl (if n then !c else c)) h | _ => .stuck)) : rInAll K n x y H Q := by
  unfold cmpD.inD at hp
  split at hp
  · rename_i t kvs e1
    split at hp
    · rename_i k e2
      split at hp
      · rename_i hk
        obtain ⟨a, o, rfl, g, q⟩ := dct_get r ry rx e1 e2 hk
        refine .inl ⟨a, o, rfl, g, ?_⟩
        have : o.isSome = (dget kvs k).isSome := by
          cases z : dget kvs k with
          | none => rw [z] at q; rw [q]; rfl
          | some d => rw [z] at q; obtain ⟨w, e, _⟩ := q; rw [e]; rfl
        rw [this]
        exact flat_post r (.bl _) hp
      · exact hp.elim
    · exact hp.elim
  · split at hp
    · cases rx; cases ry
      exact .inr (.inl ⟨_, _, rfl, rfl, flat_post r (.bl _) hp⟩)
    · split at hp
      · rename_i ys isl e1
        obtain ⟨a, vs, rfl, r1, hl, ht⟩ := seq_ok r ry e1
        split at hp
        · rename_i hf
          rw [Bool.and_eq_true] at hf
          refine .inr (.inr (.inl ⟨a, vs, rfl, ?_, flat_ok rx hf.1, flats_ok r1 hf.2, ?_⟩))
          · cases isl with
            | true => exact .inl (hl rfl)
            | false => exact .inr (ht rfl)
          · have q := flat_post r (.bl _) hp
            rw [flat_any rx hf.1 r1 hf.2] at q
            exact q
        · split at hp
          · rename_i x' zs e2 e3
            split at hp
            · rename_i hf
              rw [Bool.and_eq_true, Bool.and_eq_true] at hf
              refine .inr (.inr (.inr ⟨x', zs, py_ok r.sub rx e2, .lst (hl hf.1.1) (pys_ok r.sub r1 e3), hf.1.2, hf.2, ?_⟩))
              exact flat_post r (.bl _) hp
            · exact hp.elim
          · exact hp.elim
      · exact hp.elim
theorem strEq_some {d e : D} {k : Bool} (h : strEq d e = some k) : ∃ i j, d = .str i ∧ e = .str j ∧ k = (i == j) := by
  cases d <;> cases e <;> first
    | (cases h; exact ⟨_, _, rfl, rfl, rfl⟩)
    | cases h
theorem cmp_sound (o : COp) (r : HRel K S ι h H) {d e : D} {x y : V} (rx : RV K S ι d x) (ry : RV K S ι e y) (hp : PostG K mg W S ι H σ (KQ K Q) (cmpD o d e h)) : rCmp K o x y H Q := by
  cases o with
  | eq =>
    unfold cmpD at hp
    dsimp only at hp
    split at hp
    · rename_i k e0
      obtain ⟨i, j, rfl, rfl, rfl⟩ := strEq_some e0
      cases rx
      cases ry
      exact .inl ⟨rfl, by rw [dec_str]; exact flat_post r (.bl _) hp⟩
    · split at hp
      · rename_i a b e1 e2
        split at hp
        · rename_i hf
          rw [Bool.and_eq_true] at hf
          exact .inr ⟨a, b, pyH_ok r rx e1, pyH_ok r ry e2, hf.1, hf.2, flat_post r (.bl _) hp⟩
        · exact hp.elim
      · exact hp.elim
  | ne =>
    unfold cmpD at hp
    dsimp only at hp
    split at hp
    · rename_i k e0
      obtain ⟨i, j, rfl, rfl, rfl⟩ := strEq_some e0
      cases rx
      cases ry
      exact .inl ⟨rfl, by rw [dec_str]; exact flat_post r (.bl _) hp⟩
    · split at hp
      · rename_i a b e1 e2
        split at hp
        · rename_i hf
          rw [Bool.and_eq_true] at hf
          exact .inr ⟨a, b, pyH_ok r rx e1, pyH_ok r ry e2, hf.1, hf.2, flat_post r (.bl _) hp⟩
        · exact hp.elim
      · exact hp.elim
  | lt => unfold cmpD at hp; dsimp only at hp; split at hp; (cases rx; cases ry; exact ⟨_, _, rfl, rfl, flat_post r (.bl _) hp⟩); exact hp.elim
  | le => unfold cmpD at hp; dsimp only at hp; split at hp; (cases rx; cases ry; exact ⟨_, _, rfl, rfl, flat_post r (.bl _) hp⟩); exact hp.elim
  | gt => unfold cmpD at hp; dsimp only at hp; split at hp; (cases rx; cases ry; exact ⟨_, _, rfl, rfl, flat_post r (.bl _) hp⟩); exact hp.elim
  | ge => unfold cmpD at hp; dsimp only at hp; split at hp; (cases rx; cases ry; exact ⟨_, _, rfl, rfl, flat_post r (.bl _) hp⟩); exact hp.elim
  | is =>
    unfold cmpD at hp; dsimp only at hp
    split at hp
    · cases ry
      refine .inl ⟨rfl, ?_⟩
      have q := flat_post r (.bl _) hp
      cases rx <;> exact q
    · split at hp
      · cases ry
        cases rx
        exact .inr ⟨_, _, rfl, rfl, flat_post r (.bl _) hp⟩
      · exact hp.elim
    · exact hp.elim
  | isnot =>
    unfold cmpD at hp; dsimp only at hp
    split at hp
    · cases ry
      refine .inl ⟨rfl, ?_⟩
      have q := flat_post r (.bl _) hp
      cases rx <;> exact q
    · split at hp
      · cases ry
        cases rx
        exact .inr ⟨_, _, rfl, rfl, flat_post r (.bl _) hp⟩
      · exact hp.elim
    · exact hp.elim
  | isin =>
    refine in_sound false r rx ry (mg := mg) (W := W) (σ := σ) ?_
    unfold cmpD at hp; exact hp
  | notin =>
    refine in_sound true r rx ry (mg := mg) (W := W) (σ := σ) ?_
    unfold cmpD at hp; exact hp

/-! ### truth -/
theorem empty_eq {xs : List D} {vs : List V} (r : RVs K S ι xs vs) : xs.isEmpty = vs.isEmpty := by
  cases r <;> rfl
theorem tru_sound (r : HRel K S ι h H) {d : D} {v : V} (rv : RV K S ι d v) {k : Bool} (e : truD h d = some k) : TruV K v H k := by
  cases d with
  | non => cases e; cases rv; rfl
  | bl b => cases e; cases rv; rfl
  | int i => cases e; cases rv; rfl
  | str y =>
    unfold truD at e
    dsimp only at e
    split at e
    · rename_i hl; cases e; cases rv; exact ⟨line_of hl, rfl⟩
    · cases e
  | tup xs =>
    cases e; cases rv with
    | tup e1 r1 => rw [empty_eq r1]; exact .inr (.inl ⟨_, SqT.of (r.sub _ _ e1), rfl⟩)
  | lst xs =>
    cases e; cases rv with
    | lst e1 r1 => rw [empty_eq r1]; exact .inl ⟨_, SqL.of (r.sub _ _ e1), rfl⟩
  | vw xs =>
    cases e; cases rv with
    | vw e1 r1 => rw [empty_eq r1]; exact .inl ⟨_, SqL.up r.sub e1, rfl⟩
  | vt xs =>
    cases e; cases rv with
    | vt e1 _ r1 => rw [empty_eq r1]; exact .inr (.inl ⟨_, SqT.up r.sub (vtT e1), rfl⟩)
  | ob _ _ _ => cases e
  | fn _ => cases e
  | ref n =>
    cases rv with
    | @ref _ a en =>
      replace e : (match seqOf h (.ref n) with | some (xs, _) => some (!xs.isEmpty) | none => match dctOf h (.ref n) with | some (false, kvs) => some (!kvs.isEmpty) | _ => none) = some k := e
      cases q : h[n]? with
      | none =>
        have e1 : seqOf h (.ref n) = none := by show (match h[n]? with | some (Cell.lst xs) => some (xs, true) | _ => none) = none; rw [q]
        have e2 : dctOf h (.ref n) = none := by show (match h[n]? with | some (Cell.dct t kvs) => some (t, kvs) | _ => none) = none; rw [q]
        rw [e1, e2] at e; cases e
      | some c =>
        have hc := r.cell n a c en q
        cases c with
        | dead =>
          have e1 : seqOf h (.ref n) = none := by show (match h[n]? with | some (Cell.lst xs) => some (xs, true) | _ => none) = none; rw [q]
          have e2 : dctOf h (.ref n) = none := by show (match h[n]? with | some (Cell.dct t kvs) => some (t, kvs) | _ => none) = none; rw [q]
          rw [e1, e2] at e; cases e
        | obj _ _ =>
          have e1 : seqOf h (.ref n) = none := by show (match h[n]? with | some (Cell.lst xs) => some (xs, true) | _ => none) = none; rw [q]
          have e2 : dctOf h (.ref n) = none := by show (match h[n]? with | some (Cell.dct t kvs) => some (t, kvs) | _ => none) = none; rw [q]
          rw [e1, e2] at e; cases e
        | lst xs =>
          have e1 : seqOf h (.ref n) = some (xs, true) := by show (match h[n]? with | some (Cell.lst xs) => some (xs, true) | _ => none) = _; rw [q]
          rw [e1] at e; cases e
          obtain ⟨_, vs, h2, h3⟩ := hc
          rw [empty_eq h3]
          exact .inl ⟨_, SqL.of h2, rfl⟩
        | dct t kvs =>
          have e1 : seqOf h (.ref n) = none := by show (match h[n]? with | some (Cell.lst xs) => some (xs, true) | _ => none) = none; rw [q]
          have e2 : dctOf h (.ref n) = some (t, kvs) := by show (match h[n]? with | some (Cell.dct t kvs) => some (t, kvs) | _ => none) = _; rw [q]
          rw [e1, e2] at e
          cases t with
          | true => cases e
          | false =>
            cases e
            obtain ⟨_, kv, h2, h3⟩ := hc
            refine .inr (.inr ⟨kv, h2, ?_⟩)
            cases h3 <;> rfl

/-! ### items, slices -/
theorem ixN_at {xs : List D} {vs : List V} (r : RVs K S ι xs vs) {i : Int} {d : D} (e : atI xs i = some d) : ∃ v, atI vs i = some v ∧ RV K S ι d v := by
  unfold atI at e ⊢
  rw [← r.length]
  cases q : ixN xs.length i with
  | none => rw [q] at e; cases e
  | some j => rw [q] at e; exact r.get e
def rIdx (K : PySem.W.Frag) : R2 := fun x y H Q => (∃ a v, x = .ref a ∧ DGet H a y (some v) ∧ Q v H) ∨ rIx K x y H Q
theorem ix_dct {X : Cx} (hu : X.A.units + 1 < cLine) : IxR X (fun x y H Q => ∃ a v, x = .ref a ∧ DGet H a y (some v) ∧ Q v H) := by
  intro value slice pins s σ H x y v u Q I rx ry ⟨a, w, e, g, q⟩ hs
  subst e
  cases rx
  exact tail_any (dict_typeIs I g) PySem.F.slot_dict_getitem.lookup (d_getItem hu I g ry fun w' s' I' rw' => ⟨w, H, I', rw', q⟩) hs
theorem idx_ix {X : Cx} (hu : X.A.units + 1 < cLine) : IxR X (rIdx X.K) := (ix_dct hu).or ix_seq
theorem idx_sound (r : HRel K S ι h H) {d e : D} {x y : V} (rx : RV K S ι d x) (ry : RV K S ι e y) (hp : PostG K mg W S ι H σ (KQ K Q) (idxD d e h)) : rIdx K x y H Q := by
  unfold idxD at hp
  split at hp
  · rename_i t kvs e1
    split at hp
    · rename_i k e2
      split at hp
      · rename_i hk
        obtain ⟨a, o, rfl, g, q⟩ := dct_get r rx ry e1 e2 hk
        split at hp
        · rename_i w e3
          rw [e3] at q
          obtain ⟨v, rfl, rv⟩ := q
          exact .inl ⟨a, v, rfl, g, flat_post r rv hp⟩
        · exact hp.elim
      · exact hp.elim
    · exact hp.elim
  · split at hp
    · cases rx; cases ry
      split at hp
      · rename_i hl
        split at hp
        · rename_i c e3
          exact .inr (.inr (.inr ⟨_, _, c, rfl, rfl, line_of hl, e3, flat_post r (.str _) hp⟩))
        · exact hp.elim
      · exact hp.elim
    · cases ry
      split at hp
      · rename_i xs b e3
        obtain ⟨a, vs, rfl, r1, hl, ht⟩ := seq_ok r rx e3
        split at hp
        · rename_i w e4
          obtain ⟨v, e5, rv⟩ := ixN_at r1 e4
          cases b with
          | true => exact .inr (.inl ⟨a, vs, _, v, rfl, rfl, hl rfl, e5, flat_post r rv hp⟩)
          | false => exact .inr (.inr (.inl ⟨a, vs, _, v, rfl, rfl, ht rfl, e5, flat_post r rv hp⟩))
        · exact hp.elim
      · exact hp.elim
    · exact hp.elim
theorem cut_ok {xs : List D} {vs : List V} (r : RVs K S ι xs vs) (lo hi : Option Int) : RVs K S ι (cutD xs lo hi) (cutV vs lo hi) := by
  unfold cutD cutV
  rw [← r.length]
  exact (r.drop _).take _
def rSl (K : PySem.W.Frag) : V → Option Int → Option Int → Hp → VK → Prop := fun x lo hi H Q => rSlS x lo hi H Q ∨ rSlL K x lo hi H Q ∨ rSlA K x lo hi H Q
theorem sl_all {X : Cx} : SlR X (rSl X.K) := sl_str.or (sl_list.or sl_tupA)
theorem sl_sound {fz : Bool} (r : HRel K S ι h H) {d : D} {x : V} (rx : RV K S ι d x) {lo hi : Option Int} (hp : PostG K mg W S ι H σ (KQ K Q) (sliceD fz d lo hi h)) : rSl K x lo hi H Q := by
  unfold sliceD at hp
  split at hp
  · cases rx
    split at hp
    · rename_i hl
      exact .inl ⟨_, rfl, line_of hl, flat_post r (.str _) hp⟩
    · exact hp.elim
  · split at hp
    · rename_i xs e1
      obtain ⟨a, vs, rfl, r1, hl, ht⟩ := seq_ok r rx e1
      exact .inr (.inl ⟨a, vs, rfl, hl rfl, (newL_post r (cut_ok r1 lo hi) hp).2⟩)
    · rename_i xs e1
      obtain ⟨a, vs, rfl, r1, hl, ht⟩ := seq_ok r rx e1
      split at hp
      · rename_i hw
        rw [r1.length] at hw
        exact .inr (.inr ⟨a, vs, rfl, ht rfl, fun _ => flat_post r rx hp, fun z => absurd hw z⟩)
      · rename_i hw
        rw [r1.length] at hw
        exact .inr (.inr ⟨a, vs, rfl, ht rfl, fun z => absurd z hw, fun _ p hn => tup_post r (cut_ok r1 lo hi) hp hn⟩)
    · exact hp.elim
end
end Ev
/-! Ev, part E: built-ins, what loops walk, loops. -/
namespace Ev
open PySem PySem.Spec PyProof.Rows L2

section
variable {K : PySem.W.Frag} {S S' : Hp} {ι ι' : List Addr} {H H' : Hp} {h h' : Hs} {ρ : Env} {σ : L2.St} {mg : Str → Option Value} {W : WX} {Q : VK}

/-! ### built-ins by values -/
theorem ints_of : ∀ {ds : List D} {vs : List V} {ns : List Int}, RVs K S ι ds vs → D.ints ds = some ns → vs = ns.map V.int
  | _, _, _, .nil, e => by cases e; rfl
  | d :: ds, _, ns, .cons r t, e => by
    cases d with
    | int i =>
      replace e : (D.ints ds).map (i :: ·) = some ns := e
      cases q : D.ints ds with
      | none => rw [q] at e; cases e
      | some ms => rw [q] at e; cases e; cases r; rw [ints_of t q]; rfl
    | _ => cases e
theorem bools_of : ∀ {ds : List D} {vs : List V} {ns : List Bool}, RVs K S ι ds vs → D.bools ds = some ns → vs = ns.map V.bl
  | _, _, _, .nil, e => by cases e; rfl
  | d :: ds, _, ns, .cons r t, e => by
    cases d with
    | bl i =>
      replace e : (D.bools ds).map (i :: ·) = some ns := e
      cases q : D.bools ds with
      | none => rw [q] at e; cases e
      | some ms => rw [q] at e; cases e; cases r; rw [bools_of t q]; rfl
    | _ => cases e
theorem insI_perm (x : Int) : ∀ l : List Int, (insI x l).Perm (x :: l)
  | [] => .refl _
  | y :: ys => by
    unfold insI
    split
    · exact .refl _
    · exact ((insI_perm x ys).cons y).trans (.swap x y ys)
theorem sortI_perm : ∀ l : List Int, (sortI l).Perm l
  | [] => .refl _
  | x :: xs => (insI_perm x _).trans ((sortI_perm xs).cons x)
theorem insI_sorted (x : Int) : ∀ l : List Int, l.Pairwise (· ≤ ·) → (insI x l).Pairwise (· ≤ ·)
  | [], _ => by unfold insI; simp
  | y :: ys, hp => by
    unfold insI
    rw [List.pairwise_cons] at hp
    split
    · rename_i hxy
      rw [List.pairwise_cons]
      refine ⟨fun z hz => ?_, List.pairwise_cons.mpr hp⟩
      rcases List.mem_cons.mp hz with e | hz
      · subst e; exact hxy
      · exact Int.le_trans hxy (hp.1 z hz)
    · rename_i hxy
      rw [List.pairwise_cons]
      refine ⟨fun z hz => ?_, insI_sorted x ys hp.2⟩
      rcases List.mem_cons.mp ((insI_perm x ys).mem_iff.mp hz) with e | hz
      · subst e; omega
      · exact hp.1 z hz
theorem sortI_sorted : ∀ l : List Int, (sortI l).Pairwise (· ≤ ·)
  | [] => .nil
  | x :: xs => insI_sorted x _ (sortI_sorted xs)
theorem sorted_uniq : ∀ {l m : List Int}, l.Pairwise (· ≤ ·) → m.Pairwise (· ≤ ·) → l.Perm m → l = m
  | [], m, _, _, p => (List.Perm.eq_nil p.symm).symm
  | x :: l, [], _, _, p => absurd p.length_eq (by simp)
  | x :: l, y :: m, h1, h2, p => by
    have a1 := List.pairwise_cons.mp h1
    have a2 := List.pairwise_cons.mp h2
    have e : x = y := by
      have hx : x ∈ y :: m := p.mem_iff.mp List.mem_cons_self
      have hy : y ∈ x :: l := p.mem_iff.mpr List.mem_cons_self
      rcases List.mem_cons.mp hx with e | hx
      · exact e
      · rcases List.mem_cons.mp hy with e | hy
        · exact e.symm
        · exact Int.le_antisymm (a1.1 y hy) (a2.1 x hx)
    subst e
    rw [sorted_uniq a1.2 a2.2 (List.Perm.cons_inv p)]

/-- a built-in: a function (true) or a class, by the name under which the program knows it -/
def Prim.val : Prim → Value
  | .len => .builtin "len" | .tupleOf => .type "tuple" | .listOf => .type "list" | .abs => .builtin "abs" | .intOf => .type "int" | .sorted => .builtin "sorted"
  | .isinst _ => .builtin "isinstance" | .max2 => .builtin "max" | .min2 => .builtin "min" | .all => .builtin "all" | .any => .builtin "any" | .sum => .builtin "sum"
  | .str => .type "str" | .repr => .builtin "repr" | .max1 => .builtin "max" | .min1 => .builtin "min"
def Prim.nm : Prim → Str
  | .len => "len" | .tupleOf => "tuple" | .listOf => "list" | .abs => "abs" | .intOf => "int" | .sorted => "sorted"
  | .isinst _ => "isinstance" | .max2 => "max" | .min2 => "min" | .all => "all" | .any => "any" | .sum => "sum"
  | .str => "str" | .repr => "repr" | .max1 => "max" | .min1 => "min"
def Prim.isTy : Prim → Option String
  | .tupleOf => some "tuple" | .listOf => some "list" | .intOf => some "int" | .str => some "str"
  | _ => none
def rLenD : List V → Hp → VK → Prop := fun xs H Q => ∃ (a : Addr) (kvs : List (Key × V)), xs = [.ref a] ∧ H a = some (.dK kvs) ∧ Q (.int kvs.length) H
/-- all that is asked of the arguments of a built-in -/
def rPrim (K : PySem.W.Frag) : Prim → List V → Hp → VK → Prop
  | .len => fun xs H Q => ((∃ p ys, xs = [.ref p] ∧ (SqL K H p ys ∨ SqT K H p ys) ∧ Q (.int ys.length) H) ∨ (∃ z, xs = [.str z] ∧ z.length ≤ sizeLine ∧ Q (.int z.length) H)) ∨ rLenD xs H Q
  | .tupleOf => fun xs H Q => ∃ p ys, xs = [.ref p] ∧ ((SqL K H p ys ∧ ∀ l, H l = none → Q (.ref l) (upd H l (.tup ys))) ∨ (SqT K H p ys ∧ Q (.ref p) H))
  | .listOf => fun xs H Q => ∃ p ys, xs = [.ref p] ∧ (SqL K H p ys ∨ SqT K H p ys) ∧ ∀ l, H l = none → Q (.ref l) (upd H l (.lst ys))
  | .abs => fun xs H Q => ∃ i, xs = [.int i] ∧ Q (.int (if i < 0 then -i else i)) H
  | .intOf => fun xs H Q => (∃ i, xs = [.int i] ∧ Q (.int i) H) ∨ ∃ k, xs = [.bl k] ∧ Q (.int (if k then 1 else 0)) H
  | .sorted => fun vs H Q => ∃ (a : Addr) (ns : List Int), vs = [V.ref a] ∧ (SqL K H a (ns.map V.int) ∨ SqT K H a (ns.map V.int)) ∧ ∀ (ns' : List Int) (p : Addr), ns'.Perm ns → ns'.Pairwise (· ≤ ·) → H p = none → Q (.ref p) (upd H p (.lst (ns'.map V.int)))
  | .isinst _ => rIsi K
  | .max2 => fun xs H Q => ∃ i j, xs = [.int i, .int j] ∧ Q (.int (if j > i then j else i)) H
  | .min2 => fun xs H Q => ∃ i j, xs = [.int i, .int j] ∧ Q (.int (if j < i then j else i)) H
  | .all => rAll K
  | .any => rAny K
  | .sum => rSum K
  | .str => fun xs H Q => ∃ i, xs = [.int i] ∧ i.natAbs.log2 < 1920 ∧ Q (.str (toString i)) H
  | .repr => rRepr K
  | .max1 => fun xs H Q => rBest K (fun x y => decide (x > y)) xs H Q ∨ rBestT K (fun x y => decide (x > y)) xs H Q
  | .min1 => fun xs H Q => rBest K (fun x y => decide (x < y)) xs H Q ∨ rBestT K (fun x y => decide (x < y)) xs H Q
end

section
variable {X : Cx}
theorem call_lenDct : CallR X (.builtin "len") rLenD := by
  intro pins s σ H xs us Q I r h
  obtain ⟨a, kvs, rfl, e, q⟩ := h
  obtain ⟨u, rfl, rx⟩ := vals1 r
  cases rx
  exact d_len I (.inl e) fun t s' I' => ⟨.int kvs.length, H, I', ⟨t, rfl⟩, q⟩
theorem prim_call (hc : X.calm = true) (gd : X.A.guards = some []) (un : X.A.units + 65 < cLine) (p : Prim) : CallR X p.val (rPrim X.K p) := by
  cases p with
  | len => exact (call_len_seq.or call_len_str).or call_lenDct
  | tupleOf => exact call_tuple_of
  | listOf => exact call_list_of
  | abs => exact call_abs
  | intOf => exact call_int1
  | sorted =>
    intro pins s σ H xs us Q I r h
    obtain ⟨a, ns, e, hs | hs, q⟩ := h
    · exact cr_sortedI pins s σ H xs us Q I r ⟨a, ns, e, hs, q⟩
    · exact cr_sortedTup pins s σ H xs us Q I r ⟨a, ns, e, hs, q⟩
  | isinst t => exact call_isi
  | max2 => exact call_max2 hc
  | min2 => exact call_min2 hc
  | all => exact cr_all hc
  | any => exact cr_any hc
  | sum => exact cr_sum hc
  | str => exact call_str_int
  | repr => exact call_reprD gd un
  | max1 => exact (cr_max1 hc).or (cr_max1T hc)
  | min1 => exact (cr_min1 hc).or (cr_min1T hc)
end

section
variable {K : PySem.W.Frag} {S S' : Hp} {ι ι' : List Addr} {H H' : Hp} {h h' : Hs} {ρ : Env} {σ : L2.St} {mg : Str → Option Value} {W : WX} {Q : VK}
theorem RVs.one {d : D} {vs : List V} (r : RVs K S ι [d] vs) : ∃ v, vs = [v] ∧ RV K S ι d v := by
  cases r with
  | cons r t => cases t; exact ⟨_, rfl, r⟩
theorem RVs.two {d e : D} {vs : List V} (r : RVs K S ι [d, e] vs) : ∃ v u, vs = [v, u] ∧ RV K S ι d v ∧ RV K S ι e u := by
  cases r with
  | cons r t => cases t with
    | cons r2 t => cases t; exact ⟨_, _, rfl, r, r2⟩
theorem dct_at (r : HRel K S ι h H) {d : D} {v : V} (rv : RV K S ι d v) {kvs : List (DKey × D)} (e : dctOf h d = some (false, kvs)) :
    ∃ a kv, v = .ref a ∧ H a = some (.dK kv) ∧ Paired (fun (p : DKey × D) (q : Key × V) => p.1 = .inl q.1 ∧ RV K S ι p.2 q.2) kvs kv := by
  cases d with
  | ref n =>
    cases rv with
    | @ref _ a en =>
      replace e : (match h[n]? with | some (Cell.dct t kvs) => some (t, kvs) | _ => none) = some (false, kvs) := e
      cases q : h[n]? with
      | none => rw [q] at e; cases e
      | some c =>
        rw [q] at e
        cases c with
        | dead => cases e
        | obj _ _ => cases e
        | lst _ => cases e
        | dct t' kvs' =>
          cases e
          obtain ⟨_, kv, h2, h3⟩ := r.cell n a _ en q
          exact ⟨a, kv, rfl, h2, h3⟩
  | _ => cases e
theorem isa_kit {a t : String} {b : Bool} (ha : a = "NoneType" ∨ a = "bool" ∨ a = "int" ∨ a = "str" ∨ a = "tuple" ∨ a = "list") (e : isaT a t = some b) : kitB a t = some b := by
  unfold isaT at e
  split at e
  · rename_i ht
    rcases ha with rfl | rfl | rfl | rfl | rfl | rfl <;> rcases ht with rfl | rfl | rfl | rfl | rfl <;> (cases e; decide +kernel)
  · cases e
theorem ty_ok (r : HRel K S ι h H) {d : D} {v : V} (rv : RV K S ι d v) {a : String} (e : tyName h d = some a) :
    TyX K H v (.type a) ∧ (a = "NoneType" ∨ a = "bool" ∨ a = "int" ∨ a = "str" ∨ a = "tuple" ∨ a = "list") := by
  cases rv with
  | non => cases e; exact ⟨.base .non, by simp⟩
  | bl b => cases e; exact ⟨.base (.bl b), by simp⟩
  | int i => cases e; exact ⟨.base (.int i), by simp⟩
  | str s => cases e; exact ⟨.base (.str s), by simp⟩
  | tup e1 _ => cases e; exact ⟨.base (.tup (r.sub _ _ e1)), by simp⟩
  | lst e1 _ => cases e; exact ⟨.base (.lst (r.sub _ _ e1)), by simp⟩
  | vw _ _ => cases e
  | vt _ _ _ => cases e
  | ob _ _ _ => cases e
  | fn _ => cases e
  | @ref n p en =>
    replace e : (match h[n]? with | some (Cell.lst _) => some "list" | _ => none) = some a := e
    cases q : h[n]? with
    | none => rw [q] at e; cases e
    | some c =>
      rw [q] at e
      cases c with
      | dead => cases e
      | obj _ _ => cases e
      | dct _ _ => cases e
      | lst xs =>
        cases e
        obtain ⟨_, vs, h2, h3⟩ := r.cell n p _ en q
        exact ⟨.base (.lst h2), by simp⟩
theorem prim_sound {p : Prim} {fz : Bool} (hp' : ∀ t, p ≠ .isinst t) (r : HRel K S ι h H) {ds : List D} {vs : List V} (rs : RVs K S ι ds vs) (hp : PostG K mg W S ι H σ (KQ K Q) (primD p fz ds h)) : rPrim K p vs H Q := by
  unfold primD at hp
  split at hp
  · obtain ⟨v, rfl, rv⟩ := rs.one
    split at hp
    · split at hp
      · rename_i hl; cases rv
        exact .inl (.inr ⟨_, rfl, line_of hl, flat_post r (.int _) hp⟩)
      · exact hp.elim
    · split at hp
      · rename_i xs b e1
        obtain ⟨a, ws, rfl, r1, hl, ht⟩ := seq_ok r rv e1
        have q := flat_post r (.int _) hp
        rw [r1.length] at q
        cases b with
        | true => exact .inl (.inl ⟨a, ws, rfl, .inl (hl rfl), q⟩)
        | false => exact .inl (.inl ⟨a, ws, rfl, .inr (ht rfl), q⟩)
      · split at hp
        · rename_i kvs e2
          obtain ⟨a, kv, rfl, h2, h3⟩ := dct_at r rv e2
          have q := flat_post r (.int _) hp
          rw [Paired.length h3] at q
          exact .inr ⟨a, kv, rfl, h2, q⟩
        · exact hp.elim
  · obtain ⟨v, rfl, rv⟩ := rs.one
    split at hp
    · rename_i xs e1
      obtain ⟨a, ws, rfl, r1, hl, ht⟩ := seq_ok r rv e1
      exact ⟨a, ws, rfl, .inl ⟨hl rfl, fun l hn => tup_post r r1 hp hn⟩⟩
    · rename_i xs e1
      obtain ⟨a, ws, rfl, r1, hl, ht⟩ := seq_ok r rv e1
      exact ⟨a, ws, rfl, .inr ⟨ht rfl, flat_post r rv hp⟩⟩
    · exact hp.elim
  · obtain ⟨v, rfl, rv⟩ := rs.one
    split at hp
    · rename_i xs b e1
      obtain ⟨a, ws, rfl, r1, hl, ht⟩ := seq_ok r rv e1
      refine ⟨a, ws, rfl, ?_, (newL_post r r1 hp).2⟩
      cases b with
      | true => exact .inl (hl rfl)
      | false => exact .inr (ht rfl)
    · exact hp.elim
  · obtain ⟨v, rfl, rv⟩ := rs.one
    cases rv
    exact ⟨_, rfl, flat_post r (.int _) hp⟩
  · obtain ⟨v, rfl, rv⟩ := rs.one
    cases rv
    exact .inl ⟨_, rfl, flat_post r (.int _) hp⟩
  · obtain ⟨v, rfl, rv⟩ := rs.one
    cases rv
    exact .inr ⟨_, rfl, flat_post r (.int _) hp⟩
  · obtain ⟨v, u, rfl, rv, ru⟩ := rs.two
    cases rv; cases ru
    exact ⟨_, _, rfl, flat_post r (.int _) hp⟩
  · obtain ⟨v, u, rfl, rv, ru⟩ := rs.two
    cases rv; cases ru
    exact ⟨_, _, rfl, flat_post r (.int _) hp⟩
  · obtain ⟨v, rfl, rv⟩ := rs.one
    split at hp
    · rename_i xs b e1
      split at hp
      · rename_i ns e2
        obtain ⟨a, ws, rfl, r1, hl, ht⟩ := seq_ok r rv e1
        have e3 := ints_of r1 e2
        subst e3
        refine ⟨a, ns, rfl, ?_, fun ns' p' k1 k2 hn => ?_⟩
        · cases b with
          | true => exact .inl (hl rfl)
          | false => exact .inr (ht rfl)
        · have e4 : ns' = sortI ns := sorted_uniq k2 (sortI_sorted ns) (k1.trans (sortI_perm ns).symm)
          subst e4
          exact (newL_post r RVs.ints hp).2 p' hn
      · exact hp.elim
    · exact hp.elim
  · obtain ⟨v, rfl, rv⟩ := rs.one
    split at hp
    · rename_i xs e1
      split at hp
      · rename_i bs e2
        obtain ⟨a, ws, rfl, r1, hl, ht⟩ := seq_ok r rv e1
        have e3 := bools_of r1 e2
        subst e3
        exact ⟨a, bs, rfl, hl rfl, flat_post r (.bl _) hp⟩
      · exact hp.elim
    · exact hp.elim
  · obtain ⟨v, rfl, rv⟩ := rs.one
    split at hp
    · rename_i xs e1
      split at hp
      · rename_i bs e2
        obtain ⟨a, ws, rfl, r1, hl, ht⟩ := seq_ok r rv e1
        have e3 := bools_of r1 e2
        subst e3
        exact ⟨a, bs, rfl, hl rfl, flat_post r (.bl _) hp⟩
      · exact hp.elim
    · exact hp.elim
  · obtain ⟨v, rfl, rv⟩ := rs.one
    split at hp
    · rename_i xs e1
      split at hp
      · rename_i bs e2
        obtain ⟨a, ws, rfl, r1, hl, ht⟩ := seq_ok r rv e1
        have e3 := ints_of r1 e2
        subst e3
        exact ⟨a, bs, rfl, hl rfl, flat_post r (.int _) hp⟩
      · exact hp.elim
    · exact hp.elim
  · exact absurd rfl (hp' _)
  · obtain ⟨v, rfl, rv⟩ := rs.one
    cases rv
    split at hp
    · rename_i hl
      exact ⟨_, rfl, hl, flat_post r (.str _) hp⟩
    · exact hp.elim
  · obtain ⟨v, rfl, rv⟩ := rs.one
    split at hp
    · rename_i x e1
      split at hp
      · rename_i hl
        exact ⟨v, x, rfl, pyH_ok r rv e1, hl.1, hl.2.1, hl.2.2.1, Nat.le_trans hl.2.2.2 LN_le, flat_post r (.str _) hp⟩
      · exact hp.elim
    · exact hp.elim
  · obtain ⟨v, rfl, rv⟩ := rs.one
    split at hp
    · rename_i xs bb e1
      split at hp
      · rename_i n ns e2
        obtain ⟨a, ws, rfl, r1, hl, ht⟩ := seq_ok r rv e1
        have e3 := ints_of r1 e2
        subst e3
        cases bb with
        | true => exact .inl ⟨a, n, ns, rfl, hl rfl, flat_post r (.int _) hp⟩
        | false => exact .inr ⟨a, n, ns, rfl, ht rfl, flat_post r (.int _) hp⟩
      · exact hp.elim
    · exact hp.elim
  · obtain ⟨v, rfl, rv⟩ := rs.one
    split at hp
    · rename_i xs bb e1
      split at hp
      · rename_i n ns e2
        obtain ⟨a, ws, rfl, r1, hl, ht⟩ := seq_ok r rv e1
        have e3 := ints_of r1 e2
        subst e3
        cases bb with
        | true => exact .inl ⟨a, n, ns, rfl, hl rfl, flat_post r (.int _) hp⟩
        | false => exact .inr ⟨a, n, ns, rfl, ht rfl, flat_post r (.int _) hp⟩
      · exact hp.elim
    · exact hp.elim
  · exact hp.elim
theorem isinst_sound {t : String} {fz : Bool} (r : HRel K S ι h H) {d : D} {v : V} (rv : RV K S ι d v) (hp : PostG K mg W S ι H σ (KQ K Q) (primD (.isinst t) fz [d] h)) : rIsi K [v, .ty t] H Q := by
  replace hp : PostG K mg W S ι H σ (KQ K Q) (match typeIs h d t with | some b => R.ok (.bl b) h | none => R.stuck) := hp
  cases e : typeIs h d t with
  | none => rw [e] at hp; exact hp.elim
  | some b =>
    rw [e] at hp
    unfold typeIs at e
    cases e1 : tyName h d with
    | none => rw [e1] at e; cases e
    | some a =>
      rw [e1] at e
      obtain ⟨k1, k2⟩ := ty_ok r rv e1
      exact ⟨v, .ty t, .type a, .type t, b, rfl, .ty t, k1, kit_ty (isa_kit k2 e), flat_post r (.bl _) hp⟩

/-! ### what a loop walks -/
/-- the walked thing J yields these items, whatever the heap has become -/
def Yields (K : PySem.W.Frag) (J : It) (xs : List D) (S0 : Hp) (ι0 : List Addr) : Prop :=
  ∀ (i : Nat) (S : Hp) (ι : List Addr) (h : Hs) (H : Hp), Sub S0 S → (∀ (n : Nat) (a : Addr), ι0[n]? = some a → ι[n]? = some a) → HRel K S ι h H →
    (xs.length ≤ i → J.stop i H) ∧ ∀ d, xs[i]? = some d → J.go i H ∧ ∀ x H', J.yld i H x H' → ∃ S', HRel K S' ι h H' ∧ Ext S ι H S' ι H' ∧ RV K S' ι d x
def SI (K : PySem.W.Frag) (mg : Str → Option Value) (W : WX) (wi : TI) (di : Env → Hs → R (List D)) : Prop :=
  ∀ ρ h S ι σ H R', HRel K S ι h H → ERel K S ι ρ σ → PostG K mg W S ι H σ (fun xs _ S' ι' H' => ∀ J, Yields K J xs S' ι' → R' J H') (di ρ h) → wi σ H R'

theorem yields_list {a : Addr} {xs : List D} {vs : List V} (e : SqL K S a vs) (r : RVs K S ι xs vs) : Yields K (Itl K a) xs S ι := by
  intro i S1 ι1 h1 H1 hs hi hr
  have e1 : SqL K H1 a vs := SqL.up hr.sub (SqL.up hs e)
  refine ⟨fun z => ⟨vs, e1, by rw [← r.length]; exact z⟩, fun d ed => ?_⟩
  obtain ⟨v, ev, rv⟩ := r.get ed
  refine ⟨⟨vs, v, e1, ev⟩, fun x H' y => ?_⟩
  obtain ⟨rfl, y⟩ := y
  have := y vs e1
  rw [ev] at this; cases this
  exact ⟨S1, hr, Ext.refl, rv.up hs hi⟩
theorem yields_tup {a : Addr} {xs : List D} {vs : List V} (e : SqT K S a vs) (r : RVs K S ι xs vs) : Yields K (Itt K a) xs S ι := by
  intro i S1 ι1 h1 H1 hs hi hr
  have e1 : SqT K H1 a vs := SqT.up hr.sub (SqT.up hs e)
  refine ⟨fun z => ⟨vs, e1, by rw [← r.length]; exact z⟩, fun d ed => ?_⟩
  obtain ⟨v, ev, rv⟩ := r.get ed
  refine ⟨⟨vs, v, e1, ev⟩, fun x H' y => ?_⟩
  obtain ⟨rfl, y⟩ := y
  have := y vs e1
  rw [ev] at this; cases this
  exact ⟨S1, hr, Ext.refl, rv.up hs hi⟩
theorem enum_at (xs : List D) (i : Nat) : ((List.range xs.length).zipWith (fun k x => D.tup [.int (k : Nat), x]) xs)[i]? = (xs[i]?).map fun x => D.tup [.int (i : Nat), x] := by
  rw [List.getElem?_zipWith]
  by_cases k : i < xs.length
  · rw [List.getElem?_range k, List.getElem?_eq_getElem k]; rfl
  · rw [List.getElem?_eq_none (by simpa using k), List.getElem?_eq_none (l := xs) (by omega)]; rfl
theorem yields_enum {a : Addr} {xs : List D} {vs : List V} (e : SqL K S a vs) (r : RVs K S ι xs vs) : Yields K (Ite K a) ((List.range xs.length).zipWith (fun k x => D.tup [.int (k : Nat), x]) xs) S ι := by
  intro i S1 ι1 h1 H1 hs hi hr
  have e1 : SqL K H1 a vs := SqL.up hr.sub (SqL.up hs e)
  refine ⟨fun z => ⟨vs, e1, by rw [← r.length]; simpa using z⟩, fun d ed => ?_⟩
  rw [enum_at] at ed
  cases q : xs[i]? with
  | none => rw [q] at ed; cases ed
  | some x =>
    rw [q] at ed; cases ed
    obtain ⟨v, ev, rv⟩ := r.get q
    refine ⟨⟨vs, v, e1, ev⟩, fun y H' yl => ?_⟩
    obtain ⟨T, x', rfl, hT, rfl, y⟩ := yl
    have := y vs e1
    rw [ev] at this; cases this
    have ex := Ext.fz (o := .tup [.int (i : Nat), v]) hr hT
    exact ⟨_, hr.fz hT, ex, .tup upd_same (.cons (.int _) (.cons ((rv.up hs hi).ext ex) .nil))⟩
theorem yields_enumT {a : Addr} {xs : List D} {vs : List V} (e : SqT K S a vs) (r : RVs K S ι xs vs) : Yields K (EnT.IteT K a) ((List.range xs.length).zipWith (fun k x => D.tup [.int (k : Nat), x]) xs) S ι := by
  intro i S1 ι1 h1 H1 hs hi hr
  have e1 : SqT K H1 a vs := SqT.up hr.sub (SqT.up hs e)
  refine ⟨fun z => ⟨vs, e1, by rw [← r.length]; simpa using z⟩, fun d ed => ?_⟩
  rw [enum_at] at ed
  cases q : xs[i]? with
  | none => rw [q] at ed; cases ed
  | some x =>
    rw [q] at ed; cases ed
    obtain ⟨v, ev, rv⟩ := r.get q
    refine ⟨⟨vs, v, e1, ev⟩, fun y H' yl => ?_⟩
    obtain ⟨T, x', rfl, hT, rfl, y⟩ := yl
    have := y vs e1
    rw [ev] at this; cases this
    have ex := Ext.fz (o := .tup [.int (i : Nat), v]) hr hT
    exact ⟨_, hr.fz hT, ex, .tup upd_same (.cons (.int _) (.cons ((rv.up hs hi).ext ex) .nil))⟩
theorem zip_at (xs ys : List D) (i : Nat) : (xs.zipWith (fun x y => D.tup [x, y]) ys)[i]? = match xs[i]?, ys[i]? with | some x, some y => some (D.tup [x, y]) | _, _ => none := by
  rw [List.getElem?_zipWith]; cases xs[i]? <;> cases ys[i]? <;> rfl
theorem yields_zipL {a b : Addr} {xs ys : List D} {vs us : List V} (e : SqL K S a vs) (r : RVs K S ι xs vs) (f : SqL K S b us) (t : RVs K S ι ys us) : Yields K (Itz K a b) (xs.zipWith (fun x y => D.tup [x, y]) ys) S ι := by
  intro i S1 ι1 h1 H1 hs hi hr
  have e1 : SqL K H1 a vs := SqL.up hr.sub (SqL.up hs e)
  have f1 : SqL K H1 b us := SqL.up hr.sub (SqL.up hs f)
  refine ⟨fun z => ⟨vs, us, e1, f1, ?_⟩, fun d ed => ?_⟩
  · rw [List.length_zipWith] at z
    rw [← r.length, ← t.length]
    omega
  · rw [zip_at] at ed
    cases q : xs[i]? with
    | none => rw [q] at ed; cases ed
    | some x =>
      cases q2 : ys[i]? with
      | none => rw [q, q2] at ed; cases ed
      | some y =>
        rw [q, q2] at ed; cases ed
        obtain ⟨v, ev, rv⟩ := r.get q
        obtain ⟨u, eu, ru⟩ := t.get q2
        refine ⟨⟨vs, us, v, u, e1, f1, ev, eu⟩, fun w H' yl => ?_⟩
        obtain ⟨T, x', y', rfl, hT, rfl, k1, k2⟩ := yl
        have z1 := k1 vs e1
        rw [ev] at z1; cases z1
        have z2 := k2 us f1
        rw [eu] at z2; cases z2
        have ex := Ext.fz (o := .tup [v, u]) hr hT
        exact ⟨_, hr.fz hT, ex, .tup upd_same (.cons ((rv.up hs hi).ext ex) (.cons ((ru.up hs hi).ext ex) .nil))⟩
theorem yields_zipT {a b : Addr} {xs ys : List D} {vs us : List V} (e : SqT K S a vs) (r : RVs K S ι xs vs) (f : SqT K S b us) (t : RVs K S ι ys us) : Yields K (RZ.ItzT K a b) (xs.zipWith (fun x y => D.tup [x, y]) ys) S ι := by
  intro i S1 ι1 h1 H1 hs hi hr
  have e1 : SqT K H1 a vs := SqT.up hr.sub (SqT.up hs e)
  have f1 : SqT K H1 b us := SqT.up hr.sub (SqT.up hs f)
  refine ⟨fun z => ⟨vs, us, e1, f1, ?_⟩, fun d ed => ?_⟩
  · rw [List.length_zipWith] at z
    rw [← r.length, ← t.length]
    omega
  · rw [zip_at] at ed
    cases q : xs[i]? with
    | none => rw [q] at ed; cases ed
    | some x =>
      cases q2 : ys[i]? with
      | none => rw [q, q2] at ed; cases ed
      | some y =>
        rw [q, q2] at ed; cases ed
        obtain ⟨v, ev, rv⟩ := r.get q
        obtain ⟨u, eu, ru⟩ := t.get q2
        refine ⟨⟨vs, us, v, u, e1, f1, ev, eu⟩, fun w H' yl => ?_⟩
        obtain ⟨T, x', y', rfl, hT, rfl, k1, k2⟩ := yl
        have z1 := k1 vs e1
        rw [ev] at z1; cases z1
        have z2 := k2 us f1
        rw [eu] at z2; cases z2
        have ex := Ext.fz (o := .tup [v, u]) hr hT
        exact ⟨_, hr.fz hT, ex, .tup upd_same (.cons ((rv.up hs hi).ext ex) (.cons ((ru.up hs hi).ext ex) .nil))⟩
theorem yields_range (lo : Int) (n : Nat) : Yields K (Itr lo n) ((List.range n).map fun k => .int (lo + (k : Nat))) S ι := by
  intro i S1 ι1 h1 H1 hs hi r
  refine ⟨fun z => by rw [List.length_map, List.length_range] at z; exact z, fun d e => ?_⟩
  rw [List.getElem?_map] at e
  have hl : i < n := by
    by_cases k : i < n
    · exact k
    · rw [List.getElem?_eq_none (by simpa using k)] at e; cases e
  rw [List.getElem?_range hl] at e
  cases e
  exact ⟨hl, fun x H' y => by obtain ⟨rfl, rfl⟩ := y; exact ⟨S1, r, Ext.refl, .int _⟩⟩
theorem yields_down (lo : Int) (n : Nat) : Yields K (Itc lo (-1) n) ((List.range n).map fun k => .int (lo - (k : Nat))) S ι := by
  intro i S1 ι1 h1 H1 hs hi r
  refine ⟨fun z => by rw [List.length_map, List.length_range] at z; exact z, fun d e => ?_⟩
  rw [List.getElem?_map] at e
  have hl : i < n := by
    by_cases k : i < n
    · exact k
    · rw [List.getElem?_eq_none (by simpa using k)] at e; cases e
  rw [List.getElem?_range hl] at e
  cases e
  refine ⟨hl, fun x H' y => ?_⟩
  obtain ⟨rfl, rfl⟩ := y
  have : lo + (i : Nat) * (-1 : Int) = lo - (i : Nat) := by omega
  rw [this]
  exact ⟨S1, r, Ext.refl, .int _⟩

/-! ### for, while -/
theorem for_sound {g : TG} {dg : D → Env → Hs → Out} {tb : TS} {db : Env → Hs → Out} (hg : SG K mg W g dg) (hb : SS K mg W tb db) {xs : List D} {J : It} (hJ : Yields K J xs S ι) {D' : Ends}
    (r : HRel K S ι h H) (re : ERel K S ι ρ σ) (hp : Post K mg W D' S ι H (forD dg db xs ρ h)) :
    ∃ W' : Nat → Nat → L2.St → Hp → Prop, (∃ m, W' 0 m σ H) ∧ ∀ i m σ H, W' i m σ H →
      (J.stop i H ∧ D'.nx σ H) ∨ (J.go i H ∧ ∃ N : L2.St → Hp → Prop, (∀ σ' H', N σ' H' → ∃ m', m' < m ∧ W' (i + 1) m' σ' H') ∧ ∀ x H', J.yld i H x H' → g x σ H' fun σ2 H2 => tb { D' with nx := N, ct := N, bk := D'.nx } σ2 H2) := by
  refine ⟨fun i m σ' H' => ∃ ρ' h' S' ι', i ≤ xs.length ∧ m = xs.length - i ∧ HRel K S' ι' h' H' ∧ ERel K S' ι' ρ' σ' ∧ Ext S ι H S' ι' H' ∧ Post K mg W D' S' ι' H' (forD dg db (xs.drop i) ρ' h'),
    ⟨xs.length, ρ, h, S, ι, Nat.zero_le _, rfl, r, re, Ext.refl, hp⟩, ?_⟩
  rintro i m σ1 H1 ⟨ρ1, h1, S1, ι1, hi, rfl, r1, re1, ex1, p1⟩
  obtain ⟨hstop, hgo⟩ := hJ i S1 ι1 h1 H1 ex1.sub ex1.pre r1
  by_cases hl : i < xs.length
  · refine .inr ?_
    have hd : xs.drop i = xs[i] :: xs.drop (i + 1) := List.drop_eq_getElem_cons hl
    obtain ⟨go, hy⟩ := hgo xs[i] (List.getElem?_eq_getElem hl)
    refine ⟨go, fun σ' H' => ∃ ρ' h' S' ι', i + 1 ≤ xs.length ∧ xs.length - (i + 1) = xs.length - (i + 1) ∧ HRel K S' ι' h' H' ∧ ERel K S' ι' ρ' σ' ∧ Ext S ι H S' ι' H' ∧ Post K mg W D' S' ι' H' (forD dg db (xs.drop (i + 1)) ρ' h'),
      fun σ' H' hn => ⟨xs.length - (i + 1), by omega, hn⟩, fun x H2 yl => ?_⟩
    obtain ⟨S2, r2, ex2, rv⟩ := hy x H2 yl
    rw [hd] at p1
    replace p1 := Post.ext p1 ex2
    refine hg xs[i] x ρ1 h1 S2 ι1 σ1 H2 _ r2 (re1.ext ex2) rv ?_
    unfold forD at p1
    cases e : dg xs[i] ρ1 h1 with
    | nx ρ3 h3 =>
      rw [e] at p1
      refine fun S3 ι3 σ3 H3 r3 re3 ex3 => hb ρ3 h3 S3 ι3 σ3 H3 _ r3 re3 ?_
      replace p1 := Post.ext (show Post K mg W D' S2 ι1 H2 _ from p1) ex3
      dsimp only at p1
      have ex13 := (ex1.trans ex2).trans ex3
      cases eb : db ρ3 h3 with
      | nx ρ4 h4 =>
        rw [eb] at p1
        exact fun S4 ι4 σ4 H4 r4 re4 ex4 => ⟨ρ4, h4, S4, ι4, hl, rfl, r4, re4, ex13.trans ex4, Post.ext p1 ex4⟩
      | cnt ρ4 h4 =>
        rw [eb] at p1
        exact fun S4 ι4 σ4 H4 r4 re4 ex4 => ⟨ρ4, h4, S4, ι4, hl, rfl, r4, re4, ex13.trans ex4, Post.ext p1 ex4⟩
      | brk ρ4 h4 => rw [eb] at p1; exact p1
      | ret d h4 => rw [eb] at p1; exact p1
      | exc c p ρ4 h4 => rw [eb] at p1; exact p1
      | stuck => rw [eb] at p1; exact p1
    | ret d h3 => rw [e] at p1; exact p1.elim
    | brk ρ3 h3 => rw [e] at p1; exact p1.elim
    | cnt ρ3 h3 => rw [e] at p1; exact p1.elim
    | exc c p ρ3 h3 => rw [e] at p1; exact p1.elim
    | stuck => rw [e] at p1; exact p1.elim
  · have e : i = xs.length := by omega
    subst e
    refine .inl ⟨hstop (Nat.le_refl _), ?_⟩
    rw [List.drop_length] at p1
    exact p1 S1 ι1 σ1 H1 r1 re1 Ext.refl
theorem while_sound {tc : TT} {dc : Env → Hs → R Bool} {tb : TS} {db : Env → Hs → Out} (hc : ST K mg W tc dc) (hb : SS K mg W tb db) {F : Nat} {D' : Ends}
    (r : HRel K S ι h H) (re : ERel K S ι ρ σ) (hp : Post K mg W D' S ι H (whileD dc db F ρ h)) : tWhile tc tb D' σ H := by
  refine ⟨fun m σ' H' => ∃ ρ' h' S' ι', HRel K S' ι' h' H' ∧ ERel K S' ι' ρ' σ' ∧ Ext S ι H S' ι' H' ∧ Post K mg W D' S' ι' H' (whileD dc db m ρ' h'), ⟨F, ρ, h, S, ι, r, re, Ext.refl, hp⟩, ?_⟩
  rintro m σ1 H1 ⟨ρ1, h1, S1, ι1, r1, re1, ex1, p1⟩
  cases m with
  | zero => exact p1.elim
  | succ n =>
    refine hc ρ1 h1 S1 ι1 σ1 H1 _ r1 re1 ?_
    unfold whileD at p1
    cases e : dc ρ1 h1 with
    | ok k h2 =>
      rw [e] at p1
      cases k with
      | true =>
        intro S2 ι2 H2 r2 ex2
        rw [if_pos rfl]
        refine ⟨fun σ' H' => ∃ ρ' h' S' ι', HRel K S' ι' h' H' ∧ ERel K S' ι' ρ' σ' ∧ Ext S ι H S' ι' H' ∧ Post K mg W D' S' ι' H' (whileD dc db n ρ' h'), fun σ' H' hn => ⟨n, Nat.lt_succ_self n, hn⟩, ?_⟩
        refine hb ρ1 h2 S2 ι2 σ1 H2 _ r2 (re1.ext ex2) ?_
        replace p1 := Post.ext (show Post K mg W D' S1 ι1 H1 _ from p1) ex2
        dsimp only at p1
        have ex12 := ex1.trans ex2
        cases eb : db ρ1 h2 with
        | nx ρ4 h4 =>
          rw [eb] at p1
          exact fun S4 ι4 σ4 H4 r4 re4 ex4 => ⟨ρ4, h4, S4, ι4, r4, re4, ex12.trans ex4, Post.ext p1 ex4⟩
        | cnt ρ4 h4 =>
          rw [eb] at p1
          exact fun S4 ι4 σ4 H4 r4 re4 ex4 => ⟨ρ4, h4, S4, ι4, r4, re4, ex12.trans ex4, Post.ext p1 ex4⟩
        | brk ρ4 h4 => rw [eb] at p1; exact p1
        | ret d h4 => rw [eb] at p1; exact p1
        | exc c p ρ4 h4 => rw [eb] at p1; exact p1
        | stuck => rw [eb] at p1; exact p1
      | false =>
        intro S2 ι2 H2 r2 ex2
        rw [if_neg Bool.false_ne_true]
        exact p1 S2 ι2 σ1 H2 r2 (re1.ext ex2) ex2
    | exc c p h2 =>
      rw [e] at p1
      exact fun cls dd S' ι' H' hr ex xo => p1 cls dd S' ι' σ1 H' hr (re1.ext ex) ex xo
    | stuck => rw [e] at p1; exact p1.elim
end
end Ev
/-! Ev, part F: comprehensions. -/
namespace Ev
open PySem PySem.Spec PyProof.Rows L2

section
variable {K : PySem.W.Frag} {S S' : Hp} {ι ι' : List Addr} {H H' : Hp} {h h' : Hs} {ρ : Env} {σ : L2.St} {mg : Str → Option Value} {W : WX} {Q : VK}

def minus (H : Hp) (p : Addr) : Hp := fun a => if a = p then none else H a
theorem minus_at {H : Hp} {p : Addr} : minus H p p = none := by unfold minus; rw [if_pos rfl]
theorem minus_ne {H : Hp} {p a : Addr} (e : a ≠ p) : minus H p a = H a := by unfold minus; rw [if_neg e]
theorem upd_minus {H : Hp} {p : Addr} {o : HO} (e : H p = some o) : upd (minus H p) p o = H := by
  funext a
  by_cases k : a = p
  · subst k; rw [upd_same]; exact e.symm
  · rw [upd_ne k, minus_ne k]
theorem HRel.plus {p : Addr} {o : HO} (r : HRel K S ι h H) (hp : H p = none) : HRel K S ι h (upd H p o) := by
  have hs := Hp.snone r hp
  have np : p ∉ ι := fun m => r.out p m hp
  refine ⟨r.len, r.nd, fun a q e => ?_, fun a m e => ?_, fun n a c ha hc => ?_⟩
  · rw [upd_ne (ne_of_none e hs)]; exact r.sub _ _ e
  · have k : a ≠ p := fun e => np (e ▸ m)
    rw [upd_ne k] at e; exact r.out a m e
  · have k : a ≠ p := fun e => np (e ▸ List.mem_of_getElem? ha)
    exact (r.cell n a c ha hc).up (fun _ _ e => e) (fun _ _ e => e) (fun e => e) fun o' e => by rw [upd_ne k]; exact e
theorem HRel.minus {p : Addr} (r : HRel K S ι h H) (np : p ∉ ι) (hs : S p = none) : HRel K S ι h (minus H p) := by
  refine ⟨r.len, r.nd, fun a q e => ?_, fun a m e => ?_, fun n a c ha hc => ?_⟩
  · rw [minus_ne (ne_of_none e hs)]; exact r.sub _ _ e
  · have k : a ≠ p := fun e => np (e ▸ m)
    rw [minus_ne k] at e; exact r.out a m e
  · have k : a ≠ p := fun e => np (e ▸ List.mem_of_getElem? ha)
    exact (r.cell n a c ha hc).up (fun _ _ e => e) (fun _ _ e => e) (fun e => e) fun o' e => by rw [minus_ne k]; exact e
/-- what goes on around an object that is out of sight -/
theorem Ext.around {S1 S2 S4 : Hp} {ι1 ι2 ι4 : List Addr} {H1 H0 H4 : Hp} {p : Addr} {o : HO} (x : Ext S1 ι1 H1 S2 ι2 H0) (hp : H1 p = none) (y : Ext S2 ι2 (upd H0 p o) S4 ι4 H4) (np : p ∉ ι2) : Ext S1 ι1 H1 S4 ι4 (minus H4 p) := by
  have nn : ∀ a, H0 a = none → a ∈ ι1 ∨ H1 a = none := fun a z => by
    rcases none_or (H := H1) a with e | ⟨q, e⟩
    · exact .inr e
    · by_cases k : a ∈ ι1
      · exact .inl k
      · rw [x.keep a q e k] at z; cases z
  have n2 : ∀ a, upd H0 p o a = none → a ∈ ι1 ∨ H1 a = none := fun a z => by
    by_cases k : a = p
    · subst k; rw [upd_same] at z; cases z
    · rw [upd_ne k] at z; exact nn a z
  refine ⟨fun a q e => y.sub _ _ (x.sub _ _ e), fun n a e => y.pre _ _ (x.pre _ _ e), fun a q e ne => ?_, fun a m => ?_, fun a m => ?_, fun a m e => ?_⟩
  · have k : a ≠ p := ne_of_none e hp
    rw [minus_ne k]
    refine y.keep a q (by rw [upd_ne k]; exact x.keep a q e ne) fun m => ?_
    rcases x.new a m with z | z
    · exact ne z
    · rw [e] at z; cases z
  · rcases y.new a m with q | q
    · exact x.new a q
    · exact n2 a q
  · rcases y.snew a m with q | q | q
    · exact x.snew a q
    · rcases x.new a q with z | z
      · exact .inr (.inl z)
      · exact .inr (.inr z)
    · exact .inr (n2 a q)
  · have k : a ≠ p := fun z => e (z ▸ hp)
    rw [minus_ne k]
    obtain ⟨n, hn⟩ := List.mem_iff_getElem?.mp m
    exact y.there a (List.mem_of_getElem? (x.pre n a hn)) (by rw [upd_ne k]; exact x.there a m e)

theorem wipe_wipe (σ : L2.St) : ∀ vs : List Nat, (wipe σ vs).length = σ.length := wipe_length σ
theorem wipeE_ok {vs : List Nat} (re : ERel K S ι ρ σ) : ERel K S ι (wipeE ρ vs) (wipe σ vs) := by
  induction vs with
  | nil => exact re
  | cons v vs ih =>
    refine ⟨by unfold wipeE wipe; rw [List.length_set, List.length_set]; exact ih.1, fun i d e => ?_⟩
    unfold wipeE at e
    unfold wipe
    by_cases k : v = i
    · subst k
      by_cases hl : v < (wipeE ρ vs).length
      · rw [List.getElem?_set_self hl] at e; cases e
      · rw [List.getElem?_eq_none (by simpa using hl)] at e; cases e
    · rw [List.getElem?_set_ne k] at e ⊢
      exact ih.2 i d e

/-- a target that stores into own slots alone -/
def OwnG (g : TG) (vs : List Nat) : Prop := ∀ v σ H Q, g v (wipe σ vs) H Q → g v (wipe σ vs) H fun σ2 H2 => wipe σ2 vs = wipe σ vs ∧ Q σ2 H2

theorem lc_sound {fz : Bool} {wi : TI} {di : Env → Hs → R (List D)} {g : TG} {dg : D → Env → Hs → Out} {tt : TT} {dt : Env → Hs → R Bool} {te : TE} {de : Env → Hs → R D} {vs : List Nat} (hi : SI K mg W wi di)
    (hg : SG K mg (fun _ _ _ _ => False) g dg) (hown : OwnG g vs) (ht : ST K mg (fun _ _ _ _ => False) tt dt) (he : SE K mg (fun _ _ _ _ => False) te de) :
    SE K mg W (tLc wi g tt te vs) fun ρ h => (di ρ h).bind fun xs h1 => (lcD dg dt de (wipeE ρ vs) xs [] h1).bind fun ds h2 => newL fz ds h2 := by
  intro ρ h S ι σ H Q r re hp
  refine hi ρ h S ι σ H _ r re (PostG.imp hp.bind fun xs h1 S1 ι1 H1 r1 ex1 p1 J hJ => ?_)
  intro D hD
  refine ⟨fun i m H' => ∃ h' S' ι' acc vacc H0, i ≤ xs.length ∧ m = xs.length - i ∧ H' = upd H0 D (.lst vacc) ∧ H0 D = none ∧ HRel K S' ι' h' H0 ∧ Ext S1 ι1 H1 S' ι' H0 ∧ RVs K S' ι' acc vacc ∧
      PostG K mg W S1 ι1 H1 σ (KQ K Q) ((lcD dg dt de (wipeE ρ vs) (xs.drop i) acc h').bind fun ds h2 => newL fz ds h2),
    ⟨xs.length, h1, S1, ι1, [], [], H1, Nat.zero_le _, rfl, rfl, hD, r1, Ext.refl, .nil, p1⟩, ?_⟩
  rintro i m H' ⟨h', S', ι', acc, vacc, H0, hi', rfl, rfl, h0, r0, ex0, ra, p0⟩
  have rp : HRel K S' ι' h' (upd H0 D (.lst vacc)) := r0.plus h0
  have nD : D ∉ ι' := fun m => r0.out D m h0
  have re' : ERel K S' ι' ρ σ := (re.ext ex1).ext ex0
  obtain ⟨hstop, hgo⟩ := hJ i S' ι' h' _ ex0.sub ex0.pre rp
  by_cases hl : i < xs.length
  · refine .inr ?_
    have hd : xs.drop i = xs[i] :: xs.drop (i + 1) := List.drop_eq_getElem_cons hl
    obtain ⟨go, hy⟩ := hgo xs[i] (List.getElem?_eq_getElem hl)
    refine ⟨go, fun H' => ∃ h' S' ι' acc vacc H0, i + 1 ≤ xs.length ∧ xs.length - (i + 1) = xs.length - (i + 1) ∧ H' = upd H0 D (.lst vacc) ∧ H0 D = none ∧ HRel K S' ι' h' H0 ∧ Ext S1 ι1 H1 S' ι' H0 ∧ RVs K S' ι' acc vacc ∧
      PostG K mg W S1 ι1 H1 σ (KQ K Q) ((lcD dg dt de (wipeE ρ vs) (xs.drop (i + 1)) acc h').bind fun ds h2 => newL fz ds h2), fun H' hn => ⟨xs.length - (i + 1), by omega, hn⟩, fun x H2 yl => ?_⟩
    obtain ⟨S2, r2, ex2, rv⟩ := hy x H2 yl
    rw [hd] at p0
    unfold lcD at p0
    refine hown x σ H2 _ ?_
    refine hg xs[i] x (wipeE ρ vs) h' S2 ι' (wipe σ vs) H2 _ r2 (wipeE_ok (re'.ext ex2)) rv ?_
    cases e : dg xs[i] (wipeE ρ vs) h' with
    | nx ρ3 h3 =>
      rw [e] at p0
      intro S3 ι3 σ3 H3 r3 re3 ex3
      refine ht ρ3 h3 S3 ι3 σ3 H3 _ r3 re3 ?_
      dsimp only at p0
      cases et : dt ρ3 h3 with
      | ok k h4 =>
        rw [et] at p0
        cases k with
        | true =>
          intro S4 ι4 H4 r4 ex4
          rw [if_pos rfl]
          refine he ρ3 h4 S4 ι4 σ3 H4 _ r4 (re3.ext ex4) ?_
          dsimp only at p0
          cases ee : de ρ3 h4 with
          | ok d h5 =>
            rw [ee] at p0
            dsimp only at p0
            intro S5 ι5 H5 r5 ex5 y ry
            by_cases hn : acc.length < LN
            · rw [if_pos hn] at p0
              have ex25 := ((ex2.trans ex3).trans ex4).trans ex5
              have h5D : H5 D = some (.lst vacc) := ex25.keep D _ upd_same nD
              have n5 : D ∉ ι5 := fun m => by
                rcases ex25.new D m with q | q
                · exact nD q
                · rw [upd_same] at q; cases q
              have s5 : S5 D = none := by
                rcases none_or (H := S5) D with q | ⟨o, q⟩
                · exact q
                · rcases ex25.snew D (by rw [q]; exact fun z => nomatch z) with z | z | z
                  · exact absurd (Hp.snone r0 h0) z
                  · exact absurd z nD
                  · rw [upd_same] at z; cases z
              refine ⟨vacc, h5D, by rw [← ra.length]; exact Nat.lt_of_lt_of_le hn LN_le, h5, S5, ι5, acc ++ [d], vacc ++ [y], minus H5 D, hl, rfl, ?_, minus_at, r5.minus n5 s5, ex0.around hD ex25 nD, (ra.ext ex25).append (.cons ry .nil), p0⟩
              funext a
              by_cases k : a = D
              · subst k; rw [upd_same, upd_same]
              · rw [upd_ne k, upd_ne k, minus_ne k]
            · rw [if_neg hn] at p0; exact p0.elim
          | exc c p h5 => rw [ee] at p0; exact p0.elim
          | stuck => rw [ee] at p0; exact p0.elim
        | false =>
          intro S4 ι4 H4 r4 ex4
          rw [if_neg Bool.false_ne_true]
          dsimp only at p0
          have ex25 := (ex2.trans ex3).trans ex4
          have h5D : H4 D = some (.lst vacc) := ex25.keep D _ upd_same nD
          have n5 : D ∉ ι4 := fun m => by
            rcases ex25.new D m with q | q
            · exact nD q
            · rw [upd_same] at q; cases q
          have s5 : S4 D = none := by
            rcases none_or (H := S4) D with q | ⟨o, q⟩
            · exact q
            · rcases ex25.snew D (by rw [q]; exact fun z => nomatch z) with z | z | z
              · exact absurd (Hp.snone r0 h0) z
              · exact absurd z nD
              · rw [upd_same] at z; cases z
          exact ⟨h4, S4, ι4, acc, vacc, minus H4 D, hl, rfl, (upd_minus h5D).symm, minus_at, r4.minus n5 s5, ex0.around hD ex25 nD, ra.ext ex25, p0⟩
      | exc c p h4 => rw [et] at p0; exact p0.elim
      | stuck => rw [et] at p0; exact p0.elim
    | ret d h3 => rw [e] at p0; exact p0.elim
    | brk ρ3 h3 => rw [e] at p0; exact p0.elim
    | cnt ρ3 h3 => rw [e] at p0; exact p0.elim
    | exc c p ρ3 h3 => rw [e] at p0; exact p0.elim
    | stuck => rw [e] at p0; exact p0.elim
  · have e : i = xs.length := by omega
    subst e
    refine .inl ⟨hstop (Nat.le_refl _), ?_⟩
    rw [List.drop_length] at p0
    unfold lcD at p0
    have p2 : PostG K mg W S1 ι1 H1 σ (KQ K Q) (newL fz acc h') := p0
    have p3 : PostG K mg W S' ι' H0 σ (KQ K Q) (newL fz acc h') := by
      cases q : newL fz acc h' with
      | ok d h2 => rw [q] at p2; exact fun S2 ι2 H2 hr2 ex2 => p2 S2 ι2 H2 hr2 (ex0.trans ex2)
      | exc c p h2 => rw [q] at p2; exact fun cls dd S2 ι2 H2 hr2 ex2 xo => p2 cls dd S2 ι2 H2 hr2 (ex0.trans ex2) xo
      | stuck => rw [q] at p2; exact p2
    exact (newL_post r0 ra p3).2 D h0
end
end Ev
set_option maxHeartbeats 1000000
/-! Ev, part Fb: comprehensions of two clauses. -/
namespace Ev
open PySem PySem.Spec PyProof.Rows L2
section
variable {K : PySem.W.Frag} {mg : Str → Option Value} {W : WX} {Q : VK}
theorem ERel.up {S S' : Hp} {ι ι' : List Addr} {ρ : Env} {σ : L2.St} (r : ERel K S ι ρ σ) (hS : Sub S S') (hι : ∀ (n : Nat) (a : Addr), ι[n]? = some a → ι'[n]? = some a) : ERel K S' ι' ρ σ :=
  ⟨r.1, fun i d e => let ⟨v, h1, h2⟩ := r.2 i d e; ⟨v, h1, h2.up hS hι⟩⟩
/-- the list that is made stands at D, out of sight -/
def StD (K : PySem.W.Frag) (S1 : Hp) (ι1 : List Addr) (H1 : Hp) (D : Addr) (h : Hs) (S : Hp) (ι : List Addr) (acc : List Ev.D) (H : Hp) : Prop :=
  ∃ vacc H0, H = upd H0 D (.lst vacc) ∧ H0 D = none ∧ HRel K S ι h H0 ∧ Ext S1 ι1 H1 S ι H0 ∧ RVs K S ι acc vacc
variable {S1 : Hp} {ι1 : List Addr} {H1 : Hp} {D : Addr} {h : Hs} {S : Hp} {ι : List Addr} {acc : List Ev.D} {H : Hp}
theorem StD.rel (x : StD K S1 ι1 H1 D h S ι acc H) : HRel K S ι h H := by
  obtain ⟨vacc, H0, rfl, h0, r0, _, _⟩ := x
  exact r0.plus h0
theorem StD.step (hD : H1 D = none) (x : StD K S1 ι1 H1 D h S ι acc H) {h5 : Hs} {S5 : Hp} {ι5 : List Addr} {H5 : Hp} (r5 : HRel K S5 ι5 h5 H5) (ex : Ext S ι H S5 ι5 H5) :
    StD K S1 ι1 H1 D h5 S5 ι5 acc H5 ∧ ∃ vacc, H5 D = some (.lst vacc) ∧ vacc.length = acc.length ∧ ∀ d y, RV K S5 ι5 d y → StD K S1 ι1 H1 D h5 S5 ι5 (acc ++ [d]) (upd H5 D (.lst (vacc ++ [y]))) := by
  obtain ⟨vacc, H0, rfl, h0, r0, ex0, ra⟩ := x
  have nD : D ∉ ι := fun m => r0.out D m h0
  have h5D : H5 D = some (.lst vacc) := ex.keep D _ upd_same nD
  have n5 : D ∉ ι5 := fun m => by
    rcases ex.new D m with q | q
    · exact nD q
    · rw [upd_same] at q; cases q
  have s5 : S5 D = none := by
    rcases none_or (H := S5) D with q | ⟨o, q⟩
    · exact q
    · rcases ex.snew D (by rw [q]; exact fun z => nomatch z) with z | z | z
      · exact absurd (Hp.snone r0 h0) z
      · exact absurd z nD
      · rw [upd_same] at z; cases z
  refine ⟨⟨vacc, minus H5 D, (upd_minus h5D).symm, minus_at, r5.minus n5 s5, ex0.around hD ex nD, ra.ext ex⟩, vacc, h5D, ra.length.symm, fun d y ry => ⟨vacc ++ [y], minus H5 D, ?_, minus_at, r5.minus n5 s5, ex0.around hD ex nD, (ra.ext ex).append (.cons ry .nil)⟩⟩
  funext a
  by_cases k : a = D
  · subst k; rw [upd_same, upd_same]
  · rw [upd_ne k, upd_ne k, minus_ne k]
theorem StD.fin {fz : Bool} {σ : L2.St} (hD : H1 D = none) (x : StD K S1 ι1 H1 D h S ι acc H) (p2 : PostG K mg W S1 ι1 H1 σ (KQ K Q) (newL fz acc h)) : Q (.ref D) H := by
  obtain ⟨vacc, H0, rfl, h0, r0, ex0, ra⟩ := x
  have p3 : PostG K mg W S ι H0 σ (KQ K Q) (newL fz acc h) := by
    cases q : newL fz acc h with
    | ok d h2 => rw [q] at p2; exact fun S2 ι2 H2 hr2 ex2 => p2 S2 ι2 H2 hr2 (ex0.trans ex2)
    | exc c p h2 => rw [q] at p2; exact fun cls dd S2 ι2 H2 hr2 ex2 xo => p2 cls dd S2 ι2 H2 hr2 (ex0.trans ex2) xo
    | stuck => rw [q] at p2; exact p2
  exact (newL_post r0 ra p3).2 D h0
/-- what is left when the inner loop is at ys' -/
def restD (g : Ev.D → Env → Hs → Out) (i1 : Env → Hs → R (List Ev.D)) (g1 : Ev.D → Env → Hs → Out) (c1 : Env → Hs → R Bool) (e : Env → Hs → R Ev.D) (ρ : Env) (vs1 : List Nat) (xs : List Ev.D) (ρ1 : Env) (ys : List Ev.D) (acc : List Ev.D) (h : Hs) : R (List Ev.D) :=
  match lcD g1 c1 e (wipeE ρ1 vs1) ys acc h with
  | .ok acc' h3 => lc2D g i1 g1 c1 e ρ vs1 xs acc' h3
  | _ => .stuck
theorem lc2_sound {fz : Bool} {wi wi1 : TI} {di di1 : Env → Hs → R (List Ev.D)} {g g1 : TG} {dg dg1 : Ev.D → Env → Hs → Out} {tt1 : TT} {dt1 : Env → Hs → R Bool} {te : TE} {de : Env → Hs → R Ev.D} {vs vs1 : List Nat} (hi : SI K mg W wi di)
    (hg : SG K mg (fun _ _ _ _ => False) g dg) (hown : OwnG g vs) (hi1 : SI K mg (fun _ _ _ _ => False) wi1 di1) (hg1 : SG K mg (fun _ _ _ _ => False) g1 dg1) (hown1 : OwnG g1 vs1)
    (ht : ST K mg (fun _ _ _ _ => False) tt1 dt1) (he : SE K mg (fun _ _ _ _ => False) te de) :
    SE K mg W (tLc2 wi g tYes wi1 g1 tt1 te vs vs1) fun ρ h => (di ρ h).bind fun xs h1 => (lc2D dg di1 dg1 dt1 de (wipeE ρ vs) vs1 xs [] h1).bind fun ds h2 => newL fz ds h2 := by
  intro ρ h S ι σ H Q r re hp
  refine hi ρ h S ι σ H _ r re (PostG.imp hp.bind fun xs h1 S1 ι1 H1 r1 ex1 p1 J hJ => ?_)
  intro D hD
  refine ⟨fun i m H' => ∃ h' S' ι' acc, i ≤ xs.length ∧ m = xs.length - i ∧ StD K S1 ι1 H1 D h' S' ι' acc H' ∧ Sub S1 S' ∧ (∀ (n : Nat) (a : Addr), ι1[n]? = some a → ι'[n]? = some a) ∧
      PostG K mg W S1 ι1 H1 σ (KQ K Q) ((lc2D dg di1 dg1 dt1 de (wipeE ρ vs) vs1 (xs.drop i) acc h').bind fun ds h2 => newL fz ds h2),
    ⟨xs.length, h1, S1, ι1, [], Nat.zero_le _, rfl, ⟨[], H1, rfl, hD, r1, Ext.refl, .nil⟩, fun _ _ e => e, fun _ _ e => e, p1⟩, ?_⟩
  rintro i m H' ⟨h', S', ι', acc, hi', rfl, X, sb, pr, p0⟩
  have rp := X.rel
  have re' : ERel K S' ι' ρ σ := (re.ext ex1).up sb pr
  obtain ⟨hstop, hgo⟩ := hJ i S' ι' h' _ sb pr rp
  by_cases hl : i < xs.length
  · refine .inr ?_
    have hd : xs.drop i = xs[i] :: xs.drop (i + 1) := List.drop_eq_getElem_cons hl
    obtain ⟨go, hy⟩ := hgo xs[i] (List.getElem?_eq_getElem hl)
    refine ⟨go, fun H' => ∃ h' S' ι' acc, i + 1 ≤ xs.length ∧ xs.length - (i + 1) = xs.length - (i + 1) ∧ StD K S1 ι1 H1 D h' S' ι' acc H' ∧ Sub S1 S' ∧ (∀ (n : Nat) (a : Addr), ι1[n]? = some a → ι'[n]? = some a) ∧
      PostG K mg W S1 ι1 H1 σ (KQ K Q) ((lc2D dg di1 dg1 dt1 de (wipeE ρ vs) vs1 (xs.drop (i + 1)) acc h').bind fun ds h2 => newL fz ds h2), fun H' hn => ⟨xs.length - (i + 1), by omega, hn⟩, fun x H2 yl => ?_⟩
    obtain ⟨S2, r2, ex2, rv⟩ := hy x H2 yl
    rw [hd] at p0
    unfold lc2D at p0
    refine hown x σ H2 _ ?_
    refine hg xs[i] x (wipeE ρ vs) h' S2 ι' (wipe σ vs) H2 _ r2 (wipeE_ok (re'.ext ex2)) rv ?_
    cases e : dg xs[i] (wipeE ρ vs) h' with
    | nx ρ3 h3 =>
      rw [e] at p0
      intro S3 ι3 σ3 H3 r3 re3 ex3
      unfold tYes
      dsimp only
      rw [if_pos rfl]
      refine hi1 ρ3 h3 S3 ι3 σ3 H3 _ r3 re3 ?_
      dsimp only at p0
      cases ei : di1 ρ3 h3 with
      | ok ys h4 =>
        rw [ei] at p0
        intro S4 ι4 H4 r4 ex4 J1 hJ1
        have p0' : PostG K mg W S1 ι1 H1 σ (KQ K Q) ((restD dg di1 dg1 dt1 de (wipeE ρ vs) vs1 (xs.drop (i + 1)) ρ3 ys acc h4).bind fun ds h2 => newL fz ds h2) := p0
        have ex24 := (ex2.trans ex3).trans ex4
        obtain ⟨X4, _⟩ := X.step hD r4 ex24
        have re4 : ERel K S4 ι4 ρ3 σ3 := re3.ext ex4
        refine ⟨fun j k H' => ∃ h' S' ι' acc, j ≤ ys.length ∧ k = ys.length - j ∧ StD K S1 ι1 H1 D h' S' ι' acc H' ∧ Sub S4 S' ∧ (∀ (n : Nat) (a : Addr), ι4[n]? = some a → ι'[n]? = some a) ∧
            PostG K mg W S1 ι1 H1 σ (KQ K Q) ((restD dg di1 dg1 dt1 de (wipeE ρ vs) vs1 (xs.drop (i + 1)) ρ3 (ys.drop j) acc h').bind fun ds h2 => newL fz ds h2),
          ⟨ys.length, h4, S4, ι4, acc, Nat.zero_le _, rfl, X4, fun _ _ e => e, fun _ _ e => e, p0'⟩, ?_⟩
        rintro j k H5 ⟨h5, S5, ι5, acc5, hj', rfl, X5, sb5, pr5, p5⟩
        have rp5 := X5.rel
        have re5 : ERel K S5 ι5 ρ3 σ3 := re4.up sb5 pr5
        obtain ⟨hstop5, hgo5⟩ := hJ1 j S5 ι5 h5 _ sb5 pr5 rp5
        by_cases hl5 : j < ys.length
        · refine .inr ?_
          have hd5 : ys.drop j = ys[j] :: ys.drop (j + 1) := List.drop_eq_getElem_cons hl5
          obtain ⟨go5, hy5⟩ := hgo5 ys[j] (List.getElem?_eq_getElem hl5)
          refine ⟨go5, fun H' => ∃ h' S' ι' acc, j + 1 ≤ ys.length ∧ ys.length - (j + 1) = ys.length - (j + 1) ∧ StD K S1 ι1 H1 D h' S' ι' acc H' ∧ Sub S4 S' ∧ (∀ (n : Nat) (a : Addr), ι4[n]? = some a → ι'[n]? = some a) ∧
            PostG K mg W S1 ι1 H1 σ (KQ K Q) ((restD dg di1 dg1 dt1 de (wipeE ρ vs) vs1 (xs.drop (i + 1)) ρ3 (ys.drop (j + 1)) acc h').bind fun ds h2 => newL fz ds h2), fun H' hn => ⟨ys.length - (j + 1), by omega, hn⟩, fun x H6 yl => ?_⟩
          obtain ⟨S6, r6, ex6, rv6⟩ := hy5 x H6 yl
          rw [hd5] at p5
          unfold restD lcD at p5
          refine hown1 x σ3 H6 _ ?_
          refine hg1 ys[j] x (wipeE ρ3 vs1) h5 S6 ι5 (wipe σ3 vs1) H6 _ r6 (wipeE_ok (re5.ext ex6)) rv6 ?_
          cases e6 : dg1 ys[j] (wipeE ρ3 vs1) h5 with
          | nx ρ7 h7 =>
            rw [e6] at p5
            intro S7 ι7 σ7 H7 r7 re7 ex7
            refine ht ρ7 h7 S7 ι7 σ7 H7 _ r7 re7 ?_
            dsimp only at p5
            cases et : dt1 ρ7 h7 with
            | ok kk h8 =>
              rw [et] at p5
              cases kk with
              | true =>
                intro S8 ι8 H8 r8 ex8
                rw [if_pos rfl]
                refine he ρ7 h8 S8 ι8 σ7 H8 _ r8 (re7.ext ex8) ?_
                dsimp only at p5
                cases ee : de ρ7 h8 with
                | ok d h9 =>
                  rw [ee] at p5
                  dsimp only at p5
                  intro S9 ι9 H9 r9 ex9 y ry
                  by_cases hn : acc5.length < LN
                  · rw [if_pos hn] at p5
                    have ex69 := ((ex6.trans ex7).trans ex8).trans ex9
                    obtain ⟨_, vacc, hv, hlen, happ⟩ := X5.step hD r9 ex69
                    refine ⟨vacc, hv, by rw [hlen]; exact Nat.lt_of_lt_of_le hn LN_le, h9, S9, ι9, acc5 ++ [d], hl5, rfl, happ d y ry, fun a o e => ex69.sub _ _ (sb5 a o e), fun n a e => ex69.pre _ _ (pr5 n a e), p5⟩
                  · rw [if_neg hn] at p5; exact p5.elim
                | exc c p h9 => rw [ee] at p5; exact p5.elim
                | stuck => rw [ee] at p5; exact p5.elim
              | false =>
                intro S8 ι8 H8 r8 ex8
                rw [if_neg Bool.false_ne_true]
                dsimp only at p5
                have ex68 := (ex6.trans ex7).trans ex8
                obtain ⟨X8, _⟩ := X5.step hD r8 ex68
                exact ⟨h8, S8, ι8, acc5, hl5, rfl, X8, fun a o e => ex68.sub _ _ (sb5 a o e), fun n a e => ex68.pre _ _ (pr5 n a e), p5⟩
            | exc c p h8 => rw [et] at p5; exact p5.elim
            | stuck => rw [et] at p5; exact p5.elim
          | ret d h7 => rw [e6] at p5; exact p5.elim
          | brk ρ7 h7 => rw [e6] at p5; exact p5.elim
          | cnt ρ7 h7 => rw [e6] at p5; exact p5.elim
          | exc c p ρ7 h7 => rw [e6] at p5; exact p5.elim
          | stuck => rw [e6] at p5; exact p5.elim
        · have e : j = ys.length := by omega
          subst e
          refine .inl ⟨hstop5 (Nat.le_refl _), ?_⟩
          rw [List.drop_length] at p5
          unfold restD lcD at p5
          have ex14 := ex24
          exact ⟨h5, S5, ι5, acc5, hl, rfl, X5, fun a o e => sb5 _ _ (ex24.sub _ _ (sb a o e)), fun n a e => pr5 _ _ (ex24.pre _ _ (pr n a e)), p5⟩
      | exc c p h4 => rw [ei] at p0; exact p0.elim
      | stuck => rw [ei] at p0; exact p0.elim
    | ret d h3 => rw [e] at p0; exact p0.elim
    | brk ρ3 h3 => rw [e] at p0; exact p0.elim
    | cnt ρ3 h3 => rw [e] at p0; exact p0.elim
    | exc c p ρ3 h3 => rw [e] at p0; exact p0.elim
    | stuck => rw [e] at p0; exact p0.elim
  · have e : i = xs.length := by omega
    subst e
    refine .inl ⟨hstop (Nat.le_refl _), ?_⟩
    rw [List.drop_length] at p0
    unfold lc2D at p0
    exact X.fin hD p0
end
end Ev
/-! Ev, part G: the checker against the row's syntax. -/
namespace Ev
open PySem PySem.Spec PyProof.Rows L2

/-- names that are built-ins; classes' attributes; which defs are methods of which class -/
structure BL where
  l : List Str
  ats : List (Str × Str)
  me : List (Nat × Str × Str)
def BL.contains (b : BL) (x : Str) : Bool := b.l.contains x
def BL.isM (b : BL) (i : Nat) : Bool := b.me.any fun p => p.1 == i
def vis (sc : Scope) (x : Str) : Bool := match sc.names.lookup x with
  | some .local => true
  | some .cell => true
  | some .free => true
  | _ => false
def loc (sc : Scope) (x : Str) : Bool := match sc.names.lookup x with
  | some .local => true
  | some .cell => true
  | _ => false
def isLocal (sc : Scope) (x : Str) : Bool := match sc.names.lookup x with
  | some .local => true
  | _ => false
def glb (sc : Scope) (x : Str) : Bool := match sc.names.lookup x with
  | some .globalImplicit => true
  | _ => false
def nodbg (x : Str) : Bool := !(x == ("__debug__" : Str)) && !(x == ("__classdict__" : Str))
def notStar : Expr → Bool
  | .Starred .. => false
  | _ => true
def notComp : Expr → Bool
  | .ListComp .. => false
  | .SetComp .. => false
  | .DictComp .. => false
  | _ => true
def notSet : Expr → Bool
  | .Set .. => false
  | _ => true
def notSlice : Expr → Bool
  | .Slice .. => false
  | _ => true
def notTup : Expr → Bool
  | .Tuple .. => false
  | .List .. => false
  | _ => true
def isName : Expr → Bool
  | .Name .. => true
  | _ => false
def isTup : Expr → Bool
  | .Tuple .. => true
  | _ => false
/-- as a test it is its value's truth -/
def plainT : Expr → Bool
  | .UnaryOp .Not _ _ => false
  | .BoolOp .. => false
  | .IfExp .. => false
  | .Compare .. => false
  | _ => true

/-- no super() -/
def plainB : Expr → Bool
  | .Call (.Name _ _) [] [] _ => false
  | _ => true
def Tg.slots : Tg → List Nat
  | .name i => [i]
  | .tup ts => Tgs.slots ts
  | .idx _ _ => []
where Tgs.slots : Tgs → List Nat
  | .nil => []
  | .cons t ts => t.slots ++ Tgs.slots ts

mutual
/-- a target of names alone, all own of the block -/
def Tg.okN (N : List Str) (fn : Str → Bool) (sc : Scope) (vs : List Nat) : Tg → Expr → Bool
  | .name i, e => match e with
    | .Name x _ => decide (N[i]? = some x) && loc sc x && (fn x || isLocal sc x) && vs.contains i
    | _ => false
  | .tup ts, e => match e with
    | .Tuple es _ _ => ts.okN N fn sc vs es
    | _ => false
  | .idx _ _, _ => false
def Tgs.okN (N : List Str) (fn : Str → Bool) (sc : Scope) (vs : List Nat) : Tgs → List Expr → Bool
  | .nil, es => es.isEmpty
  | .cons t ts, es => match es with
    | e :: r => notStar e && t.okN N fn sc vs e && ts.okN N fn sc vs r
    | [] => false
end

def Mt.nm : Mt → Str
  | .append => "append" | .pop => "pop" | .popAt => "pop" | .index => "index" | .insert => "insert" | .tindex => "index"
mutual
def Ex.ok (N : List Str) (bl : BL) (fl : List Str) : Scope → Ex → Expr → Bool
  | sc, .var i, e => match e with
    | .Name x _ => decide (N[i]? = some x) && vis sc x && nodbg x
    | _ => false
  | sc, .glob y, e => match e with
    | .Name x _ => decide (x = y) && glb sc x && nodbg x
    | _ => false
  | _, .cint i, e => match e with
    | .Constant (.int j) _ _ => decide (i = j)
    | _ => false
  | _, .cbl i, e => match e with
    | .Constant (.bool j) _ _ => decide (i = j)
    | _ => false
  | _, .cnon, e => match e with
    | .Constant .none _ _ => true
    | _ => false
  | _, .cstr i, e => match e with
    | .Constant (.str j) _ _ => decide (i = j)
    | _ => false
  | sc, .bin o _ a b, e => match e with
    | .BinOp x p y _ => decide (o.op = p) && a.ok N bl fl sc x && b.ok N bl fl sc y
    | _ => false
  | sc, .neg a, e => match e with
    | .UnaryOp .USub x _ => a.ok N bl fl sc x
    | _ => false
  | sc, .cmp o a b, e => match e with
    | .Compare x [p] [y] _ => decide (o.op = p) && a.ok N bl fl sc x && b.ok N bl fl sc y && !behindInMarks p y
    | _ => false
  | sc, .chain o o' a b c, e => match e with
    | .Compare x [p, q] [y, z] _ => decide (o.op = p) && decide (o'.op = q) && a.ok N bl fl sc x && b.ok N bl fl sc y && c.ok N bl fl sc z && !lastMarks [p, q] [y, z]
    | _ => false
  | sc, .and a b, e => match e with
    | .BoolOp .And (x :: y :: r) pos => a.ok N bl fl sc x && (match r with | [] => b.ok N bl fl sc y | z :: r => b.ok N bl fl sc (.BoolOp .And (y :: z :: r) pos))
    | _ => false
  | sc, .or a b, e => match e with
    | .BoolOp .Or (x :: y :: r) pos => a.ok N bl fl sc x && (match r with | [] => b.ok N bl fl sc y | z :: r => b.ok N bl fl sc (.BoolOp .Or (y :: z :: r) pos))
    | _ => false
  | sc, .not a, e => match e with
    | .UnaryOp .Not x _ => a.ok N bl fl sc x
    | _ => false
  | sc, .ite c a b, e => match e with
    | .IfExp t x y _ => c.ok N bl fl sc t && a.ok N bl fl sc x && b.ok N bl fl sc y
    | _ => false
  | sc, .tup es, e => match e with
    | .Tuple xs _ _ => es.ok N bl fl sc xs
    | _ => false
  | sc, .lst _ es, e => match e with
    | .List xs _ => es.ok N bl fl sc xs
    | _ => false
  | sc, .idx a i, e => match e with
    | .Subscript x y _ => a.ok N bl fl sc x && i.ok N bl fl sc y && notSlice y
    | _ => false
  | sc, .slice _ a lo hi, e => match e with
    | .Subscript x (.Slice l u none _) _ => a.ok N bl fl sc x && lo.okO N bl fl sc l && hi.okO N bl fl sc u
    | _ => false
  | sc, .call f es, e => match e with
    | .Call (.Name x _) xs [] _ => decide (fl[f]? = some x) && glb sc x && nodbg x && es.ok N bl fl sc xs && !xs.isEmpty && !bl.isM f
    | _ => false
  | sc, .prim p _ es, e => match e with
    | .Call (.Name x _) xs [] _ => decide (x = p.nm) && bl.contains x && glb sc x && nodbg x && (match p with
      | .isinst t => (match es, xs with
        | .cons a .nil, [y, .Name z _] => (t == "tuple" || t == "list" || t == "bool" || t == "int" || t == "str") && a.ok N bl fl sc y && notStar y && decide (z = Str.ofString t) && bl.contains z && glb sc z && nodbg z
        | _, _ => false)
      | _ => es.ok N bl fl sc xs && !xs.isEmpty)
    | _ => false
  | sc, .lrange _ a, e => match e with
    | .Call (.Name x _) [.Call (.Name y _) [z] [] _] [] _ => decide (x = ("list" : Str)) && decide (y = ("range" : Str)) && bl.contains x && bl.contains y && glb sc x && glb sc y && a.ok N bl fl sc z && notStar z
    | _ => false
  | sc, .lc _ own tg it cond elt, e => match e with
    | .ListComp x [⟨t, i, ifs, a⟩] scope _ => decide (a = 0) && it.ok N bl fl sc t i && blkC N sc scope own &&
        tg.okN N (fun x => scope.names.lookup x == some .cell) (relS scope sc) (own.map (·.2)) t && cond.okC N bl fl (relS scope sc) ifs && elt.ok N bl fl (relS scope sc) x
    | _ => false
  | sc, .freeze a, e => a.ok N bl fl sc e
  | sc, .rev _ a, e => match e with
    | .Subscript x (.Slice none none (some (.UnaryOp .USub (.Constant (.int 1) _ _) _)) _) _ => a.ok N bl fl sc x
    | _ => false
  | _, .dnew _, e => match e with
    | .Dict [] [] _ => true
    | _ => false
  | sc, .meth m a es, e => match e with
    | .Call (.Attribute o x ap) xs [] cp => decide (x = m.nm) && (match m with | .pop => xs.isEmpty | _ => !xs.isEmpty) && a.ok N bl fl sc o && es.ok N bl fl sc xs && (ap.endLine == cp.line) && plainB o && decide (xs.length < 9)
    | _ => false
  | sc, .tupS es, e => match e with
    | .Tuple xs _ _ => es.ok N bl fl sc xs
    | _ => false
  | sc, .lc2 _ own vs1 tg it tg1 it1 cond elt, e => match e with
    | .ListComp x [⟨t, i, ifs, a⟩, ⟨t1, i1, ifs1, a1⟩] scope _ => decide (a = 0) && decide (a1 = 0) && ifs.isEmpty && it.ok N bl fl sc t i && blkC N sc scope own && (vs1.all fun v => (own.map (·.2)).contains v) &&
        tg.okN N (fun x => scope.names.lookup x == some .cell) (relS scope sc) (own.map (·.2)) t && it1.ok N bl fl (relS scope sc) t1 i1 &&
        tg1.okN N (fun x => scope.names.lookup x == some .cell) (relS scope sc) vs1 t1 && cond.okC N bl fl (relS scope sc) ifs1 && elt.ok N bl fl (relS scope sc) x
    | _ => false
  | sc, .ctup es, e => match e with
    | .Tuple xs _ _ => es.ok N bl fl sc xs
    | _ => false
  | sc, .fzd a, e => a.ok N bl fl sc e
  | sc, .attr k a f, e => match e with
    | .Attribute x y _ => decide (y = f) && bl.ats.contains (k, f) && a.ok N bl fl sc x && plainB x
    | _ => false
  | sc, .mcall i k m a es, e => match e with
    | .Call (.Attribute o x ap) xs [] cp => decide (x = m) && bl.me.contains (i, k, m) && a.ok N bl fl sc o && es.ok N bl fl sc xs && (ap.endLine == cp.line) && plainB o && decide (xs.length < 9)
    | _ => false
  | sc, .make i k es, e => match e with
    | .Call (.Name x _) xs [] _ => decide (x = k) && bl.me.contains (i, k, "__init__") && glb sc x && nodbg x && es.ok N bl fl sc xs && !xs.isEmpty
    | _ => false
  | sc, .callV i cs es, e => match e with
    | .Call (.Name x _) xs [] _ => decide (N[i]? = some x) && vis sc x && nodbg x && es.ok N bl fl sc xs && !xs.isEmpty && cs.all fun p => decide (fl[p.2]? = some p.1) && !bl.isM p.2
    | _ => false
  | sc, .fnv y, e => match e with
    | .Name x _ => decide (x = y) && glb sc x && nodbg x && (List.range fl.length).any fun j => decide (fl[j]? = some y) && !bl.isM j
    | _ => false
  | sc, .isin2 t u a, e => match e with
    | .Call (.Name x _) [y, .Tuple [.Name z _, .Name z' _] _ _] [] _ => decide (x = ("isinstance" : Str)) && bl.contains x && glb sc x && (t == "tuple" || t == "list" || t == "bool" || t == "int" || t == "str") && (u == "tuple" || u == "list" || u == "bool" || u == "int" || u == "str") &&
        a.ok N bl fl sc y && notStar y && decide (z = Str.ofString t) && bl.contains z && glb sc z && nodbg z && decide (z' = Str.ofString u) && bl.contains z' && glb sc z' && nodbg z'
    | _ => false
  | _, .dcT _ _ _ _ _, _ => false
  | sc, .dget a k d, e => match e with
    | .Call (.Attribute o x ap) [y, z] [] cp => decide (x = ("get" : Str)) && a.ok N bl fl sc o && k.ok N bl fl sc y && notStar y && d.ok N bl fl sc z && notStar z && (ap.endLine == cp.line) && plainB o
    | _ => false
  | sc, .dispT ps, e => match e with
    | .Dict ks vs _ => ps.ok N bl fl sc ks vs && decide (ks.length ≤ 15) && !ks.isEmpty
    | _ => false
  | sc, .lcC _ own tg i elt, e => match e with
    | .ListComp x [⟨t, .Name y _, [], a⟩] scope _ => decide (a = 0) && decide (N[i]? = some y) && vis sc y && nodbg y && blkC N sc scope own &&
        tg.okN N (fun x => scope.names.lookup x == some .cell) (relS scope sc) (own.map (·.2)) t && elt.ok N bl fl (relS scope sc) x
    | _ => false
  | sc, .lrange2 _ a b, e => match e with
    | .Call (.Name x _) [.Call (.Name y _) [z, w] [] _] [] _ => decide (x = ("list" : Str)) && decide (y = ("range" : Str)) && bl.contains x && bl.contains y && glb sc x && glb sc y && a.ok N bl fl sc z && notStar z && b.ok N bl fl sc w && notStar w
    | _ => false
def Pxs.ok (N : List Str) (bl : BL) (fl : List Str) : Scope → Pxs → List (Option Expr) → List Expr → Bool
  | _, .nil, ks, vs => ks.isEmpty && vs.isEmpty
  | sc, .cons k v r, ks, vs => match ks, vs with
    | some x :: ks, y :: vs => k.ok N bl fl sc x && v.ok N bl fl sc y && r.ok N bl fl sc ks vs
    | _, _ => false
def Sxs.ok (N : List Str) (bl : BL) (fl : List Str) : Scope → Sxs → List Expr → Bool
  | _, .nil, es => es.isEmpty
  | sc, .cons a as, es => match es with
    | e :: r => a.ok N bl fl sc e && notStar e && as.ok N bl fl sc r
    | [] => false
  | sc, .star a as, es => match es with
    | .Starred e _ :: r => a.ok N bl fl sc e && as.ok N bl fl sc r
    | _ => false
def Exs.ok (N : List Str) (bl : BL) (fl : List Str) : Scope → Exs → List Expr → Bool
  | _, .nil, es => es.isEmpty
  | sc, .cons a as, es => match es with
    | e :: r => a.ok N bl fl sc e && notStar e && as.ok N bl fl sc r
    | [] => false
/-- an optional part -/
def Exs.okO (N : List Str) (bl : BL) (fl : List Str) : Scope → Exs → Option Expr → Bool
  | _, .nil, e => e.isNone
  | sc, .cons a as, e => match e, as with
    | some e, .nil => a.ok N bl fl sc e
    | _, _ => false
/-- a clause's tests -/
def Exs.okC (N : List Str) (bl : BL) (fl : List Str) : Scope → Exs → List Expr → Bool
  | _, .nil, es => es.isEmpty
  | sc, .cons a as, es => match es, as with
    | [e], .nil => a.ok N bl fl sc e
    | _, _ => false
def Itx.ok (N : List Str) (bl : BL) (fl : List Str) : Scope → Itx → Expr → Expr → Bool
  | sc, .seq a, _, e => a.ok N bl fl sc e && notSet e
  | sc, .range es, _, e => match e with
    | .Call (.Name x _) xs [] _ => decide (x = ("range" : Str)) && bl.contains x && glb sc x && es.ok N bl fl sc xs && decide (1 ≤ xs.length) && decide (xs.length ≤ 3)
    | _ => false
  | sc, .enum a, t, e => match e with
    | .Call (.Name x _) [y] [] _ => decide (x = ("enumerate" : Str)) && bl.contains x && glb sc x && a.ok N bl fl sc y && notStar y && isTup t
    | _ => false
  | sc, .zip a b, t, e => match e with
    | .Call (.Name x _) [y, z] [] _ => decide (x = ("zip" : Str)) && bl.contains x && glb sc x && a.ok N bl fl sc y && notStar y && b.ok N bl fl sc z && notStar z && isTup t
    | _ => false
  | sc, .zipM a b, t, e => match e with
    | .Call (.Name x _) [y, z] [] _ => decide (x = ("zip" : Str)) && bl.contains x && glb sc x && a.ok N bl fl sc y && notStar y && b.ok N bl fl sc z && notStar z && isTup t
    | _ => false
  | sc, .enumZ a b, t, e => match e with
    | .Call (.Name x _) [.Call (.Name x2 _) [y, z] [] _] [] _ => decide (x = ("enumerate" : Str)) && bl.contains x && glb sc x && decide (x2 = ("zip" : Str)) && bl.contains x2 && glb sc x2 && a.ok N bl fl sc y && notStar y && b.ok N bl fl sc z && notStar z && isTup t
    | _ => false
  | sc, .zipN es, t, e => match e with
    | .Call (.Name x _) xs [] _ => decide (x = ("zip" : Str)) && bl.contains x && glb sc x && es.ok N bl fl sc xs && !xs.isEmpty && isTup t
    | _ => false
  | sc, .zipS a, t, e => match e with
    | .Call (.Name x _) [.Starred y _] [] _ => decide (x = ("zip" : Str)) && bl.contains x && glb sc x && a.ok N bl fl sc y && isName t
    | _ => false
  | sc, .enumF a k, t, e => match e with
    | .Call (.Name x _) [y, .Constant (.int i) _ _] [] _ => decide (x = ("enumerate" : Str)) && bl.contains x && glb sc x && a.ok N bl fl sc y && notStar y && isTup t && decide (i = (k : Int)) && decide (k < 1000)
    | _ => false
end
end Ev
/-! Ev, part H: the denotation of expressions is sound. -/
namespace Ev
open PySem PySem.Spec PyProof.Rows L2

/-- what a def does, cells and all -/
def spF (K : PySem.W.Frag) (mg : Str → Option Value) (n : Nat) (m : List D → Hs → R D) : Sp := fun vs H Q E => ∃ S ι h ds, vs.length = n ∧ HRel K S ι h H ∧ RVs K S ι ds vs ∧ match m ds h with
  | .ok d h' => ∀ v S' ι' H', HRel K S' ι' h' H' → Ext S ι H S' ι' H' → RV K S' ι' d v → Q v H'
  | .exc c p h' => ∀ cls dd S' ι' H', HRel K S' ι' h' H' → Ext S ι H S' ι' H' → XOk K mg c p cls dd S' ι' → E cls dd H'
  | .stuck => False
def FnFact (c : Cfg) (X : Cx) (f : Str) (i : Nat) : Prop := ∃ (a : Addr) (fd : FuncData) (ps : List Str) (k : Nat),
  FnG X.prog X.w X.K X.mg X.base (L2.CX X.prog X.w) k a fd ps (spF X.K X.mg ps.length (c.Γ i)) ∧ (∀ ds h, ds.length ≠ ps.length → c.Γ i ds h = .stuck) ∧ Room k X.A ∧ X.mg f = some (.ref a) ∧ PySem.W.keepIn X.K (.ref a) = true ∧ Binds X.K fd ps [] ∧ a = He.ga X.K f
def MFact (c : Cfg) (X : Cx) (cl m : Str) (i : Nat) : Prop := ∃ (a : Addr) (fd : FuncData) (ps : List Str) (k : Nat),
  FnG X.prog X.w X.K X.mg X.base (L2.CX X.prog X.w) k a fd ps (spF X.K X.mg ps.length (c.Γ i)) ∧ (∀ ds h, ds.length ≠ ps.length → c.Γ i ds h = .stuck) ∧ Room k X.A ∧ Binds X.K fd ps [] ∧ Cls X.K (He.ga X.K cl) ∧ Meth X.K (He.ga X.K cl) m a ∧
  (m = "__init__" → Mk X.K (He.ga X.K cl) a ∧ X.mg cl = some (.ref (He.ga X.K cl)) ∧ Room (k + 1) X.A)
structure Good (c : Cfg) (bl : BL) (fl : List Str) (X : Cx) : Prop where
  calm : X.calm = true
  nd : X.N.Nodup
  kind : X.env.scope.kind = .function
  un : X.A.units + 65 < cLine
  gd : X.A.guards = some []
  blt : ∀ x, bl.contains x = true → X.mg x = none
  gl : ∀ x d, c.gl x = some d → ∃ v u, X.mg x = some u ∧ RelV v u ∧ ∀ S ι, RV X.K S ι d v
  fns : ∀ i f, fl[i]? = some f → bl.isM i = false → FnFact c X f i
  ats : ∀ k f, bl.ats.contains (k, f) = true → Cls X.K (He.ga X.K k) ∧ NoAttr X.K (He.ga X.K k) f
  mes : ∀ i k m, bl.me.contains (i, k, m) = true → MFact c X k m i

/-! ### side conditions -/
section
variable {e : Expr} {es : List Expr} {env : PySem.Env}
theorem starOf (h : notStar e = true) : starEach (e :: es) env = (false, eval e env) :: starEach es env := by
  cases e <;> first | rfl | cases h
theorem star1 (h : notStar e = true) : starEach [e] env = [(false, eval e env)] := by
  cases e <;> first | rfl | cases h
theorem back_of (pos : Pos) : ∀ es : List Expr, es.all notStar = true → (backTo pos (starEach es env)).any (·.1) = false
  | [], _ => rfl
  | e :: es, h => by
    rw [List.all_cons, Bool.and_eq_true] at h
    rw [starOf h.1]
    show (false || (backTo pos (starEach es env)).any (·.1)) = false
    rw [back_of pos es h.2]; rfl
theorem swaps_no (t : Option Expr) (l : Nat) (h : notComp e = true) : swapsWith e t l env = pure false := by
  cases e <;> first | rfl | cases h
theorem truth_of (h : plainT e = true) : ∀ whole, isTrue e env whole = (do let v ← whole; standAt e.pos; holding [v] (truthy v)) := by
  intro whole
  cases e with
  | UnaryOp o x p => cases o <;> first | rfl | cases h
  | BoolOp _ _ _ => cases h
  | IfExp _ _ _ _ => cases h
  | Compare _ _ _ _ => cases h
  | _ => rfl
theorem ix_of (h : notSlice e = true) : PlainIx e := by
  intro o i
  cases e <;> first | rfl | cases h
theorem set_of (h : notSet e = true) : ∀ x, foldedSetIterable e env x = pure x := by
  intro x
  cases e <;> first | rfl | cases h
end
theorem vis_of {sc : Scope} {x : Str} (h : vis sc x = true) : Vis sc x := by
  unfold vis at h
  unfold Vis
  split at h
  · exact .inl (by assumption)
  · exact .inr (.inl (by assumption))
  · exact .inr (.inr (by assumption))
  · cases h
theorem loc_of {sc : Scope} {x : Str} (h : loc sc x = true) : L2.Loc sc x := by
  unfold loc at h
  unfold L2.Loc
  split at h
  · exact .inl (by assumption)
  · exact .inr (by assumption)
  · cases h
theorem local_of {sc : Scope} {x : Str} (h : isLocal sc x = true) : sc.names.lookup x = some .local := by
  unfold isLocal at h
  split at h
  · assumption
  · cases h
theorem gl_of {X : Cx} {x : Str} (h : glb X.env.scope x = true) : Gl X x := by
  unfold glb at h
  split at h
  · assumption
  · cases h
theorem dbg1 {x : Str} (h : nodbg x = true) : (x == ("__debug__" : Str)) = false := by
  unfold nodbg at h
  rw [Bool.and_eq_true] at h
  simpa using h.1
theorem dbg2 {x : Str} (h : nodbg x = true) : (x == ("__classdict__" : Str)) = false := by
  unfold nodbg at h
  rw [Bool.and_eq_true] at h
  simpa using h.2
theorem PI.or {X : Cx} {tg e : Expr} {w1 w2 : TI} (h1 : PI X tg e w1) (h2 : PI X tg e w2) : PI X tg e (fun σ H R => w1 σ H R ∨ w2 σ H R) :=
  ⟨fun pins s σ H R I q => q.elim (fun z => h1.run pins s σ H R I z) (fun z => h2.run pins s σ H R I z)⟩
/-- the weakest reading over some contexts -/
theorem PE.weak {T : Type} {F : T → Cx} {e : Expr} {K : PySem.W.Frag} {mg : Str → Option Value} {W : WX} {de : Env → Hs → R D} (h : ∀ t, ∃ te, PE (F t) e te ∧ SE K mg W te de) : ∃ te, (∀ t, PE (F t) e te) ∧ SE K mg W te de := by
  refine ⟨fun σ H Q => ∀ t, ∃ te, PE (F t) e te ∧ te σ H Q, fun t => ⟨fun pins s σ H Q I q => ?_⟩, fun ρ h' S ι σ H Q r re hp t => ?_⟩
  · obtain ⟨te, p, q⟩ := q t
    exact p.run pins s σ H Q I q
  · obtain ⟨te, p, q⟩ := h t
    exact ⟨te, p, q ρ h' S ι σ H Q r re hp⟩
theorem PTs.weak {T : Type} {F : T → Cx} {es : List Expr} {K : PySem.W.Frag} {mg : Str → Option Value} {W : WX} {de : Env → Hs → R Bool} (h : ∀ t, ∃ te, PTs (F t) es te ∧ ST K mg W te de) : ∃ te, (∀ t, PTs (F t) es te) ∧ ST K mg W te de := by
  refine ⟨fun σ H Q => ∀ t, ∃ te, PTs (F t) es te ∧ te σ H Q, fun t => ⟨fun pins s σ H Q I q => ?_⟩, fun ρ h' S ι σ H Q r re hp t => ?_⟩
  · obtain ⟨te, p, q⟩ := q t
    exact p.run pins s σ H Q I q
  · obtain ⟨te, p, q⟩ := h t
    exact ⟨te, p, q ρ h' S ι σ H Q r re hp⟩

theorem PI.weakX : True := trivial
/-! ### targets of names -/
/-- a tuple or a list, taken apart -/
def gTL (K : PySem.W.Frag) (n : Nat) (t : TGs) : TG := fun v σ H Q => gTup K n t v σ H Q ∨ gLst K n t v σ H Q
theorem pg_tl {X : Cx} {es : List Expr} {k : Nat} {pos : Pos} {t : TGs} {n : Nat} (hc : X.calm = true) (h : PGs X es t) (hn : (assignEach es X.env).length = n) (hs : (assignEach es X.env).findIdx? (·.1) = none) : PG X (.Tuple es k pos) (gTL X.K n t) := by
  constructor
  intro pins s σ H v u Q I r hw
  rcases hw with z | z
  · exact (pg_tup hc h hn hs).run pins s σ H v u Q I r z
  · exact (pg_lst hc h hn hs).run pins s σ H v u Q I r z
mutual
def Tg.g (K : PySem.W.Frag) : Tg → TG
  | .name i => gName i
  | .tup ts => gTL K ts.n (ts.g K)
  | .idx _ _ => fun _ _ _ _ => False
def Tgs.g (K : PySem.W.Frag) : Tgs → TGs
  | .nil => gNil
  | .cons t ts => gCons (t.g K) (ts.g K)
end
section
variable {K : PySem.W.Frag} {mg : Str → Option Value} {W : WX} {c : Cfg}
theorem erel_set {S : Hp} {ι : List Addr} {ρ : Env} {σ : L2.St} {i : Nat} {d : D} {v : V} (re : ERel K S ι ρ σ) (rv : RV K S ι d v) : ERel K S ι (ρ.set i (some d)) (σ.set i (some v)) := by
  refine ⟨by rw [List.length_set, List.length_set]; exact re.1, fun j e hj => ?_⟩
  by_cases k : i = j
  · subst k
    by_cases hl : i < ρ.length
    · rw [List.getElem?_set_self hl] at hj
      cases hj
      exact ⟨v, by rw [List.getElem?_set_self (by rw [← re.1]; exact hl)], rv⟩
    · rw [List.getElem?_eq_none (by simpa using hl)] at hj; cases hj
  · rw [List.getElem?_set_ne k] at hj ⊢
    exact re.2 j e hj
def SGs (K : PySem.W.Frag) (mg : Str → Option Value) (W : WX) (t : TGs) (dg : List D → Env → Hs → Out) : Prop := ∀ ds vs ρ h S ι σ H Q, HRel K S ι h H → ERel K S ι ρ σ → RVs K S ι ds vs →
  (match dg ds ρ h with
    | .nx ρ' h' => ∀ S' ι' σ' H', HRel K S' ι' h' H' → ERel K S' ι' ρ' σ' → Ext S ι H S' ι' H' → Q σ' H'
    | .exc c p ρ' h' => ∀ cls dd S' ι' σ' H', HRel K S' ι' h' H' → ERel K S' ι' ρ' σ' → Ext S ι H S' ι' H' → XOk K mg c p cls dd S' ι' → W cls dd σ' H'
    | _ => False) → t vs σ H Q
mutual
def Tg.plain : Tg → Bool
  | .name _ => true
  | .tup ts => ts.plain
  | .idx _ _ => false
def Tgs.plain : Tgs → Bool
  | .nil => true
  | .cons t ts => t.plain && ts.plain
end
mutual
theorem Tg.sg : ∀ (t : Tg), t.plain = true → SG K mg W (t.g K) (t.den c)
  | .name i, _ => by
    intro d v ρ h S ι σ H Q r re rv hp
    unfold Tg.den at hp
    show Q (σ.set i (some v)) H
    by_cases hl : i < ρ.length
    · rw [if_pos hl] at hp
      exact hp S ι _ H r (erel_set re rv) Ext.refl
    · rw [if_neg hl] at hp; exact hp.elim
  | .tup ts, hpl => by
    intro d v ρ h S ι σ H Q r re rv hp
    unfold Tg.den at hp
    cases d with
    | tup xs =>
      cases rv with
      | @tup a vs _ e1 r1 =>
        dsimp only at hp
        by_cases hl : xs.length = ts.n
        · rw [if_pos hl] at hp
          exact .inl ⟨a, vs, rfl, SqT.of (r.sub _ _ e1), by rw [← r1.length]; exact hl, Tgs.sg ts hpl xs vs ρ h S ι σ H Q r re r1 hp⟩
        · rw [if_neg hl] at hp; exact hp.elim
    | vt xs =>
      cases rv with
      | @vt a o vs _ e1 _ r1 =>
        dsimp only at hp
        by_cases hl : xs.length = ts.n
        · rw [if_pos hl] at hp
          exact .inl ⟨a, vs, rfl, SqT.up r.sub (vtT e1), by rw [← r1.length]; exact hl, Tgs.sg ts hpl xs vs ρ h S ι σ H Q r re r1 hp⟩
        · rw [if_neg hl] at hp; exact hp.elim
    | lst xs =>
      cases rv with
      | @lst a vs _ e1 r1 =>
        dsimp only at hp
        by_cases hl : xs.length = ts.n
        · rw [if_pos hl] at hp
          exact .inr ⟨a, vs, rfl, SqL.of (r.sub _ _ e1), by rw [← r1.length]; exact hl, Tgs.sg ts hpl xs vs ρ h S ι σ H Q r re r1 hp⟩
        · rw [if_neg hl] at hp; exact hp.elim
    | _ => exact hp.elim
  | .idx _ _, hpl => by cases hpl
theorem Tgs.sg : ∀ (ts : Tgs), ts.plain = true → SGs K mg W (ts.g K) (ts.den c)
  | .nil, _ => by
    intro ds vs ρ h S ι σ H Q r re rv hp
    unfold Tgs.den at hp
    cases rv with
    | nil => exact ⟨rfl, hp S ι σ H r re Ext.refl⟩
    | cons _ _ => exact hp.elim
  | .cons t ts, hpl => by
    intro ds vs ρ h S ι σ H Q r re rv hp
    unfold Tgs.plain at hpl
    rw [Bool.and_eq_true] at hpl
    unfold Tgs.den at hp
    cases rv with
    | nil => exact hp.elim
    | @cons d v ds vs r1 rs =>
      refine ⟨v, vs, rfl, Tg.sg t hpl.1 d v ρ h S ι σ H _ r re r1 ?_⟩
      dsimp only at hp
      cases e : t.den c d ρ h with
      | nx ρ1 h1 =>
        rw [e, Out.nx_then] at hp
        intro S1 ι1 σ1 H1 hr1 re1 ex1
        refine Tgs.sg ts hpl.2 ds vs ρ1 h1 S1 ι1 σ1 H1 Q hr1 re1 (rs.ext ex1) ?_
        cases e2 : ts.den c ds ρ1 h1 with
        | nx ρ2 h2 => rw [e2] at hp; exact fun S' ι' σ' H' a b x => hp S' ι' σ' H' a b (ex1.trans x)
        | exc x p ρ2 h2 => rw [e2] at hp; exact fun cls dd S' ι' σ' H' a b x xo => hp cls dd S' ι' σ' H' a b (ex1.trans x) xo
        | ret _ _ => rw [e2] at hp; exact hp
        | brk _ _ => rw [e2] at hp; exact hp
        | cnt _ _ => rw [e2] at hp; exact hp
        | stuck => rw [e2] at hp; exact hp
      | exc x p ρ1 h1 => rw [e] at hp; exact hp
      | ret _ _ => rw [e] at hp; exact hp.elim
      | brk _ _ => rw [e] at hp; exact hp.elim
      | cnt _ _ => rw [e] at hp; exact hp.elim
      | stuck => rw [e] at hp; exact hp.elim
end
end
section
variable {X : Cx} {vs : List Nat}
theorem assign1 {e : Expr} {es : List Expr} {env : PySem.Env} (h : notStar e = true) : (assignEach (e :: es) env).map (·.2) = assign e env :: (assignEach es env).map (·.2) := by
  cases e <;> first | rfl | cases h
mutual
theorem Tg.pg (hc : X.calm = true) (hN : X.N.Nodup) : ∀ (t : Tg) (e : Expr), t.okN X.N X.fn X.env.scope vs e = true → PG X e (t.g X.K)
  | .name i, e, h => by
    unfold Tg.okN at h
    split at h
    · simp only [Bool.and_eq_true, decide_eq_true_eq, Bool.or_eq_true] at h
      exact pg_name hN h.1.1.1 (loc_of h.1.1.2) (h.1.2.imp id local_of)
    · cases h
  | .tup ts, e, h => by
    unfold Tg.okN at h
    split at h
    · exact pg_tl hc (Tgs.pg hc hN ts _ h).1 (Tgs.pg hc hN ts _ h).2.1 (Tgs.pg hc hN ts _ h).2.2
    · cases h
  | .idx _ _, e, h => by cases h
theorem Tgs.pg (hc : X.calm = true) (hN : X.N.Nodup) : ∀ (ts : Tgs) (es : List Expr), ts.okN X.N X.fn X.env.scope vs es = true → PGs X es (ts.g X.K) ∧ (assignEach es X.env).length = ts.n ∧ (assignEach es X.env).findIdx? (·.1) = none
  | .nil, es, h => by
    unfold Tgs.okN at h
    cases es with
    | nil => exact ⟨pgs_nil, rfl, rfl⟩
    | cons _ _ => cases h
  | .cons t ts, es, h => by
    unfold Tgs.okN at h
    cases es with
    | nil => cases h
    | cons e es =>
      dsimp only at h
      simp only [Bool.and_eq_true] at h
      obtain ⟨k1, k2, k3⟩ := Tgs.pg hc hN ts es h.2
      have hs : assignEach (e :: es) X.env = (false, assign e X.env) :: assignEach es X.env := by
        cases e <;> first | rfl | (have := h.1.1; cases this)
      refine ⟨pgs_cons (Tg.pg hc hN t e h.1.2) k1 (assign1 h.1.1), by rw [hs]; exact congrArg Nat.succ k2, ?_⟩
      rw [hs, List.findIdx?_cons, k3]; rfl
end
mutual
theorem Tg.plain_of {N : List Str} {fn : Str → Bool} {sc : Scope} : ∀ (t : Tg) (e : Expr), t.okN N fn sc vs e = true → t.plain = true
  | .name _, _, _ => rfl
  | .tup ts, e, h => by
    unfold Tg.okN at h
    split at h
    · exact Tgs.plain_of ts _ h
    · cases h
  | .idx _ _, _, h => by cases h
theorem Tgs.plain_of {N : List Str} {fn : Str → Bool} {sc : Scope} : ∀ (ts : Tgs) (es : List Expr), ts.okN N fn sc vs es = true → ts.plain = true
  | .nil, _, _ => rfl
  | .cons t ts, es, h => by
    unfold Tgs.okN at h
    cases es with
    | nil => cases h
    | cons e es =>
      dsimp only at h
      simp only [Bool.and_eq_true] at h
      unfold Tgs.plain
      rw [Bool.and_eq_true]
      exact ⟨Tg.plain_of t e h.1.2, Tgs.plain_of ts es h.2⟩
end
/-- own slots wiped again -/
theorem wipe_set {i : Nat} {v : Option V} : ∀ (vs : List Nat) (σ : L2.St), i ∈ vs → wipe (σ.set i v) vs = wipe σ vs
  | [], σ, h => by cases h
  | u :: us, σ, h => by
    unfold wipe
    by_cases k : i ∈ us
    · rw [wipe_set us σ k]
    · have e : i = u := by
        rcases List.mem_cons.mp h with e | e
        · exact e
        · exact absurd e k
      subst e
      have hc : ∀ (us : List Nat) (σ : L2.St), i ∉ us → wipe (σ.set i v) us = (wipe σ us).set i v := by
        intro us
        induction us with
        | nil => intro σ _; rfl
        | cons w ws ih =>
          intro σ hn
          rw [List.mem_cons, not_or] at hn
          unfold wipe
          rw [ih σ hn.2, List.set_comm _ _ hn.1]
      rw [hc us σ k, List.set_set]
theorem wipe_idem (σ : L2.St) : ∀ vs : List Nat, wipe (wipe σ vs) vs = wipe σ vs := by
  have hc : ∀ (us : List Nat) (σ : L2.St) (u : Nat), wipe (σ.set u none) us = (wipe σ us).set u none := by
    intro us
    induction us with
    | nil => intro σ u; rfl
    | cons w ws ih =>
      intro σ u
      unfold wipe
      rw [ih]
      by_cases k : u = w
      · subst k; rfl
      · rw [List.set_comm _ _ k]
  have hi : ∀ (vs : List Nat) (σ : L2.St), wipe (wipe σ vs) vs = wipe σ vs := by
    intro vs
    induction vs with
    | nil => intro σ; rfl
    | cons v vs ih =>
      intro σ
      show (wipe ((wipe σ vs).set v none) vs).set v none = (wipe σ vs).set v none
      rw [hc, ih, List.set_set]
  intro vs
  exact hi vs σ
mutual
theorem Tg.own (K : PySem.W.Frag) {N : List Str} {fn : Str → Bool} {sc : Scope} : ∀ (t : Tg) (e : Expr), t.okN N fn sc vs e = true → ∀ v σ H (Q Q' : L2.St → Hp → Prop), (t.g K) v σ H Q → (∀ σ2 H2, wipe σ2 vs = wipe σ vs → Q σ2 H2 → Q' σ2 H2) → (t.g K) v σ H Q'
  | .name i, e, h, v, σ, H, Q, Q', q, hq => by
    unfold Tg.okN at h
    split at h
    · simp only [Bool.and_eq_true, decide_eq_true_eq, Bool.or_eq_true] at h
      exact hq _ _ (wipe_set vs σ (by simpa using h.2)) q
    · cases h
  | .tup ts, e, h, v, σ, H, Q, Q', q, hq => by
    unfold Tg.okN at h
    split at h
    · rcases q with ⟨a, xs, e1, e2, e3, q⟩ | ⟨a, xs, e1, e2, e3, q⟩
      · exact .inl ⟨a, xs, e1, e2, e3, Tgs.own K ts _ h xs σ H Q Q' q hq⟩
      · exact .inr ⟨a, xs, e1, e2, e3, Tgs.own K ts _ h xs σ H Q Q' q hq⟩
    · cases h
  | .idx _ _, _, h, _, _, _, _, _, _, _ => by cases h
theorem Tgs.own (K : PySem.W.Frag) {N : List Str} {fn : Str → Bool} {sc : Scope} : ∀ (ts : Tgs) (es : List Expr), ts.okN N fn sc vs es = true → ∀ us σ H (Q Q' : L2.St → Hp → Prop), (ts.g K) us σ H Q → (∀ σ2 H2, wipe σ2 vs = wipe σ vs → Q σ2 H2 → Q' σ2 H2) → (ts.g K) us σ H Q'
  | .nil, es, h, us, σ, H, Q, Q', q, hq => ⟨q.1, hq _ _ rfl q.2⟩
  | .cons t ts, es, h, us, σ, H, Q, Q', q, hq => by
    unfold Tgs.okN at h
    cases es with
    | nil => cases h
    | cons e es =>
      dsimp only at h
      simp only [Bool.and_eq_true] at h
      obtain ⟨v, r, e1, q⟩ := q
      exact ⟨v, r, e1, Tg.own K t e h.1.2 v σ H _ _ q fun σ2 H2 w2 q2 => Tgs.own K ts es h.2 r σ2 H2 _ _ q2 fun σ3 H3 w3 q3 => hq _ _ (w3.trans w2) q3⟩
end
theorem own_of {K : PySem.W.Frag} {N : List Str} {fn : Str → Bool} {sc : Scope} {t : Tg} {e : Expr} (h : t.okN N fn sc vs e = true) : OwnG (t.g K) vs := fun v σ H Q q =>
  Tg.own K t e h v (wipe σ vs) H Q _ q fun σ2 H2 w q => ⟨w.trans (wipe_idem σ vs), q⟩
end
end Ev
set_option maxHeartbeats 1000000
/-! Ev, part Xa: t.index(x) of flat items; enumerate(list, k). -/
namespace EnF
open PySem PySem.Spec PyProof.Rows L2
section
variable {X : Cx}
def rTIndex (K : PySem.W.Frag) : V → List V → Hp → VK → Prop := fun x xs H Q => ∃ (a : Addr) (ys : List V) (y : V) (j : Nat) (z : V), x = V.ref a ∧ xs = [y] ∧ SqT K H a ys ∧ flatV y = true ∧ ys.all flatV = true ∧ ys[j]? = some z ∧ eqV z y = true ∧
  (∀ (m : Nat) (z' : V), m < j → ys[m]? = some z' → eqV z' y = false) ∧ Q (.int (j : Nat)) H
theorem mt_tindex : MtR X "tuple.index" (rTIndex X.K) := by
  intro pins s σ H x xs v us Q I rx rxs h
  obtain ⟨a, ys, y, j, z, rfl, rfl, hs, fy, fys, hz, hzj, hno, q⟩ := h
  cases rx
  cases rxs with
  | cons ry rt =>
    rename_i uy ut
    cases rt
    obtain ⟨its, rv, pl, hlen⟩ := I.tuple hs
    obtain ⟨⟨cls, dd, dt, sl⟩, ho, hc, n, hd⟩ := pl
    simp only at hc hd
    subst hc hd
    obtain ⟨u, hu, ru⟩ := rv.get hz
    obtain ⟨hjl, hje⟩ := List.getElem?_eq_some_iff.mp hu
    have hvl := rv.length
    have hj : j < its.toArray.size := by simpa using hjl
    refine call_meets PySem.F.slot_tuple_index ⟨_, ho, rfl⟩ PySem.F.entry_tuple_index (PySem.F.args_tuple_index_2 _ _) (TI.tuple_indexAt a its.toArray n dd sl uy (eqU y) j hj ?_ ?_)
      ⟨ho, fun u' hu' => mem_eqAt ry fy rv fys u' (by simpa using hu'), ⟨.int (j : Nat), H, I.tok _, ⟨_, rfl⟩, q⟩⟩
    · have e1 : its.toArray[j] = u := by simpa using hje
      rw [e1, eqU_of ru (flat_at fys hz)]
      exact hzj
    · intro m hm hmj
      have hml : m < its.length := by simpa using hm
      have hmy : m < ys.length := by omega
      have hy' : ys[m]? = some ys[m] := List.getElem?_eq_getElem hmy
      obtain ⟨u2, hu2, ru2⟩ := rv.get hy'
      obtain ⟨_, hme⟩ := List.getElem?_eq_some_iff.mp hu2
      have e1 : its.toArray[m] = u2 := by simpa using hme
      rw [e1, eqU_of ru2 (flat_at fys hy')]
      exact hno m _ hmj hy'
end
section
variable {X : Cx} {o e : Expr} {es : List Expr} {to : TE} {t : TA} {apos cpos pos : Pos}
/-- a tuple of which it is known that it has no dict of its own -/
def tCTup (t : TA) : TE := fun σ H Q => t σ H fun xs H1 => xs.length ≤ sizeLine ∧ ∀ p ob, H1 p = none → (ob : Obj).cls = .type "tuple" ∧ ob.dict = none → Q (.ref p) (upd H1 p (.frz ob (.tup xs)))
theorem pe_ctup {x1} (h : PA X es t) : PE X (.Tuple es x1 pos) (tCTup t) := by
  refine ⟨fun pins s σ H Q I hq => ?_⟩
  refine wpAny_Tuple_spliced (thn (h.run pos pins s σ H _ I hq) fun us s1 ⟨xs, H1, I1, r, z, q⟩ => ⟨by rw [← r.length]; exact z, ?_⟩)
  have hf : H1 s1.heap.objs.size = none := I1.hok.fresh (Nat.le_refl _)
  refine ⟨.ref s1.heap.objs.size, upd H1 s1.heap.objs.size (.frz { cls := .type "tuple", data := .seq us.toArray } (.tup xs)), I1.laid (t' := s1.toks) (fun b u e => Heap.get?_push_of_some _ e) (Nat.le_refl _) ?_, rfl, q _ _ hf ⟨rfl, rfl⟩⟩
  have e : (s1.heap.push { cls := .type "tuple", data := .seq us.toArray }).get? s1.heap.objs.size = some { cls := .type "tuple", data := .seq us.toArray } := Heap.get?_push_size _ rfl
  exact ⟨e, z, us, r, ⟨_, e, rfl, _, rfl⟩⟩
/-- t.index(x) of such a tuple -/
def tTIndex (K : PySem.W.Frag) (to : TE) (t : TA) : TE := fun σ H Q => to σ H fun x H1 => (∃ a ob xs, x = .ref a ∧ H1 a = some (.frz ob (.tup xs)) ∧ ob.cls = .type "tuple" ∧ ob.dict = none) ∧ t σ H1 fun xs H2 => rTIndex K x xs H2 Q
theorem pe_tindex (ho : PE X o to) (ha : PA X (e :: es) t)
    (hbase : attributeBase o "index" X.env (eval o X.env) = eval o X.env)
    (hfew : ((backTo cpos (starEach (e :: es) X.env)).all (fun x => !x.1) && (backToKw cpos (keywordEach [] X.env)).all (fun x => x.1.isSome)
      && decide ((e :: es).length + ([] : List Keyword).length + (if ([] : List Keyword).isEmpty then 0 else 1) < 30)) = true)
    (hline : (apos.endLine == cpos.line) = true) (hs : starEach (e :: es) X.env = (false, eval e X.env) :: starEach es X.env) (hplain : (backTo cpos (starEach es X.env)).any (·.1) = false) :
    PE X (.Call (.Attribute o "index" apos) (e :: es) [] cpos) (tTIndex X.K to t) := by
  refine ⟨fun pins s σ H Q I h => ?_⟩
  refine wpAny_Call_method_late hbase hfew hline rfl (thn (ho.run pins s σ H _ I h) fun v s1 ⟨x, H1, I1, r1, ⟨a, ob, xs, ex, hH, hcl, hd⟩, q1⟩ => ?_)
  subst ex
  cases r1
  obtain ⟨e1, _⟩ := I1.hok a _ hH
  refine ⟨"tuple", "tuple.index", PySem.F.plainAttrs_tuple, PySem.F.slot_tuple_index, PySem.F.type_tuple_index, ⟨ob, e1, hcl⟩, fun b eb => by cases eb; exact ⟨ob, e1, hd⟩, ?_⟩
  have hA := ha.run cpos pins s1 σ H1 _ I1 q1
  rw [hs] at hA ⊢
  refine Calls.callWith_builtin (by show (false || (backTo cpos (starEach es X.env)).any (·.1)) = false; rw [hplain] <;> rfl) (Calls.evalArgs_plain ?_)
  exact thn hA fun us s2 ⟨vs, H2, I2, r2, q2⟩ => mt_tindex pins s2 σ H2 (.ref a) vs _ us Q I2 rfl r2 q2
end
/-- the list at a, its items numbered from k on -/
def IteF (K : PySem.W.Frag) (a : Addr) (k : Nat) : It where
  go i H := ∃ (xs : List V) (x : V), SqL K H a xs ∧ xs[i]? = some x
  yld i H v H' := ∃ T x, v = .ref T ∧ H T = none ∧ H' = upd H T (.tup [.int ((k + i : Nat) : Int), x]) ∧ ∀ xs, SqL K H a xs → xs[i]? = some x
  stop i H := ∃ xs : List V, SqL K H a xs ∧ xs.length ≤ i
structure EnSt (a e it : Addr) (k i : Nat) (h : Heap) : Prop where
  en : ∃ old, IsEnum h e it ((k + i : Nat) : Int) old
  ti : h.IsListIter it a i
  ne : e ≠ it
  ai : a ≠ it
  ae : a ≠ e
theorem EnSt.lt {a e it : Addr} {k i : Nat} {h : Heap} (st : EnSt a e it k i h) {b : Addr} (hb : b ∈ [e, it]) : b < h.objs.size := by
  rcases EnT.two hb with rfl | rfl
  · obtain ⟨_, q⟩ := st.en; exact Heap.lt_size q
  · obtain ⟨_, q, _⟩ := st.ti; exact Heap.lt_size q
theorem drawsEnd {prog : Program} {w : World} {A : Around} (hh : A.handled = none) (it l : Addr) (us : Array Value) {i : Nat} (hi : us[i]? = none) :
    Draws prog w A it [it, l] 0 (fun _ _ => True) (fun _ h => h.IsListIter it l i ∧ h.IsList l us) := by
  refine ⟨fun _ _ st => ?_, fun _ _ _ st k => ?_, fun i s Q E z => absurd z (Nat.not_lt_zero i), fun s Q E st hE => ?_⟩
  · obtain ⟨⟨o, ho, _⟩, _⟩ := st
    exact ⟨o, ho⟩
  · exact ⟨st.1.at fun o q => k it (by simp) o q, st.2.at fun o q => k l (by simp) o q⟩
  · exact wpAny_nextOf_list_end hh st.1 st.2 hi hE
theorem turn_enumF {P : Program} {w : World} {K : PySem.W.Frag} {elts : List Expr} {kk : Nat} {tpos : Pos} (a e it : Addr) (k : Nat) : Turn P w K (.Tuple elts kk tpos) (IteF K a k) [e, it] e (EnSt a e it k) := by
  refine ⟨by simp, fun i h st b hb => ?_, fun i h h' st kp => ?_, ?_, ?_, fun A i s Q E st hQ => ?_⟩
  · rcases EnT.two hb with rfl | rfl
    · obtain ⟨_, q⟩ := st.en; exact ⟨_, q, fun v z => nomatch z⟩
    · obtain ⟨o, q, _, d⟩ := st.ti; exact ⟨o, q, fun v z => by rw [d] at z; cases z⟩
  · obtain ⟨old, q⟩ := st.en
    exact ⟨⟨old, kp e (by simp) _ q⟩, st.ti.at fun o z => kp it (by simp) o z, st.ne, st.ai, st.ae⟩
  · rintro X rfl rfl rfl hc i pins s σ H E I hf st ⟨xs, x, hq, hx⟩
    obtain ⟨its, rv, p, hz⟩ := I.list hq
    obtain ⟨u, hu, ru⟩ := rv.get hx
    obtain ⟨old, he⟩ := st.en
    have hlt : i < its.toArray.size := by
      rw [List.size_toArray]; exact (List.getElem?_eq_some_iff.mp hu).1
    refine wpAny_pyNext_enum_itemC (Draws.list (A := X.A.in1) (I.ok.hd hc) it a st.ai its.toArray) he ⟨st.ti, p.isList⟩ hlt st.ne (by simp [st.ne, Ne.symm st.ae]) fun y h' tk py ho st' hT hsz hk => ?_
    have ey : y = u := by
      have py' : its.toArray[i]? = some y := py
      rw [List.getElem?_toArray, hu] at py'; exact (Option.some.inj py').symm
    subst ey
    refine ⟨_, rfl, wpAny_letOwnedTupleGo_enum (s := { s with heap := h', toks := tk + 1 }) ho fun h2 he2 sb => ?_⟩
    have big : ∀ b ∈ [e, it], b ≠ s.heap.objs.size := fun b hb => Nat.ne_of_lt (st.lt hb)
    have hT2 : h2.get? s.heap.objs.size = some { cls := .type "tuple", data := .seq #[.int ((k + i : Nat) : Int) tk, y] } := (sb.2 _ (big e (by simp)).symm).trans hT
    have new : ObjOk X.prog X.w (upd H s.heap.objs.size (.tup [.int ((k + i : Nat) : Int), x])) h2 s.heap.objs.size (.tup [.int ((k + i : Nat) : Int), x]) := ⟨by show 2 ≤ sizeLine; decide, [.int ((k + i : Nat) : Int) tk, y], .cons ⟨_, rfl⟩ (.cons ru .nil), ⟨_, hT2, rfl, _, rfl⟩⟩
    have I1 : Inv X pins σ (upd H s.heap.objs.size (.tup [.int ((k + i : Nat) : Int), x])) { s with heap := h2, toks := tk + 1 } :=
      I.turnedNew (ch := [e, it]) (fun b ob hb q => by
        have n1 : b ≠ e := fun z => hb (by simp [z])
        have n2 : b ≠ it := fun z => hb (by simp [z])
        exact (sb.2 b n1).trans (hk b ob n1 n2 q)) hf (Nat.le_refl _) new
    refine ⟨.ref s.heap.objs.size, _, I1, rfl, ⟨_, x, rfl, I.hok.fresh (Nat.le_refl _), rfl, fun zs hzs => by rw [I.list_inj hzs hq]; exact hx⟩, ⟨⟨y, ?_⟩, st'.1.at fun o q => (sb.2 it (Ne.symm st.ne)).trans q, st.ne, st.ai, st.ae⟩, fun b hb => ?_⟩
    · rw [show ((k + (i + 1) : Nat) : Int) = ((k + i : Nat) : Int) + 1 from by omega]; exact he2
    · rw [upd_ne (big b hb)]; exact (hf b hb).1
  · rintro X rfl rfl rfl hc i pins s σ H E I hf st ⟨xs, hq, hx⟩
    obtain ⟨its, rv, p, hz⟩ := I.list hq
    obtain ⟨old, he⟩ := st.en
    have hl := rv.length
    obtain ⟨f0, f1, f2, f3, f4, f5⟩ := hf it (by simp)
    exact wpAny_pyNext_enum_endD (drawsEnd (A := X.A.in1) (I.ok.hd hc) it a its.toArray (i := i) (by simp; omega)) he ⟨st.ti, p.isList⟩ fun h' eb => ⟨rfl, I.turned (t' := s.toks) (fun b o n q => eb b o n q) f0 f1 f3 f4 f5⟩
  · obtain ⟨_, he⟩ := st.en
    exact wpAny_pyIter_enum he hQ
def iEnumF (K : PySem.W.Frag) (k : Nat) (ta : TA) : TI := fun σ H R => ta σ H fun vs H1 => ∃ a xs, vs = [.ref a, .int k] ∧ SqL K H1 a xs ∧ R (IteF K a k) H1
theorem pi_enumF {X : Cx} {e e2 : Expr} {ta : TA} {p pos tpos : Pos} {elts : List Expr} {kk : Nat} {k : Nat} (hk : k < 1000) (hg : Gl X "enumerate") (hm : X.mg "enumerate" = none) (ha : PA X [e, e2] ta)
    (hs : starEach [e, e2] X.env = (false, eval e X.env) :: starEach [e2] X.env) (hpl : (backTo pos (starEach [e2] X.env)).any (·.1) = false) :
    PI X (.Tuple elts kk tpos) (.Call (.Name "enumerate" p) [e, e2] [] pos) (iEnumF X.K k ta) := by
  constructor
  intro pins s σ H R I h
  refine Call_ (ld_blt I hg hm boot_enumerate (PyProof.Rows.callWith_type1 (thn (ha.run pos pins s σ H _ I h) fun us s1 q => ?_) hs hpl))
  obtain ⟨_, H1, I1, r1, a, xs, rfl, hq, q⟩ := q
  obtain ⟨u1, u2, rfl, ru1, ru2⟩ := r1.two
  cases ru1
  obtain ⟨t, rfl⟩ := ru2
  have fp : ∀ b ∈ [s1.heap.objs.size + 1, s1.heap.objs.size], FpOk X pins H1 b := fun b hb => by
    have le : s1.heap.objs.size ≤ b := by rcases EnT.two hb with rfl | rfl <;> omega
    exact I1.fpOk le (I1.hok.fresh le)
  obtain ⟨its, rv, p', hz⟩ := I1.list hq
  obtain ⟨oa, hoa, _⟩ := p'.isList
  have la : a < s1.heap.objs.size := Heap.lt_size hoa
  refine enum_begins (begins_list a its.toArray) p'.isList (by omega) (by omega) fun h' he ht hsz hk => wpAny_pyIter_enum he ?_
  exact ⟨_, [s1.heap.objs.size + 1, s1.heap.objs.size], _, _, H1, rfl, I1.kept (t' := s1.toks) hk, turn_enumF a (s1.heap.objs.size + 1) s1.heap.objs.size k, ⟨⟨.none, he⟩, ⟨_, ht, rfl, rfl⟩, Nat.succ_ne_self _, Nat.ne_of_lt la, Nat.ne_of_lt (Nat.lt_succ_of_lt la)⟩, fp, q⟩
end EnF
set_option maxHeartbeats 1000000
/-! Ev, part ZS: for x in zip(*rows), rows a tuple of tuples of one length. -/
namespace ZSt
open PySem PySem.Spec PyProof.Rows L2 RZ

theorem an {a b : Nat} (h : a ≠ b) : ¬ ((a : Addr) = (b : Addr)) := h
/-- iterators and rows of either kind: κ says which rows are lists -/
def KIt (κ : Addr → Bool) (h : Heap) (it l : Addr) (i : Nat) : Prop := if κ l = true then h.IsListIter it l i else h.IsTupleIter it l i
def KSq (κ : Addr → Bool) (h : Heap) (l : Addr) (xs : Array Value) : Prop := if κ l = true then h.IsList l xs else h.IsTuple l xs
section
variable {κ : Addr → Bool} {h h' : Heap} {it l b : Addr} {i : Nat} {xs : Array Value}
theorem KIt.at (x : KIt κ h it l i) (e : ∀ o, h.get? it = some o → h'.get? it = some o) : KIt κ h' it l i := by
  unfold KIt at *
  by_cases q : κ l = true
  · rw [if_pos q] at *
    exact Heap.IsListIter.at x e
  · rw [if_neg q] at *
    exact Heap.IsTupleIter.at x e
theorem KIt.extBut (x : KIt κ h it l i) (hs : Heap.ExtBut b h h') (hab : it ≠ b) : KIt κ h' it l i := by
  unfold KIt at *
  by_cases q : κ l = true
  · rw [if_pos q] at *
    exact Heap.IsListIter.extBut x hs hab
  · rw [if_neg q] at *
    exact Heap.IsTupleIter.extBut x hs hab
theorem KSq.keep (x : KSq κ h l xs) (k : ∀ o, h.get? l = some o → h'.get? l = some o) : KSq κ h' l xs := by
  unfold KSq at *
  by_cases q : κ l = true
  · rw [if_pos q] at *
    obtain ⟨o, e, r⟩ := x
    exact ⟨o, k o e, r⟩
  · rw [if_neg q] at *
    obtain ⟨o, e, r⟩ := x
    exact ⟨o, k o e, r⟩
theorem KSq.extBut (x : KSq κ h l xs) (hs : Heap.ExtBut b h h') (hab : l ≠ b) : KSq κ h' l xs := x.keep fun o e => hs _ _ hab e
theorem KSq.lt (x : KSq κ h l xs) : l < h.objs.size := by
  unfold KSq at x
  split at x
  · obtain ⟨o, e, r⟩ := x; exact Heap.lt_size e
  · obtain ⟨o, e, r⟩ := x; exact Heap.lt_size e
theorem KIt.obj (x : KIt κ h it l i) : ∃ o, h.get? it = some o ∧ ∀ v, o.data ≠ .cell v := by
  unfold KIt at x
  split at x
  · obtain ⟨o, e, _, d⟩ := x; exact ⟨o, e, fun v q => by rw [d] at q; cases q⟩
  · obtain ⟨o, e, _, d⟩ := x; exact ⟨o, e, fun v q => by rw [d] at q; cases q⟩
end
section
variable {prog : Program} {w : World} {A : Around} {E : Value → Shared → Prop} {s : Shared} {κ : Addr → Bool}
theorem nextOf_k_item {it l : Addr} {i : Nat} {items} {x : Value} {Q : Value → Shared → Prop} (hit : KIt κ s.heap it l i) (hl : KSq κ s.heap l items) (hx : items[i]? = some x)
    (hQ : ∀ h', KIt κ h' it l (i + 1) → Heap.SameBut it s.heap h' → Q x { s with heap := h' }) : wpAny (model prog w) A (Builtin.SmallTypes.nextOf (.ref it)) Q E s := by
  unfold KIt at *
  unfold KSq at hl
  split at hit
  · rename_i e
    rw [if_pos e] at hl
    exact wpAny_nextOf_list_item hit hl hx fun h' a b => hQ h' (by rw [if_pos e]; exact a) b
  · rename_i e
    rw [if_neg e] at hl
    exact nextOf_tuple_item hit hl hx fun h' a b => hQ h' (by rw [if_neg e]; exact a) b
theorem nextOf_k_end {it l : Addr} {i : Nat} {items} {Q : Value → Shared → Prop} (hh : A.handled = none) (hit : KIt κ s.heap it l i) (hl : KSq κ s.heap l items) (hx : items[i]? = none)
    (hE : ∀ h' e, Heap.ExtBut it s.heap h' → (∃ o, h'.get? e = some o ∧ o.cls = .type "StopIteration") → E (.ref e) { s with heap := h' }) : wpAny (model prog w) A (Builtin.SmallTypes.nextOf (.ref it)) Q E s := by
  unfold KIt at hit
  unfold KSq at hl
  split at hit
  · rename_i e
    rw [if_pos e] at hl
    exact wpAny_nextOf_list_end hh hit hl hx hE
  · rename_i e
    rw [if_neg e] at hl
    exact nextOf_tuple_end hh hit hl hx hE
end
/-- the iterators of a zip over tuples: B, B + 1, .. -/
def itsL (B n : Nat) : List Value := (List.range n).map fun k => Value.ref (B + k : Nat)
structure At (κ : Addr → Bool) (h : Heap) (B : Nat) (ls : List Addr) (i : Nat) : Prop where
  z : ∃ (f0 : Value) (f1 : Bool), (f0 = .none ∨ ∃ T : Nat, f0 = rawInt T) ∧ h.get? (B + ls.length + 2 : Nat) = some { cls := .type "zip", dict := none, data := .fields #[f0, .bool f1, .bool false, .ref (B + ls.length : Nat), .ref (B + ls.length + 1 : Nat)], slots := #[] }
  ti : h.get? (B + ls.length : Nat) = some { cls := .type "tuple", data := .seq (itsL B ls.length).toArray }
  to : ∃ xs : Array Value, xs.size = ls.length ∧ h.get? (B + ls.length + 1 : Nat) = some { cls := .type "tuple", data := .seq xs }
  it : ∀ (k : Nat) (l : Addr), ls[k]? = some l → KIt κ h (B + k : Nat) l i
/-- amid a draw: k of the iterators are drawn from -/
structure Mid (κ : Addr → Bool) (h0 h : Heap) (B : Nat) (ls : List Addr) (i k : Nat) : Prop where
  ti : h.get? (B + ls.length : Nat) = some { cls := .type "tuple", data := .seq (itsL B ls.length).toArray }
  it : ∀ (j : Nat) (l : Addr), ls[j]? = some l → KIt κ h (B + j : Nat) l (if j < k then i + 1 else i)
  sz : h.objs.size = h0.objs.size
  keep : ∀ c o, (c < B ∨ B + ls.length + 2 < c) → h0.get? c = some o → h.get? c = some o
section
variable {prog : Program} {w : World} {A : Around} {E : Value → Shared → Prop} {s : Shared} {B i : Nat} {ls : List Addr} {κ : Addr → Bool}
theorem itsL_get {n k : Nat} (h : k < n) : (itsL B n)[k]? = some (.ref (B + k : Nat)) := by
  unfold itsL
  rw [List.getElem?_map, List.getElem?_range h]; rfl
theorem itsL_len {n : Nat} : (itsL B n).length = n := by unfold itsL; rw [List.length_map, List.length_range]
/-- the rows' items at turn i -/
def Col (κ : Addr → Bool) (h : Heap) (ls : List Addr) (i : Nat) (vs : List Value) : Prop := vs.length = ls.length ∧ ∀ (k : Nat) (l : Addr), ls[k]? = some l → l < h.objs.size ∧ ∃ xs : Array Value, KSq κ h l xs ∧ ∃ v, vs[k]? = some v ∧ xs[i]? = some v
theorem tuple_keep {h h' : Heap} {l : Addr} {xs : Array Value} (t : h.IsTuple l xs) (k : ∀ o, h.get? l = some o → h'.get? l = some o) : h'.IsTuple l xs := by
  obtain ⟨o, e, r⟩ := t
  exact ⟨o, k o e, r⟩
theorem draw_item {h0 : Heap} {k : Nat} {l : Addr} {v : Value} {xs : Array Value} {Q : Value → Shared → Prop} (hs : s.heap = s.heap) (M : Mid κ h0 s.heap B ls i k) (hl : ls[k]? = some l) (hlt : l < B) (hx : KSq κ h0 l xs) (hv : xs[i]? = some v)
    (hQ : ∀ h', Mid κ h0 h' B ls i (k + 1) → (∀ c, (c : Addr) ≠ (B + k : Nat) → ∀ o, s.heap.get? c = some o → h'.get? c = some o) → Q v { s with heap := h' }) :
    wpAny (model prog w) A (Builtin.SmallTypes.nextOf (.ref (B + k : Nat))) Q E s := by
  have hk : k < ls.length := (List.getElem?_eq_some_iff.mp hl).1
  have h1 := M.it k l hl
  rw [if_neg (Nat.lt_irrefl k)] at h1
  refine nextOf_k_item h1 (hx.keep fun o e => M.keep l o (.inl hlt) e) hv fun h' h2 sb => hQ h' ⟨?_, fun j m hj => ?_, ?_, fun c o hc e => ?_⟩ fun c hc o e => sb.extBut _ _ hc e
  · exact sb.extBut _ _ (an (by omega)) M.ti
  · by_cases e : j = k
    · subst e
      rw [hl] at hj; cases hj
      rw [if_pos (Nat.lt_succ_self j)]
      exact h2
    · have q := M.it j m hj
      have hj' : j < ls.length := (List.getElem?_eq_some_iff.mp hj).1
      have r : (if j < k + 1 then i + 1 else i) = if j < k then i + 1 else i := by
        by_cases z : j < k
        · rw [if_pos z, if_pos (by omega)]
        · rw [if_neg z, if_neg (by omega)]
      rw [r]
      exact q.extBut sb.extBut (an (by omega))
  · rw [sb.1, M.sz]
  · exact sb.extBut _ _ (an (by rcases hc with hc | hc <;> omega)) (M.keep c o hc e)

theorem alive {a : Addr} {Q : Option Obj → Shared → Prop} (h : Q (s.heap.get? a) s) : wpAny (model prog w) A (loadIfAlive a) Q E s := fun _ _ _ => h
abbrev zo (f0 : Value) (f1 : Bool) (B n : Nat) : Obj := { cls := .type "zip", dict := none, data := .fields #[f0, .bool f1, .bool false, .ref (B + n : Nat), .ref (B + n + 1 : Nat)], slots := #[] }
/-- is the tuple given out free: yes, or no, and then this is noted -/
theorem is_free {f0 : Value} {f1 : Bool} {n : Nat} {Q : Bool → Shared → Prop} (hf : f0 = .none ∨ ∃ T : Nat, f0 = rawInt T) (hz : s.heap.get? (B + n + 2 : Nat) = some (zo f0 f1 B n))
    (h1 : Q true s) (h2 : ∀ h', h'.get? (B + n + 2 : Nat) = some (zo f0 true B n) → Heap.SameBut (B + n + 2 : Nat) s.heap h' → Q false { s with heap := h' }) : wpAny (model prog w) A (Builtin.SmallTypes.ownedTupleIsFree (.ref (B + n + 2 : Nat))) Q E s := by
  unfold Builtin.SmallTypes.ownedTupleIsFree
  rcases hf with rfl | ⟨T, rfl⟩
  · exact wpAny_bind (wpAny_field hz rfl (x := .none) rfl (wpAny_pure h1))
  · refine wpAny_bind (wpAny_field hz rfl (x := rawInt T) rfl ?_)
    show wpAny _ _ (loadIfAlive ((T : Int).toNat) >>= _) _ _ _
    rw [Int.toNat_natCast]
    refine wpAny_bind (alive ?_)
    cases e : s.heap.get? T with
    | none =>
      simp only [Option.isNone_none, if_true]
      exact wpAny_pure h1
    | some oT =>
      simp only [Option.isNone_some, Bool.false_eq_true, if_false]
      refine wpAny_bind (wpAny_field hz rfl (x := .bool f1) rfl ?_)
      cases f1 with
      | true =>
        rw [if_neg (show ¬ ((Value.bool true != Value.bool true) = true) from Bool.false_ne_true)]
        exact wpAny_pure (h2 s.heap hz (Heap.SameBut.refl _ _))
      | false =>
        rw [if_pos (show (Value.bool false != Value.bool true) = true from rfl)]
        exact wpAny_bind (wpAny_setField_rec hz (by simp) fun h₁ hz₁ hs₁ => wpAny_pure (h2 h₁ hz₁ hs₁))
theorem At.mid {h : Heap} (Z : At κ h B ls i) : Mid κ h h B ls i 0 :=
  ⟨Z.ti, fun j l hj => by rw [if_neg (Nat.not_lt_zero j)]; exact Z.it j l hj, rfl, fun _ _ _ e => e⟩
theorem drop_cons {α : Type} {l : List α} {k : Nat} {x : α} (h : l[k]? = some x) : l.drop k = x :: l.drop (k + 1) := by
  obtain ⟨hk, e⟩ := List.getElem?_eq_some_iff.mp h
  rw [List.drop_eq_getElem_cons hk, e]
theorem ends {α : Type} {l : List α} {x : α} {r : List α} {k : Nat} (h : x :: r = l.drop k) : l[k]? = some x ∧ r = l.drop (k + 1) := by
  have hk : k < l.length := by
    refine Nat.lt_of_not_le fun z => ?_
    rw [List.drop_eq_nil_of_le z] at h; cases h
  rw [List.drop_eq_getElem_cons hk] at h
  obtain ⟨h1, h2⟩ := List.cons.inj h
  exact ⟨by rw [List.getElem?_eq_getElem hk, h1], h2⟩
theorem its_ends {n k : Nat} {x : Value} {r : List Value} (h : x :: r = (itsL B n).drop k) : k < n ∧ x = .ref (B + k : Nat) ∧ r = (itsL B n).drop (k + 1) := by
  obtain ⟨h1, h2⟩ := ends h
  have hk : k < n := by have := (List.getElem?_eq_some_iff.mp h1).1; rw [itsL_len] at this; exact this
  rw [itsL_get hk] at h1
  cases h1
  exact ⟨hk, rfl, h2⟩
theorem zix_get {n k : Nat} (h : k < n) : (itsL B n).zipIdx[k]? = some (.ref (B + k : Nat), k) := by
  rw [List.getElem?_zipIdx, itsL_get h]; simp
theorem zix_ends {n k : Nat} {x : Value × Nat} {r : List (Value × Nat)} (h : x :: r = (itsL B n).zipIdx.drop k) : k < n ∧ x = (.ref (B + k : Nat), k) ∧ r = (itsL B n).zipIdx.drop (k + 1) := by
  obtain ⟨h1, h2⟩ := ends h
  have hk : k < n := by have := (List.getElem?_eq_some_iff.mp h1).1; rw [List.length_zipIdx, itsL_len] at this; exact this
  rw [zix_get hk] at h1
  cases h1
  exact ⟨hk, rfl, h2⟩
theorem updateSeq_tup {T : Addr} {xs : Array Value} {v : Value} {k : Nat} {Q : Unit → Shared → Prop} (hT : s.heap.get? T = some { cls := .type "tuple", data := .seq xs }) (hz : xs.size ≤ 64)
    (h : ∀ h', h'.get? T = some { cls := .type "tuple", data := .seq (xs.setIfInBounds k v) } → Heap.SameBut T s.heap h' → Q () { s with heap := h' }) :
    wpAny (model prog w) A (updateSeq T (·.setIfInBounds k v)) Q E s := by
  have hl : 64 ≤ sizeLine := by rw [sizeLine_eq]; decide
  refine wpAny_updateSeq hT rfl (h _ ?_ (Heap.SameBut.update ..)) (by omega) (by simp; omega)
  rw [Heap.get?_update_self _ hT rfl]
  simp [Obj.mapSeq]
theorem next_item {vs : List Value} {Q : Value → Shared → Prop} (hn : 0 < ls.length) (hls : ls.length ≤ 64) (hlt : ∀ l ∈ ls, (l : Nat) < B) (Z : At κ s.heap B ls i) (hc : Col κ s.heap ls i vs)
    (hQ : ∀ h', At κ h' B ls (i + 1) → h'.get? s.heap.objs.size = some { cls := .type "tuple", data := .seq vs.toArray } → h'.objs.size = s.heap.objs.size + 1 → (∀ (c : Nat) o, (c < B ∨ B + ls.length + 2 < c) → s.heap.get? c = some o → h'.get? c = some o) → Q (.ref s.heap.objs.size) { s with heap := h' }) :
    wpAny (model prog w) A (Builtin.«zip.__next__» ⟨[.ref (B + ls.length + 2 : Nat)], []⟩) (fun fin s' => ∃ v, fin = .done (.ret v) ∧ Q v s') E s := by
  obtain ⟨f0, f1, hf0, hz⟩ := Z.z
  have hemp : (itsL B ls.length).toArray.isEmpty = false := by
    have : (itsL B ls.length).toArray.size ≠ 0 := by rw [List.size_toArray, itsL_len]; omega
    simpa [Array.isEmpty] using this
  show wpAny _ _ (field (.ref (B + ls.length + 2 : Nat)) 2 >>= _) _ _ _
  refine wpAny_bind (wpAny_field hz rfl (x := .bool false) rfl ?_)
  show wpAny _ _ (field (.ref (B + ls.length + 2 : Nat)) 3 >>= _) _ _ _
  refine wpAny_bind (wpAny_field hz rfl (x := .ref (B + ls.length : Nat)) rfl ?_)
  refine wpAny_bind (wpAny_seqItems Z.ti rfl ?_)
  simp only [hemp, Bool.false_eq_true, if_false]
  refine wpAny_bind (is_free hf0 hz ?_ fun h₁ hz₁ hs₁ => ?_)
  · simp only [if_true]
    refine wpAny_bind (wpAny_rule ?_)
    refine wpAny_bind (wpAny_field hz rfl (x := .ref (B + ls.length + 1 : Nat)) rfl ?_)
    refine wpAny_bind (wpAny_setField_rec hz (by simp) fun h₁ hz₁ hs₁ => ?_)
    have hz₁' : h₁.get? (B + ls.length + 2 : Nat) = some (zo .ellipsis f1 B ls.length) := hz₁
    obtain ⟨xs0, hxs0, hto0⟩ := Z.to
    have keep1 : ∀ (c : Nat) o, c ≠ B + ls.length + 2 → s.heap.get? c = some o → h₁.get? c = some o := fun c o hcz e => hs₁.extBut _ _ (an hcz) e
    have mem : ∀ (k : Nat) (l : Addr), ls[k]? = some l → (l : Nat) < B := fun k l e => hlt l (List.mem_of_getElem? e)
    have M1 : Mid κ s.heap h₁ B ls i 0 := by
      refine ⟨keep1 _ _ (by omega) Z.ti, fun j l hj => ?_, hs₁.1, fun c o hcc e => keep1 c o (by rcases hcc with q | q <;> omega) e⟩
      have hj' : j < ls.length := (List.getElem?_eq_some_iff.mp hj).1
      rw [if_neg (Nat.not_lt_zero j)]
      exact (Z.it j l hj).extBut hs₁.extBut (an (by omega))
    refine wpAny_bind ?_
    refine wpAny_forIn_list _ (fun rest b s' => b.1 = none ∧ ∃ k, rest = (itsL B ls.length).zipIdx.drop k ∧ k ≤ ls.length ∧ ∃ h, s' = { s with heap := h } ∧ Mid κ s.heap h B ls i k ∧ h.get? (B + ls.length + 2 : Nat) = some (zo .ellipsis f1 B ls.length) ∧
      ∃ xs : Array Value, xs.size = ls.length ∧ h.get? (B + ls.length + 1 : Nat) = some { cls := .type "tuple", data := .seq xs } ∧ ∀ j, j < k → xs[j]? = vs[j]?) _ ?turn ?fin _ _ ?start
    case start => exact ⟨rfl, 0, rfl, Nat.zero_le _, h₁, rfl, M1, hz₁', xs0, hxs0, keep1 _ _ (by omega) hto0, fun j hj => absurd hj (Nat.not_lt_zero j)⟩
    case turn =>
      rintro x rest b s' ⟨hb, k, hr, hk, h, rfl, M, hzz, xs, hxs, hto, hpre⟩
      obtain ⟨hk', rfl, rfl⟩ := zix_ends hr
      obtain ⟨l, hl⟩ : ∃ l, ls[k]? = some l := ⟨_, List.getElem?_eq_getElem hk'⟩
      obtain ⟨_, us, hus, v, hv, huv⟩ := hc.2 k l hl
      refine wpAny_bind (wpAny_onRaise ?_)
      show wpAny _ _ (Builtin.SmallTypes.nextOf (.ref (B + k : Nat)) >>= _) _ _ _
      refine wpAny_bind (draw_item (s := { s with heap := h }) rfl M hl (mem k l hl) hus huv fun h2 M2 kp => wpAny_pure ?_)
      have hto2 := kp (B + ls.length + 1) (an (by omega)) _ hto
      refine wpAny_bind (wpAny_seqItems (s := { s with heap := h2 }) hto2 rfl ?_)
      refine wpAny_bind (updateSeq_tup (s := { s with heap := h2 }) hto2 (by omega) fun h3 hto3 hs3 => ?_)
      refine wpAny_bind (wpAny_letGo (wpAny_pure ?_))
      have up : ∀ (c : Nat) o, c ≠ B + ls.length + 1 → h2.get? c = some o → h3.get? c = some o := fun c o hcz e => hs3.extBut _ _ (an hcz) e
      refine ⟨rfl, k + 1, rfl, hk', h3, rfl, ⟨up _ _ (by omega) M2.ti, fun j m hj => ?_, by rw [hs3.1, M2.sz], fun c o hcc e => up c o (by rcases hcc with q | q <;> omega) (M2.keep c o hcc e)⟩, up _ _ (by omega) (kp (B + ls.length + 2) (an (by omega)) _ hzz), _, by simpa using hxs, hto3, fun j hj => ?_⟩
      · have hj' : j < ls.length := (List.getElem?_eq_some_iff.mp hj).1
        exact (M2.it j m hj).extBut hs3.extBut (an (by omega))
      · by_cases e : j = k
        · subst e
          rw [hv, Array.getElem?_setIfInBounds_self_of_lt (by omega)]
        · rw [Array.getElem?_setIfInBounds_ne (Ne.symm e)]
          exact hpre j (by omega)
    case fin =>
      rintro ⟨b1, ⟨⟩⟩ s' ⟨hb, k, hr, hk, h, rfl, M, hzz, xs, hxs, hto, hpre⟩
      cases hb
      have hkn : k = ls.length := by
        have := congrArg List.length hr
        rw [List.length_drop, List.length_zipIdx, itsL_len] at this
        simp at this; omega
      subst hkn
      have hvs : xs = vs.toArray := by
        refine Array.ext (by rw [hxs, List.size_toArray, hc.1]) fun j h1 h2 => ?_
        have := hpre j (by omega)
        rw [Array.getElem?_eq_getElem h1, List.getElem?_eq_getElem (by simpa using h2)] at this
        simpa using Option.some.inj this
      subst hvs
      refine wpAny_bind (wpAny_seqItems (s := { s with heap := h }) hto rfl ?_)
      show wpAny _ _ (newTuple vs.toArray.toList >>= _) _ _ _
      have hl64 : 64 ≤ sizeLine := by rw [sizeLine_eq]; decide
      refine wpAny_bind (wpAny_newTuple ?_ (by have := hc.1; simp; omega))
      have hsz : h.objs.size = s.heap.objs.size := M.sz
      have hzlt : (B + ls.length + 2 : Nat) < h.objs.size := Heap.lt_size hzz
      show wpAny _ _ (Builtin.SmallTypes.ownedTupleHandOut (.ref (B + ls.length + 2 : Nat)) (.ref h.objs.size) >>= _) _ _ _
      refine wpAny_bind ?_
      unfold Builtin.SmallTypes.ownedTupleHandOut
      have hz6 : (h.push { cls := .type "tuple", data := .seq vs.toArray.toList.toArray }).get? (B + ls.length + 2 : Nat) = some (zo .ellipsis f1 B ls.length) := Heap.get?_push_of_some _ hzz
      refine wpAny_bind (wpAny_setField_rec hz6 (by simp) fun h7 hz7 hs7 => ?_)
      replace hz7 : h7.get? (B + ls.length + 2 : Nat) = some (zo (rawInt h.objs.size) f1 B ls.length) := hz7
      refine wpAny_setField_rec hz7 (by simp) fun h8 hz8 hs8 => ?_
      replace hz8 : h8.get? (B + ls.length + 2 : Nat) = some (zo (rawInt h.objs.size) false B ls.length) := hz8
      have up : ∀ (c : Nat) o, c ≠ B + ls.length + 2 → h.get? c = some o → h8.get? c = some o := fun c o c1 e => hs8.extBut _ _ (an c1) (hs7.extBut _ _ (an c1) (Heap.get?_push_of_some _ e))
      refine wpAny_pure ⟨_, rfl, ?_⟩
      show Q (.ref h.objs.size) _
      have hT : h8.get? h.objs.size = some { cls := .type "tuple", data := .seq vs.toArray } := by
        have e : (h.push { cls := .type "tuple", data := .seq vs.toArray.toList.toArray }).get? h.objs.size = some _ := Heap.get?_push_size _ rfl
        exact hs8.extBut _ _ (an (Nat.ne_of_gt hzlt)) (hs7.extBut _ _ (an (Nat.ne_of_gt hzlt)) e)
      have h8s : h8.objs.size = h.objs.size + 1 := by rw [hs8.1, hs7.1, Heap.size_push]
      rw [hsz] at hz8 hT h8s ⊢
      refine hQ h8 ⟨⟨_, _, .inr ⟨_, rfl⟩, hz8⟩, up _ _ (by omega) M.ti, ⟨_, hxs, up _ _ (by omega) hto⟩, fun j m hj => ?_⟩ hT h8s fun c o hcc e => up c o (by rcases hcc with q | q <;> omega) (M.keep c o hcc e)
      have hj' : j < ls.length := (List.getElem?_eq_some_iff.mp hj).1
      have q := M.it j m hj
      rw [if_pos hj'] at q
      exact q.at fun o e => up _ o (by omega) e
  · simp only [Bool.false_eq_true, if_false]
    obtain ⟨xs0, hxs0, hto0⟩ := Z.to
    have keep1 : ∀ (c : Nat) o, c ≠ B + ls.length + 2 → s.heap.get? c = some o → h₁.get? c = some o := fun c o hcz e => hs₁.extBut _ _ (an hcz) e
    have mem : ∀ (k : Nat) (l : Addr), ls[k]? = some l → (l : Nat) < B := fun k l e => hlt l (List.mem_of_getElem? e)
    have M1 : Mid κ s.heap h₁ B ls i 0 := by
      refine ⟨keep1 _ _ (by omega) Z.ti, fun j l hj => ?_, hs₁.1, fun c o hcc e => keep1 c o (by rcases hcc with q | q <;> omega) e⟩
      have hj' : j < ls.length := (List.getElem?_eq_some_iff.mp hj).1
      rw [if_neg (Nat.not_lt_zero j)]
      exact (Z.it j l hj).extBut hs₁.extBut (an (by omega))
    refine wpAny_bind ?_
    rw [← Array.forIn_toList]
    refine wpAny_forIn_list _ (fun rest b s' => b.1 = none ∧ ∃ k, rest = (itsL B ls.length).drop k ∧ k ≤ ls.length ∧ b.2.toList = vs.take k ∧ ∃ h, s' = { s with heap := h } ∧ Mid κ s.heap h B ls i k ∧ h.get? (B + ls.length + 2 : Nat) = some (zo f0 true B ls.length) ∧
      h.get? (B + ls.length + 1 : Nat) = some { cls := .type "tuple", data := .seq xs0 }) _ ?turn ?fin _ _ ?start
    case start => exact ⟨rfl, 0, rfl, Nat.zero_le _, by simp, h₁, rfl, M1, hz₁, keep1 _ _ (by omega) hto0⟩
    case turn =>
      rintro x rest b s' ⟨hb, k, hr, hk, hpre, h, rfl, M, hzz, hto⟩
      obtain ⟨hk', rfl, rfl⟩ := its_ends hr
      obtain ⟨l, hl⟩ : ∃ l, ls[k]? = some l := ⟨_, List.getElem?_eq_getElem hk'⟩
      obtain ⟨_, us, hus, v, hv, huv⟩ := hc.2 k l hl
      refine wpAny_bind (wpAny_holding ?_)
      show wpAny _ _ (Builtin.SmallTypes.nextOf (.ref (B + k : Nat)) >>= _) _ _ _
      refine wpAny_bind (draw_item (s := { s with heap := h }) rfl M hl (mem k l hl) hus huv fun h2 M2 kp => wpAny_pure ?_)
      refine wpAny_pure ⟨rfl, k + 1, rfl, hk', ?_, h2, rfl, M2, kp _ (an (by omega)) _ hzz, kp _ (an (by omega)) _ hto⟩
      rw [Array.toList_push, hpre]
      have hkv : k < vs.length := by rw [hc.1]; exact hk'
      rw [List.getElem?_eq_getElem hkv] at hv
      cases hv
      rw [List.take_succ_eq_append_getElem hkv]
    case fin =>
      rintro ⟨b1, b2⟩ s' ⟨hb, k, hr, hk, hpre, h, rfl, M, hzz, hto⟩
      cases hb
      have hkn : k = ls.length := by
        have := congrArg List.length hr
        rw [List.length_drop, itsL_len] at this
        simp at this; omega
      subst hkn
      have hpre' : b2.toList = vs := by
        have : b2.toList = vs.take ls.length := hpre
        rw [this, ← hc.1, List.take_length]
      show wpAny _ _ (newTuple b2.toList >>= _) _ _ _
      rw [hpre']
      have hl64 : 64 ≤ sizeLine := by rw [sizeLine_eq]; decide
      refine wpAny_bind (wpAny_newTuple ?_ (by have := hc.1; omega))
      have hsz : h.objs.size = s.heap.objs.size := M.sz
      refine wpAny_pure ⟨_, rfl, ?_⟩
      show Q (.ref h.objs.size) _
      have hT : (h.push { cls := .type "tuple", data := .seq vs.toArray }).get? h.objs.size = some _ := Heap.get?_push_size _ rfl
      have h8s : (h.push { cls := .type "tuple", data := .seq vs.toArray }).objs.size = h.objs.size + 1 := Heap.size_push ..
      have up : ∀ (c : Nat) o, h.get? c = some o → (h.push { cls := .type "tuple", data := .seq vs.toArray }).get? c = some o := fun c o e => Heap.get?_push_of_some _ e
      rw [hsz] at hT h8s ⊢
      refine hQ _ ⟨⟨_, _, hf0, up _ _ hzz⟩, up _ _ M.ti, ⟨_, hxs0, up _ _ hto⟩, fun j m hj => ?_⟩ hT h8s fun c o hcc e => up c o (M.keep c o hcc e)
      have hj' : j < ls.length := (List.getElem?_eq_some_iff.mp hj).1
      have q := M.it j m hj
      rw [if_pos hj'] at q
      exact q.at fun o e => up _ o e
/-- .. where the tuple given out last was let go -/
theorem next_item0 {vs : List Value} {Q : Value → Shared → Prop} (hn : 0 < ls.length) (hls : ls.length ≤ 64) (hlt : ∀ l ∈ ls, (l : Nat) < B) (Z : At κ s.heap B ls i) (hz : s.heap.get? (B + ls.length + 2 : Nat) = some (zo .none false B ls.length)) (hc : Col κ s.heap ls i vs)
    (hQ : ∀ h', At κ h' B ls (i + 1) → h'.get? (B + ls.length + 2 : Nat) = some (zo (rawInt s.heap.objs.size) false B ls.length) → h'.get? s.heap.objs.size = some { cls := .type "tuple", data := .seq vs.toArray } → h'.objs.size = s.heap.objs.size + 1 → (∀ (c : Nat) o, (c < B ∨ B + ls.length + 2 < c) → s.heap.get? c = some o → h'.get? c = some o) → Q (.ref s.heap.objs.size) { s with heap := h' }) :
    wpAny (model prog w) A (Builtin.«zip.__next__» ⟨[.ref (B + ls.length + 2 : Nat)], []⟩) (fun fin s' => ∃ v, fin = .done (.ret v) ∧ Q v s') E s := by
  have hemp : (itsL B ls.length).toArray.isEmpty = false := by
    have : (itsL B ls.length).toArray.size ≠ 0 := by rw [List.size_toArray, itsL_len]; omega
    simpa [Array.isEmpty] using this
  show wpAny _ _ (field (.ref (B + ls.length + 2 : Nat)) 2 >>= _) _ _ _
  refine wpAny_bind (wpAny_field hz rfl (x := .bool false) rfl ?_)
  show wpAny _ _ (field (.ref (B + ls.length + 2 : Nat)) 3 >>= _) _ _ _
  refine wpAny_bind (wpAny_field hz rfl (x := .ref (B + ls.length : Nat)) rfl ?_)
  refine wpAny_bind (wpAny_seqItems Z.ti rfl ?_)
  simp only [hemp, Bool.false_eq_true, if_false]
  unfold Builtin.SmallTypes.ownedTupleIsFree
  refine wpAny_bind (wpAny_bind (wpAny_field hz rfl (x := .none) rfl (wpAny_pure ?_)))
  simp only [Option.isNone_none, if_true]
  refine wpAny_bind (wpAny_rule ?_)
  refine wpAny_bind (wpAny_field hz rfl (x := .ref (B + ls.length + 1 : Nat)) rfl ?_)
  refine wpAny_bind (wpAny_setField_rec hz (by simp) fun h₁ hz₁ hs₁ => ?_)
  have hz₁' : h₁.get? (B + ls.length + 2 : Nat) = some (zo .ellipsis false B ls.length) := hz₁
  obtain ⟨xs0, hxs0, hto0⟩ := Z.to
  have keep1 : ∀ (c : Nat) o, c ≠ B + ls.length + 2 → s.heap.get? c = some o → h₁.get? c = some o := fun c o hcz e => hs₁.extBut _ _ (an hcz) e
  have mem : ∀ (k : Nat) (l : Addr), ls[k]? = some l → (l : Nat) < B := fun k l e => hlt l (List.mem_of_getElem? e)
  have M1 : Mid κ s.heap h₁ B ls i 0 := by
    refine ⟨keep1 _ _ (by omega) Z.ti, fun j l hj => ?_, hs₁.1, fun c o hcc e => keep1 c o (by rcases hcc with q | q <;> omega) e⟩
    have hj' : j < ls.length := (List.getElem?_eq_some_iff.mp hj).1
    rw [if_neg (Nat.not_lt_zero j)]
    exact (Z.it j l hj).extBut hs₁.extBut (an (by omega))
  refine wpAny_bind ?_
  refine wpAny_forIn_list _ (fun rest b s' => b.1 = none ∧ ∃ k, rest = (itsL B ls.length).zipIdx.drop k ∧ k ≤ ls.length ∧ ∃ h, s' = { s with heap := h } ∧ Mid κ s.heap h B ls i k ∧ h.get? (B + ls.length + 2 : Nat) = some (zo .ellipsis false B ls.length) ∧
    ∃ xs : Array Value, xs.size = ls.length ∧ h.get? (B + ls.length + 1 : Nat) = some { cls := .type "tuple", data := .seq xs } ∧ ∀ j, j < k → xs[j]? = vs[j]?) _ ?turn ?fin _ _ ?start
  case start => exact ⟨rfl, 0, rfl, Nat.zero_le _, h₁, rfl, M1, hz₁', xs0, hxs0, keep1 _ _ (by omega) hto0, fun j hj => absurd hj (Nat.not_lt_zero j)⟩
  case turn =>
    rintro x rest b s' ⟨hb, k, hr, hk, h, rfl, M, hzz, xs, hxs, hto, hpre⟩
    obtain ⟨hk', rfl, rfl⟩ := zix_ends hr
    obtain ⟨l, hl⟩ : ∃ l, ls[k]? = some l := ⟨_, List.getElem?_eq_getElem hk'⟩
    obtain ⟨_, us, hus, v, hv, huv⟩ := hc.2 k l hl
    refine wpAny_bind (wpAny_onRaise ?_)
    show wpAny _ _ (Builtin.SmallTypes.nextOf (.ref (B + k : Nat)) >>= _) _ _ _
    refine wpAny_bind (draw_item (s := { s with heap := h }) rfl M hl (mem k l hl) hus huv fun h2 M2 kp => wpAny_pure ?_)
    have hto2 := kp (B + ls.length + 1) (an (by omega)) _ hto
    refine wpAny_bind (wpAny_seqItems (s := { s with heap := h2 }) hto2 rfl ?_)
    refine wpAny_bind (updateSeq_tup (s := { s with heap := h2 }) hto2 (by omega) fun h3 hto3 hs3 => ?_)
    refine wpAny_bind (wpAny_letGo (wpAny_pure ?_))
    have up : ∀ (c : Nat) o, c ≠ B + ls.length + 1 → h2.get? c = some o → h3.get? c = some o := fun c o hcz e => hs3.extBut _ _ (an hcz) e
    refine ⟨rfl, k + 1, rfl, hk', h3, rfl, ⟨up _ _ (by omega) M2.ti, fun j m hj => ?_, by rw [hs3.1, M2.sz], fun c o hcc e => up c o (by rcases hcc with q | q <;> omega) (M2.keep c o hcc e)⟩, up _ _ (by omega) (kp (B + ls.length + 2) (an (by omega)) _ hzz), _, by simpa using hxs, hto3, fun j hj => ?_⟩
    · have hj' : j < ls.length := (List.getElem?_eq_some_iff.mp hj).1
      exact (M2.it j m hj).extBut hs3.extBut (an (by omega))
    · by_cases e : j = k
      · subst e
        rw [hv, Array.getElem?_setIfInBounds_self_of_lt (by omega)]
      · rw [Array.getElem?_setIfInBounds_ne (Ne.symm e)]
        exact hpre j (by omega)
  case fin =>
    rintro ⟨b1, ⟨⟩⟩ s' ⟨hb, k, hr, hk, h, rfl, M, hzz, xs, hxs, hto, hpre⟩
    cases hb
    have hkn : k = ls.length := by
      have := congrArg List.length hr
      rw [List.length_drop, List.length_zipIdx, itsL_len] at this
      simp at this; omega
    subst hkn
    have hvs : xs = vs.toArray := by
      refine Array.ext (by rw [hxs, List.size_toArray, hc.1]) fun j h1 h2 => ?_
      have := hpre j (by omega)
      rw [Array.getElem?_eq_getElem h1, List.getElem?_eq_getElem (by simpa using h2)] at this
      simpa using Option.some.inj this
    subst hvs
    refine wpAny_bind (wpAny_seqItems (s := { s with heap := h }) hto rfl ?_)
    show wpAny _ _ (newTuple vs.toArray.toList >>= _) _ _ _
    have hl64 : 64 ≤ sizeLine := by rw [sizeLine_eq]; decide
    refine wpAny_bind (wpAny_newTuple ?_ (by have := hc.1; simp; omega))
    have hsz : h.objs.size = s.heap.objs.size := M.sz
    have hzlt : (B + ls.length + 2 : Nat) < h.objs.size := Heap.lt_size hzz
    show wpAny _ _ (Builtin.SmallTypes.ownedTupleHandOut (.ref (B + ls.length + 2 : Nat)) (.ref h.objs.size) >>= _) _ _ _
    refine wpAny_bind ?_
    unfold Builtin.SmallTypes.ownedTupleHandOut
    have hz6 : (h.push { cls := .type "tuple", data := .seq vs.toArray.toList.toArray }).get? (B + ls.length + 2 : Nat) = some (zo .ellipsis false B ls.length) := Heap.get?_push_of_some _ hzz
    refine wpAny_bind (wpAny_setField_rec hz6 (by simp) fun h7 hz7 hs7 => ?_)
    replace hz7 : h7.get? (B + ls.length + 2 : Nat) = some (zo (rawInt h.objs.size) false B ls.length) := hz7
    refine wpAny_setField_rec hz7 (by simp) fun h8 hz8 hs8 => ?_
    replace hz8 : h8.get? (B + ls.length + 2 : Nat) = some (zo (rawInt h.objs.size) false B ls.length) := hz8
    have up : ∀ (c : Nat) o, c ≠ B + ls.length + 2 → h.get? c = some o → h8.get? c = some o := fun c o c1 e => hs8.extBut _ _ (an c1) (hs7.extBut _ _ (an c1) (Heap.get?_push_of_some _ e))
    refine wpAny_pure ⟨_, rfl, ?_⟩
    show Q (.ref h.objs.size) _
    have hT : h8.get? h.objs.size = some { cls := .type "tuple", data := .seq vs.toArray } := by
      have e : (h.push { cls := .type "tuple", data := .seq vs.toArray.toList.toArray }).get? h.objs.size = some _ := Heap.get?_push_size _ rfl
      exact hs8.extBut _ _ (an (Nat.ne_of_gt hzlt)) (hs7.extBut _ _ (an (Nat.ne_of_gt hzlt)) e)
    have h8s : h8.objs.size = h.objs.size + 1 := by rw [hs8.1, hs7.1, Heap.size_push]
    rw [hsz] at hz8 hT h8s ⊢
    refine hQ h8 ⟨⟨_, _, .inr ⟨_, rfl⟩, hz8⟩, up _ _ (by omega) M.ti, ⟨_, hxs, up _ _ (by omega) hto⟩, fun j m hj => ?_⟩ hz8 hT h8s fun c o hcc e => up c o (by rcases hcc with q | q <;> omega) (M.keep c o hcc e)
    have hj' : j < ls.length := (List.getElem?_eq_some_iff.mp hj).1
    have q := M.it j m hj
    rw [if_pos hj'] at q
    exact q.at fun o e => up _ o (by omega) e
theorem its_cons {n : Nat} (h : 0 < n) : itsL B n = .ref (B : Nat) :: (itsL B n).drop 1 := by
  have := drop_cons (itsL_get (B := B) h)
  rw [List.drop_zero] at this
  exact this
theorem zix_cons {n : Nat} (h : 0 < n) : (itsL B n).zipIdx = (.ref (B : Nat), 0) :: (itsL B n).zipIdx.drop 1 := by
  have := drop_cons (zix_get (B := B) h)
  rw [List.drop_zero] at this
  exact this
theorem lt_ne2 {a b n : Nat} (h : a < b) : a ≠ b + n + 2 := by omega
theorem next_end {l0 : Addr} {us : Array Value} {Q : PySem.Fin → Shared → Prop} (hh : A.handled = none) (hl0 : ls[0]? = some l0) (hlt : (l0 : Nat) < B) (Z : At κ s.heap B ls i) (hx : KSq κ s.heap l0 us) (he : us[i]? = none)
    (hE : ∀ h' e, (∀ (c : Nat) o, (c < B ∨ B + ls.length + 2 < c) → s.heap.get? c = some o → h'.get? c = some o) → (∃ o, h'.get? e = some o ∧ o.cls = .type "StopIteration") → E (.ref e) { s with heap := h' }) :
    wpAny (model prog w) A (Builtin.«zip.__next__» ⟨[.ref (B + ls.length + 2 : Nat)], []⟩) Q E s := by
  have hn : 0 < ls.length := (List.getElem?_eq_some_iff.mp hl0).1
  obtain ⟨f0, f1, hf0, hz⟩ := Z.z
  have hemp : (itsL B ls.length).toArray.isEmpty = false := by
    have : (itsL B ls.length).toArray.size ≠ 0 := by rw [List.size_toArray, itsL_len]; omega
    simpa [Array.isEmpty] using this
  have it0 := Z.it 0 l0 hl0
  show wpAny _ _ (field (.ref (B + ls.length + 2 : Nat)) 2 >>= _) _ _ _
  refine wpAny_bind (wpAny_field hz rfl (x := .bool false) rfl ?_)
  show wpAny _ _ (field (.ref (B + ls.length + 2 : Nat)) 3 >>= _) _ _ _
  refine wpAny_bind (wpAny_field hz rfl (x := .ref (B + ls.length : Nat)) rfl ?_)
  refine wpAny_bind (wpAny_seqItems Z.ti rfl ?_)
  simp only [hemp, Bool.false_eq_true, if_false]
  refine wpAny_bind (is_free hf0 hz ?_ fun h₁ hz₁ hs₁ => ?_)
  · simp only [if_true]
    refine wpAny_bind (wpAny_rule ?_)
    refine wpAny_bind (wpAny_field hz rfl (x := .ref (B + ls.length + 1 : Nat)) rfl ?_)
    refine wpAny_bind (wpAny_setField_rec hz (by simp) fun h₁ hz₁ hs₁ => ?_)
    have hz₁' : h₁.get? (B + ls.length + 2 : Nat) = some (zo .ellipsis f1 B ls.length) := hz₁
    refine wpAny_bind ?_
    show wpAny _ _ (forIn (itsL B ls.length).zipIdx _ _) _ _ _
    rw [zix_cons hn, List.forIn_cons]
    refine wpAny_bind (wpAny_bind (wpAny_onRaise ?_))
    show wpAny _ _ (Builtin.SmallTypes.nextOf (.ref (B : Nat)) >>= _) _ _ _
    refine wpAny_bind (nextOf_k_end (s := { s with heap := h₁ }) hh (it0.extBut hs₁.extBut (an (by omega))) (hx.extBut hs₁.extBut (an (lt_ne2 hlt))) he fun h₂ e hs₂ hoe => ?_)
    obtain ⟨oe, hoe, hce⟩ := hoe
    have hz₂ : h₂.get? (B + ls.length + 2 : Nat) = some (zo .ellipsis f1 B ls.length) := hs₂ _ _ (an (by omega)) hz₁'
    have hez : e ≠ (B + ls.length + 2 : Nat) := fun x => by subst x; rw [hz₂] at hoe; cases hoe; simp at hce
    refine wpAny_setField_rec hz₂ (by simp) fun h₃ _ hs₃ => hE h₃ e (fun c o hcc x => hs₃.extBut _ _ (an (by rcases hcc with q | q <;> omega)) (hs₂ _ _ (an (by rcases hcc with q | q <;> omega)) (hs₁.extBut _ _ (an (by rcases hcc with q | q <;> omega)) x))) ⟨oe, hs₃.extBut _ _ hez hoe, hce⟩
  · simp only [Bool.false_eq_true, if_false]
    refine wpAny_bind ?_
    rw [← Array.forIn_toList]
    show wpAny _ _ (forIn (itsL B ls.length) _ _) _ _ _
    rw [its_cons hn, List.forIn_cons]
    refine wpAny_bind (wpAny_bind (wpAny_holding ?_))
    show wpAny _ _ (Builtin.SmallTypes.nextOf (.ref (B : Nat)) >>= _) _ _ _
    refine wpAny_bind (nextOf_k_end (s := { s with heap := h₁ }) hh (it0.extBut hs₁.extBut (an (by omega))) (hx.extBut hs₁.extBut (an (lt_ne2 hlt))) he fun h₂ e hs₂ hoe => ?_)
    exact hE h₂ e (fun c o hcc x => hs₂ _ _ (an (by rcases hcc with q | q <;> omega)) (hs₁.extBut _ _ (an (by rcases hcc with q | q <;> omega)) x)) hoe
theorem typeIs {h : Heap} {g : Shared} (Z : At κ g.heap B ls i) : g.TypeIs (.ref (B + ls.length + 2 : Nat)) "zip" := by
  obtain ⟨_, _, _, hz⟩ := Z.z
  exact ⟨_, hz, rfl⟩
theorem pyNext_item {vs : List Value} {Q : Option Value → Shared → Prop} (hn : 0 < ls.length) (hls : ls.length ≤ 64) (hlt : ∀ l ∈ ls, (l : Nat) < B) (Z : At κ s.heap B ls i) (hc : Col κ s.heap ls i vs)
    (hQ : ∀ h', At κ h' B ls (i + 1) → h'.get? s.heap.objs.size = some { cls := .type "tuple", data := .seq vs.toArray } → h'.objs.size = s.heap.objs.size + 1 → (∀ (c : Nat) o, (c < B ∨ B + ls.length + 2 < c) → s.heap.get? c = some o → h'.get? c = some o) → Q (some (.ref s.heap.objs.size)) { s with heap := h' }) :
    wpAny (model prog w) A (pyNext (.ref (B + ls.length + 2 : Nat))) Q E s := by
  have hT : s.TypeIs (.ref (B + ls.length + 2 : Nat)) "zip" := typeIs (h := s.heap) Z
  unfold pyNext
  exact wpAny_bind (wpAny_attempt (wpAny_callSpecial?_slot (name := Str.ofString "__next__") hT F.slot_zip_next
    (wpAny_call_entry F.slot_zip_next hT F.entry_zip_next
      (next_item hn hls hlt Z hc fun h' a1 a2 a3 a4 => wpAny_pure (hQ h' a1 a2 a3 a4)) (F.args_zip_next_1 _))))
theorem pyNext_item0 {vs : List Value} {Q : Option Value → Shared → Prop} (hn : 0 < ls.length) (hls : ls.length ≤ 64) (hlt : ∀ l ∈ ls, (l : Nat) < B) (Z : At κ s.heap B ls i) (hz : s.heap.get? (B + ls.length + 2 : Nat) = some (zo .none false B ls.length)) (hc : Col κ s.heap ls i vs)
    (hQ : ∀ h', At κ h' B ls (i + 1) → h'.get? (B + ls.length + 2 : Nat) = some (zo (rawInt s.heap.objs.size) false B ls.length) → h'.get? s.heap.objs.size = some { cls := .type "tuple", data := .seq vs.toArray } → h'.objs.size = s.heap.objs.size + 1 → (∀ (c : Nat) o, (c < B ∨ B + ls.length + 2 < c) → s.heap.get? c = some o → h'.get? c = some o) → Q (some (.ref s.heap.objs.size)) { s with heap := h' }) :
    wpAny (model prog w) A (pyNext (.ref (B + ls.length + 2 : Nat))) Q E s := by
  have hT : s.TypeIs (.ref (B + ls.length + 2 : Nat)) "zip" := typeIs (h := s.heap) Z
  unfold pyNext
  exact wpAny_bind (wpAny_attempt (wpAny_callSpecial?_slot (name := Str.ofString "__next__") hT F.slot_zip_next
    (wpAny_call_entry F.slot_zip_next hT F.entry_zip_next
      (next_item0 hn hls hlt Z hz hc fun h' a0 a1 a2 a3 a4 => wpAny_pure (hQ h' a0 a1 a2 a3 a4)) (F.args_zip_next_1 _))))
theorem pyNext_end {l0 : Addr} {us : Array Value} {Q : Option Value → Shared → Prop} (hh : A.handled = none) (hl0 : ls[0]? = some l0) (hlt : (l0 : Nat) < B) (Z : At κ s.heap B ls i) (hx : KSq κ s.heap l0 us) (he : us[i]? = none)
    (hQ : ∀ h', (∀ (c : Nat) o, (c < B ∨ B + ls.length + 2 < c) → s.heap.get? c = some o → h'.get? c = some o) → Q none { s with heap := h' }) : wpAny (model prog w) A (pyNext (.ref (B + ls.length + 2 : Nat))) Q E s := by
  have hT : s.TypeIs (.ref (B + ls.length + 2 : Nat)) "zip" := typeIs (h := s.heap) Z
  unfold pyNext
  refine wpAny_bind (wpAny_attempt (wpAny_callSpecial?_slot (name := Str.ofString "__next__") hT F.slot_zip_next
    (wpAny_call_entry F.slot_zip_next hT F.entry_zip_next (next_end hh hl0 hlt Z hx he fun h' e hk he => ?_) (F.args_zip_next_1 _))))
  obtain ⟨o, ho, hc⟩ := he
  refine wpAny_bind (wpAny_isInstance (T := "StopIteration") (b := true) ⟨o, ho, hc⟩ isSubtype_stop ?_)
  exact wpAny_pure (hQ _ hk)
end
theorem itsL_succ {B k : Nat} : itsL B (k + 1) = itsL B k ++ [.ref (B + k : Nat)] := by
  unfold itsL
  rw [List.range_succ, List.map_append]; rfl
/-- amid the making: k iterators stand -/
def Made (κ : Addr → Bool) (h0 h : Heap) (ls : List Addr) (k : Nat) : Prop := h.objs.size = h0.objs.size + k ∧ (∀ (j : Nat) (l : Addr), j < k → ls[j]? = some l → KIt κ h (h0.objs.size + j : Nat) l 0) ∧ ∀ c o, h0.get? c = some o → h.get? c = some o
def itO (κ : Addr → Bool) (l : Addr) : Obj := if κ l = true then { cls := .type "list_iterator", data := .fields #[.ref l, .int 0 0] } else { cls := .type "tuple_iterator", data := .fields #[.ref l, .int 0 0] }
theorem itO_it {κ : Addr → Bool} {h : Heap} {l : Addr} : KIt κ (h.push (itO κ l)) h.objs.size l 0 := by
  unfold KIt itO
  by_cases q : κ l = true
  · rw [if_pos q, if_pos q]
    exact ⟨_, Heap.get?_push_size _ rfl, rfl, rfl⟩
  · rw [if_neg q, if_neg q]
    exact ⟨_, Heap.get?_push_size _ rfl, rfl, rfl⟩
theorem made_step {κ : Addr → Bool} {h0 h : Heap} {ls : List Addr} {k : Nat} {l : Addr} (M : Made κ h0 h ls k) (hl : ls[k]? = some l) : Made κ h0 (h.push (itO κ l)) ls (k + 1) := by
  obtain ⟨m1, m2, m3⟩ := M
  refine ⟨by rw [Heap.size_push, m1]; omega, fun j m hj hm => ?_, fun c o e => Heap.get?_push_of_some _ (m3 c o e)⟩
  by_cases e : j = k
  · subst e
    rw [hl] at hm; cases hm
    rw [← m1]
    exact itO_it
  · exact (m2 j m (by omega) hm).at fun o e => Heap.get?_push_of_some _ e
theorem made_end {κ : Addr → Bool} {h0 h : Heap} {ls : List Addr} (M : Made κ h0 h ls ls.length) {h3 : Heap}
    (e3 : h3 = ((h.push { cls := .type "tuple", data := .seq (itsL h0.objs.size ls.length).toArray }).push { cls := .type "tuple", data := .seq ((itsL h0.objs.size ls.length).map fun _ => Value.none).toArray }).push
      { cls := .type "zip", data := .fields #[.none, .bool false, .bool false, .ref (h0.objs.size + ls.length : Nat), .ref (h0.objs.size + ls.length + 1 : Nat)] }) :
    At κ h3 h0.objs.size ls 0 ∧ h3.get? (h0.objs.size + ls.length + 2 : Nat) = some (zo .none false h0.objs.size ls.length) ∧ h3.objs.size = h0.objs.size + ls.length + 3 ∧ ∀ c o, h0.get? c = some o → h3.get? c = some o := by
  obtain ⟨m1, m2, m3⟩ := M
  subst e3
  have s1 : (h.push { cls := .type "tuple", data := .seq (itsL h0.objs.size ls.length).toArray }).objs.size = h0.objs.size + ls.length + 1 := by rw [Heap.size_push, m1]
  have s2 : ((h.push { cls := .type "tuple", data := .seq (itsL h0.objs.size ls.length).toArray }).push { cls := .type "tuple", data := .seq ((itsL h0.objs.size ls.length).map fun _ => Value.none).toArray }).objs.size = h0.objs.size + ls.length + 2 := by rw [Heap.size_push, s1]
  refine ⟨⟨⟨.none, false, .inl rfl, ?_⟩, ?_, ⟨((itsL h0.objs.size ls.length).map fun _ => Value.none).toArray, by rw [List.size_toArray, List.length_map, itsL_len], ?_⟩, fun j l hl => ?_⟩, by rw [← s2]; exact Heap.get?_push_size _ rfl, by rw [Heap.size_push, s2], fun c o e => Heap.get?_push_of_some _ (Heap.get?_push_of_some _ (Heap.get?_push_of_some _ (m3 c o e)))⟩
  · rw [← s2]; exact Heap.get?_push_size _ rfl
  · rw [← m1]; exact Heap.get?_push_of_some _ (Heap.get?_push_of_some _ (Heap.get?_push_size _ rfl))
  · rw [← s1]; exact Heap.get?_push_of_some _ (Heap.get?_push_size _ rfl)
  · exact (m2 j l (List.getElem?_eq_some_iff.mp hl).1 hl).at fun o e => Heap.get?_push_of_some _ (Heap.get?_push_of_some _ (Heap.get?_push_of_some _ e))
theorem iter_k {κ : Addr → Bool} {prog : Program} {w : World} {A : Around} {E : Value → Shared → Prop} {s : Shared} {l : Addr} {xs : Array Value} {Q : Value → Shared → Prop} (hx : KSq κ s.heap l xs) (h : Q (.ref s.heap.objs.size) { s with heap := s.heap.push (itO κ l) }) :
    wpAny (model prog w) A (pyIter (.ref l)) Q E s := by
  unfold KSq at hx
  unfold itO at h
  by_cases q : κ l = true
  · rw [if_pos q] at hx h
    exact wpAny_pyIter_list hx h
  · rw [if_neg q] at hx h
    exact wpAny_pyIter_tuple hx h
theorem meets_new (κ : Addr → Bool) (ls : List Addr) (hls : ls.length ≤ 64) :
    Meets (Builtin.«zip.__new__» ⟨.type "zip" :: ls.map .ref, []⟩) (fun _ R s => (∀ l ∈ ls, ∃ xs, KSq κ s.heap l xs) ∧ ∀ h', At κ h' s.heap.objs.size ls 0 → h'.get? (s.heap.objs.size + ls.length + 2 : Nat) = some (zo .none false s.heap.objs.size ls.length) → h'.objs.size = s.heap.objs.size + ls.length + 3 → (∀ c o, s.heap.get? c = some o → h'.get? c = some o) →
      R (.ok (.ret (.ref (s.heap.objs.size + ls.length + 2 : Nat)))) { s with heap := h' }) :=
  .of_wp fun prog w A R s h => by
    obtain ⟨hp, g, d, tk, os⟩ := s; obtain ⟨hl, h⟩ := h
    have hsub := sub_zip
    have hl64 : 64 ≤ sizeLine := by rw [sizeLine_eq]; decide
    wp_walk using wpAny_forIn_list _ (fun rest (b : Array Value) s' => ∃ k hk, rest = (ls.map Value.ref).drop k ∧ k ≤ ls.length ∧ b.toList = itsL hp.objs.size k ∧ s' = ⟨hk, g, d, tk, os⟩ ∧ Made κ hp hk ls k) _
    case turn =>
      rintro x rest b s' ⟨k, hk, hr, hkl, hb, rfl, M⟩
      obtain ⟨h1, rfl⟩ := ends hr
      rw [List.getElem?_map] at h1
      cases hlk : ls[k]? with
      | none => rw [hlk] at h1; cases h1
      | some l =>
        rw [hlk] at h1
        cases h1
        have hk' : k < ls.length := (List.getElem?_eq_some_iff.mp hlk).1
        obtain ⟨xs, hxs⟩ := hl l (List.mem_of_getElem? hlk)
        refine wpAny_bind (wpAny_holding (iter_k (s := ⟨hk, g, d, tk, os⟩) (hxs.keep fun o e => M.2.2 l o e) (wpAny_pure ⟨k + 1, _, rfl, hk', ?_, rfl, made_step M hlk⟩)))
        rw [Array.toList_push, hb, itsL_succ, ← M.1]
    case fin =>
      rintro b s' ⟨k, hk, hr, hkl, hb, rfl, M⟩
      have hkn : k = ls.length := by
        have := congrArg List.length hr
        rw [List.length_drop, List.length_map] at this
        simp at this; omega
      subst hkn
      refine wpAny_pure ?_
      rw [hb]
      have z0 : (itsL hp.objs.size ls.length).length ≤ sizeLine := by rw [itsL_len]; omega
      have m1 := M.1
      refine wpAny_bind (wpAny_newTuple ?_ z0)
      refine wpAny_bind (wpAny_newTuple ?_ (by rw [List.length_map]; exact z0))
      obtain ⟨a1, a0, a2, a3⟩ := made_end M rfl
      have s1 : (hk.push { cls := .type "tuple", data := .seq (itsL hp.objs.size ls.length).toArray }).objs.size = hp.objs.size + ls.length + 1 := by rw [Heap.size_push, m1]
      have s2 : ((hk.push { cls := .type "tuple", data := .seq (itsL hp.objs.size ls.length).toArray }).push { cls := .type "tuple", data := .seq ((itsL hp.objs.size ls.length).map fun _ => Value.none).toArray }).objs.size = hp.objs.size + ls.length + 2 := by rw [Heap.size_push, s1]
      dsimp only
      rw [s1, m1]
      wp_walk
      refine ⟨_, rfl, ?_⟩
      have := h _ a1 a0 a2 a3
      dsimp only at this ⊢
      rw [s2]
      exact this
    case h => exact ⟨0, hp, rfl, Nat.zero_le _, rfl, rfl, rfl, fun j l hj => absurd hj (Nat.not_lt_zero j), fun _ _ e => e⟩
end ZSt
set_option maxHeartbeats 1000000
/-! Ev, part ZT: for x in zip(*rows): the call, the turns. -/
namespace ZSt
open PySem PySem.Spec PyProof.Rows L2 RZ
theorem typeCall : ∀ (us : List Value), us.length ≤ 13 → checkTypeCall "zip" ⟨us, []⟩ = pure ()
  | [], _ => by kernel_rfl
  | [a0], _ => by kernel_rfl
  | [a0, a1], _ => by kernel_rfl
  | [a0, a1, a2], _ => by kernel_rfl
  | [a0, a1, a2, a3], _ => by kernel_rfl
  | [a0, a1, a2, a3, a4], _ => by kernel_rfl
  | [a0, a1, a2, a3, a4, a5], _ => by kernel_rfl
  | [a0, a1, a2, a3, a4, a5, a6], _ => by kernel_rfl
  | [a0, a1, a2, a3, a4, a5, a6, a7], _ => by kernel_rfl
  | [a0, a1, a2, a3, a4, a5, a6, a7, a8], _ => by kernel_rfl
  | [a0, a1, a2, a3, a4, a5, a6, a7, a8, a9], _ => by kernel_rfl
  | [a0, a1, a2, a3, a4, a5, a6, a7, a8, a9, a10], _ => by kernel_rfl
  | [a0, a1, a2, a3, a4, a5, a6, a7, a8, a9, a10, a11], _ => by kernel_rfl
  | [a0, a1, a2, a3, a4, a5, a6, a7, a8, a9, a10, a11, a12], _ => by kernel_rfl
  | _ :: _ :: _ :: _ :: _ :: _ :: _ :: _ :: _ :: _ :: _ :: _ :: _ :: _ :: r, h => by simp at h
theorem newCall : ∀ (us : List Value), us.length ≤ 13 → checkBuiltinCall "zip.__new__" ⟨.type "zip" :: us, []⟩ = pure ()
  | [], _ => by kernel_rfl
  | [a0], _ => by kernel_rfl
  | [a0, a1], _ => by kernel_rfl
  | [a0, a1, a2], _ => by kernel_rfl
  | [a0, a1, a2, a3], _ => by kernel_rfl
  | [a0, a1, a2, a3, a4], _ => by kernel_rfl
  | [a0, a1, a2, a3, a4, a5], _ => by kernel_rfl
  | [a0, a1, a2, a3, a4, a5, a6], _ => by kernel_rfl
  | [a0, a1, a2, a3, a4, a5, a6, a7], _ => by kernel_rfl
  | [a0, a1, a2, a3, a4, a5, a6, a7, a8], _ => by kernel_rfl
  | [a0, a1, a2, a3, a4, a5, a6, a7, a8, a9], _ => by kernel_rfl
  | [a0, a1, a2, a3, a4, a5, a6, a7, a8, a9, a10], _ => by kernel_rfl
  | [a0, a1, a2, a3, a4, a5, a6, a7, a8, a9, a10, a11], _ => by kernel_rfl
  | [a0, a1, a2, a3, a4, a5, a6, a7, a8, a9, a10, a11, a12], _ => by kernel_rfl
  | _ :: _ :: _ :: _ :: _ :: _ :: _ :: _ :: _ :: _ :: _ :: _ :: _ :: _ :: r, h => by simp at h
theorem argsInit (obj : Value) : ∀ (us : List Value), us.length ≤ 13 → argsOk "object.__init__" ⟨obj :: us, []⟩
  | [], _ => by unfold argsOk; rw [signature?_of (id := "object.__init__") (n := ['_', '_', 'i', 'n', 'i', 't', '_', '_'].reverse) (o := ['t', 'c', 'e', 'j', 'b', 'o']) (by kernel_rfl) F.owner_object]; kernel_rfl
  | [a0], _ => by unfold argsOk; rw [signature?_of (id := "object.__init__") (n := ['_', '_', 'i', 'n', 'i', 't', '_', '_'].reverse) (o := ['t', 'c', 'e', 'j', 'b', 'o']) (by kernel_rfl) F.owner_object]; kernel_rfl
  | [a0, a1], _ => by unfold argsOk; rw [signature?_of (id := "object.__init__") (n := ['_', '_', 'i', 'n', 'i', 't', '_', '_'].reverse) (o := ['t', 'c', 'e', 'j', 'b', 'o']) (by kernel_rfl) F.owner_object]; kernel_rfl
  | [a0, a1, a2], _ => by unfold argsOk; rw [signature?_of (id := "object.__init__") (n := ['_', '_', 'i', 'n', 'i', 't', '_', '_'].reverse) (o := ['t', 'c', 'e', 'j', 'b', 'o']) (by kernel_rfl) F.owner_object]; kernel_rfl
  | [a0, a1, a2, a3], _ => by unfold argsOk; rw [signature?_of (id := "object.__init__") (n := ['_', '_', 'i', 'n', 'i', 't', '_', '_'].reverse) (o := ['t', 'c', 'e', 'j', 'b', 'o']) (by kernel_rfl) F.owner_object]; kernel_rfl
  | [a0, a1, a2, a3, a4], _ => by unfold argsOk; rw [signature?_of (id := "object.__init__") (n := ['_', '_', 'i', 'n', 'i', 't', '_', '_'].reverse) (o := ['t', 'c', 'e', 'j', 'b', 'o']) (by kernel_rfl) F.owner_object]; kernel_rfl
  | [a0, a1, a2, a3, a4, a5], _ => by unfold argsOk; rw [signature?_of (id := "object.__init__") (n := ['_', '_', 'i', 'n', 'i', 't', '_', '_'].reverse) (o := ['t', 'c', 'e', 'j', 'b', 'o']) (by kernel_rfl) F.owner_object]; kernel_rfl
  | [a0, a1, a2, a3, a4, a5, a6], _ => by unfold argsOk; rw [signature?_of (id := "object.__init__") (n := ['_', '_', 'i', 'n', 'i', 't', '_', '_'].reverse) (o := ['t', 'c', 'e', 'j', 'b', 'o']) (by kernel_rfl) F.owner_object]; kernel_rfl
  | [a0, a1, a2, a3, a4, a5, a6, a7], _ => by unfold argsOk; rw [signature?_of (id := "object.__init__") (n := ['_', '_', 'i', 'n', 'i', 't', '_', '_'].reverse) (o := ['t', 'c', 'e', 'j', 'b', 'o']) (by kernel_rfl) F.owner_object]; kernel_rfl
  | [a0, a1, a2, a3, a4, a5, a6, a7, a8], _ => by unfold argsOk; rw [signature?_of (id := "object.__init__") (n := ['_', '_', 'i', 'n', 'i', 't', '_', '_'].reverse) (o := ['t', 'c', 'e', 'j', 'b', 'o']) (by kernel_rfl) F.owner_object]; kernel_rfl
  | [a0, a1, a2, a3, a4, a5, a6, a7, a8, a9], _ => by unfold argsOk; rw [signature?_of (id := "object.__init__") (n := ['_', '_', 'i', 'n', 'i', 't', '_', '_'].reverse) (o := ['t', 'c', 'e', 'j', 'b', 'o']) (by kernel_rfl) F.owner_object]; kernel_rfl
  | [a0, a1, a2, a3, a4, a5, a6, a7, a8, a9, a10], _ => by unfold argsOk; rw [signature?_of (id := "object.__init__") (n := ['_', '_', 'i', 'n', 'i', 't', '_', '_'].reverse) (o := ['t', 'c', 'e', 'j', 'b', 'o']) (by kernel_rfl) F.owner_object]; kernel_rfl
  | [a0, a1, a2, a3, a4, a5, a6, a7, a8, a9, a10, a11], _ => by unfold argsOk; rw [signature?_of (id := "object.__init__") (n := ['_', '_', 'i', 'n', 'i', 't', '_', '_'].reverse) (o := ['t', 'c', 'e', 'j', 'b', 'o']) (by kernel_rfl) F.owner_object]; kernel_rfl
  | [a0, a1, a2, a3, a4, a5, a6, a7, a8, a9, a10, a11, a12], _ => by unfold argsOk; rw [signature?_of (id := "object.__init__") (n := ['_', '_', 'i', 'n', 'i', 't', '_', '_'].reverse) (o := ['t', 'c', 'e', 'j', 'b', 'o']) (by kernel_rfl) F.owner_object]; kernel_rfl
  | _ :: _ :: _ :: _ :: _ :: _ :: _ :: _ :: _ :: _ :: _ :: _ :: _ :: _ :: r, h => by simp at h
section
variable {prog : Program} {w : World} {A : Around} {E : Value → Shared → Prop} {s : Shared}
theorem call_zipS (κ : Addr → Bool) {ls : List Addr} {Q : Value → Shared → Prop} (hls : ls.length ≤ 13) (ht : ∀ l ∈ ls, ∃ xs, KSq κ s.heap l xs)
    (h : ∀ h', At κ h' s.heap.objs.size ls 0 → h'.get? (s.heap.objs.size + ls.length + 2 : Nat) = some (zo .none false s.heap.objs.size ls.length) → h'.objs.size = s.heap.objs.size + ls.length + 3 → (∀ c o, s.heap.get? c = some o → h'.get? c = some o) → Q (.ref (s.heap.objs.size + ls.length + 2 : Nat)) { s with heap := h' }) :
    wpAny (model prog w) A (call (.type "zip") (ls.map .ref)) Q E s := by
  have hl : (ls.map Value.ref).length ≤ 13 := by rw [List.length_map]; exact hls
  refine callType_new PySem.F.called_zip (by decide) (typeCall _ hl) (newCall _ hl) (fun obj => argsInit obj _ hl) PySem.F.entry_zip_new (meets_new κ ls (by omega)) ⟨ht, fun h' a1 a0 a2 a3 => ?_⟩
  show _ ∧ _
  exact ⟨typeIs (h := h') (g := { s with heap := h' }) a1, h h' a1 a0 a2 a3⟩
end
/-- a list or a tuple, as κ says -/
def SqK (κ : Addr → Bool) (K : PySem.W.Frag) (H : Hp) (l : Addr) (xs : List V) : Prop := if κ l = true then SqL K H l xs else SqT K H l xs
theorem SqK.raw {κ : Addr → Bool} {X : Cx} {pins : List (Addr × Obj)} {σ : L2.St} {H : Hp} {s : Shared} (I : Inv X pins σ H s) {l : Addr} {xs : List V} (h : SqK κ X.K H l xs) : ∃ its : List Value, Vals xs its ∧ KSq κ s.heap l its.toArray := by
  unfold SqK at h
  unfold KSq
  by_cases q : κ l = true
  · rw [if_pos q] at h
    obtain ⟨its, rv, p, _⟩ := I.list h
    exact ⟨its, rv, by rw [if_pos q]; exact p.isList⟩
  · rw [if_neg q] at h
    obtain ⟨its, rv, p, _⟩ := I.tuple h
    exact ⟨its, rv, by rw [if_neg q]; exact p⟩
theorem SqK.inj {κ : Addr → Bool} {X : Cx} {pins : List (Addr × Obj)} {σ : L2.St} {H : Hp} {s : Shared} (I : Inv X pins σ H s) {l : Addr} {xs ys : List V} (h : SqK κ X.K H l xs) (h' : SqK κ X.K H l ys) : xs = ys := by
  unfold SqK at *
  by_cases q : κ l = true
  · rw [if_pos q] at *
    exact I.list_inj h h'
  · rw [if_neg q] at *
    exact I.tuple_inj h h'
/-! ### the turns -/
def ItS (κ : Addr → Bool) (K : PySem.W.Frag) (ls : List Addr) : It :=
  ⟨fun i H => ∃ col : List V, col.length = ls.length ∧ ∀ (k : Nat) (l : Addr), ls[k]? = some l → ∃ (xs : List V) (x : V), SqK κ K H l xs ∧ col[k]? = some x ∧ xs[i]? = some x,
    fun i H v H' => ∃ (T : Addr) (col : List V), v = .ref T ∧ H T = none ∧ H' = upd H T (.tup col) ∧ col.length = ls.length ∧ ∀ (k : Nat) (l : Addr) (xs : List V), ls[k]? = some l → SqK κ K H l xs → ∃ x, col[k]? = some x ∧ xs[i]? = some x,
    fun i H => ∃ (l0 : Addr) (xs : List V), ls[0]? = some l0 ∧ SqK κ K H l0 xs ∧ xs.length ≤ i⟩
def fpS (B n : Nat) : List Addr := (List.range (n + 3)).map fun k => (B + k : Nat)
theorem fpS_mem {B n : Nat} {c : Nat} : c ∈ fpS B n ↔ B ≤ c ∧ c ≤ B + n + 2 := by
  unfold fpS
  rw [List.mem_map]
  constructor
  · rintro ⟨k, hk, e⟩
    rw [List.mem_range] at hk
    have e' : B + k = c := e
    omega
  · rintro ⟨h1, h2⟩
    exact ⟨c - B, by rw [List.mem_range]; omega, by show B + (c - B) = c; omega⟩
theorem fp_case {c B n : Nat} (h1 : B ≤ c) (h2 : c ≤ B + n + 2) (e1 : ¬ c = B + n + 2) (e2 : ¬ c = B + n + 1) (e3 : ¬ c = B + n) : c - B < n ∧ c = B + (c - B) := by omega
theorem fp_out {c B n : Nat} (h : ¬ (B ≤ c ∧ c ≤ B + n + 2)) : c < B ∨ B + n + 2 < c := by omega
theorem fp_lt {c B n S : Nat} (h : c ≤ B + n + 2) (z : B + n + 2 < S) : c < S := by omega
theorem col_of {κ : Addr → Bool} {X : Cx} {pins : List (Addr × Obj)} {σ : L2.St} {H : Hp} {s : Shared} (I : Inv X pins σ H s) {i : Nat} : ∀ (ls : List Addr) (col : List V), col.length = ls.length →
    (∀ (k : Nat) (l : Addr), ls[k]? = some l → ∃ (xs : List V) (x : V), SqK κ X.K H l xs ∧ col[k]? = some x ∧ xs[i]? = some x) → ∃ vs, Vals col vs ∧ Col κ s.heap ls i vs
  | [], [], _, _ => ⟨[], .nil, rfl, fun k l e => by simp at e⟩
  | [], _ :: _, h, _ => by simp at h
  | _ :: _, [], h, _ => by simp at h
  | l :: ls, x :: col, hl, hc => by
    obtain ⟨xs, x', h1, h2, h3⟩ := hc 0 l rfl
    simp at h2
    subst h2
    obtain ⟨vs, r, c⟩ := col_of I ls col (by simpa using hl) fun k l e => by simpa using hc (k + 1) l (by simpa using e)
    obtain ⟨its, rv, p⟩ := h1.raw I
    obtain ⟨u, hu, ru⟩ := rv.get h3
    refine ⟨u :: vs, .cons ru r, by rw [List.length_cons, List.length_cons, c.1], fun k m e => ?_⟩
    cases k with
    | zero =>
      simp at e; subst e
      exact ⟨p.lt, _, p, u, rfl, by simpa using hu⟩
    | succ k =>
      simp at e
      simpa using c.2 k m e
theorem turn_zipS {κ : Addr → Bool} {P : Program} {w : World} {K : PySem.W.Frag} {tg : Expr} {x : Str} {px : Pos} (htg : tg = .Name x px) {B : Nat} {ls : List Addr} (hn : 0 < ls.length) (hls : ls.length ≤ 13) (hlt : ∀ l ∈ ls, (l : Nat) < B) :
    Turn P w K tg (ItS κ K ls) (fpS B ls.length) (B + ls.length + 2 : Nat) (fun i h => At κ h B ls i) where
  mem := fpS_mem.mpr ⟨by omega, by omega⟩
  obj := fun i h st c hc => by
    obtain ⟨h1, h2⟩ := fpS_mem.mp hc
    by_cases e1 : (c : Nat) = B + ls.length + 2
    · obtain ⟨f0, f1, _, hz⟩ := st.z
      rw [show c = (B + ls.length + 2 : Nat) from e1]
      exact ⟨_, hz, fun v q => nomatch q⟩
    · by_cases e2 : (c : Nat) = B + ls.length + 1
      · obtain ⟨xs, _, ht⟩ := st.to
        rw [show c = (B + ls.length + 1 : Nat) from e2]
        exact ⟨_, ht, fun v q => nomatch q⟩
      · by_cases e3 : (c : Nat) = B + ls.length
        · rw [show c = (B + ls.length : Nat) from e3]
          exact ⟨_, st.ti, fun v q => nomatch q⟩
        · obtain ⟨hk, ek⟩ := fp_case h1 h2 e1 e2 e3
          obtain ⟨o, e, d⟩ := (st.it (c - B : Nat) _ (List.getElem?_eq_getElem hk)).obj
          rw [show c = (B + (c - B : Nat) : Nat) from ek]
          exact ⟨o, e, d⟩
  keep := fun i h h' st k => by
    obtain ⟨⟨f0, f1, hf, hz⟩, hti, ⟨xs, hxs, hto⟩, hit⟩ := st
    refine ⟨⟨f0, f1, hf, k _ (fpS_mem.mpr ⟨by omega, by omega⟩) _ hz⟩, k _ (fpS_mem.mpr ⟨by omega, by omega⟩) _ hti, ⟨xs, hxs, k _ (fpS_mem.mpr ⟨by omega, by omega⟩) _ hto⟩, fun j l hj => (hit j l hj).at fun o e => k _ (fpS_mem.mpr ?_) o e⟩
    have := (List.getElem?_eq_some_iff.mp hj).1
    exact ⟨by omega, by omega⟩
  item := by
    intro X hP hw hK hc i pins s σ H E I hf st hg
    subst hP hw hK
    obtain ⟨col, hcl, hcol⟩ := hg
    obtain ⟨vs, rv, cv⟩ := col_of I ls col hcl hcol
    refine pyNext_item hn (by omega) hlt st cv fun h' a1 a2 a3 a4 => ?_
    refine ⟨_, rfl, ?_⟩
    subst htg
    refine wpAny_pure ?_
    have hzl : (B + ls.length + 2 : Nat) < s.heap.objs.size := by
      obtain ⟨_, _, _, hz⟩ := st.z
      exact Heap.lt_size hz
    have hl64 : 64 ≤ sizeLine := by rw [sizeLine_eq]; decide
    have new : ObjOk X.prog X.w (upd H s.heap.objs.size (.tup col)) h' s.heap.objs.size (.tup col) :=
      ⟨by show col.length ≤ sizeLine; omega, vs, rv, ⟨_, a2, rfl, _, rfl⟩⟩
    have I1 : Inv X pins σ (upd H s.heap.objs.size (.tup col)) { s with heap := h' } :=
      I.turnedNew (t' := s.toks) (ch := fpS B ls.length) (fun c o hb q => a4 c o (fp_out fun z => hb (fpS_mem.mpr z)) q) hf (Nat.le_refl _) new
    refine ⟨.ref s.heap.objs.size, _, I1, rfl, ⟨_, col, rfl, I.hok.fresh (Nat.le_refl _), rfl, hcl, fun k l xs hk hx => ?_⟩, a1, fun c hcm => ?_⟩
    · obtain ⟨ys, x, q1, q2, q3⟩ := hcol k l hk
      rw [hx.inj I q1]
      exact ⟨x, q2, q3⟩
    · have : (c : Nat) < s.heap.objs.size := fp_lt (fpS_mem.mp hcm).2 hzl
      rw [upd_ne (Nat.ne_of_lt this)]
      exact (hf c hcm).1
  done := by
    intro X hP hw hK hc i pins s σ H E I hf st hg
    subst hP hw hK
    obtain ⟨l0, xs, h0, hq, hle⟩ := hg
    obtain ⟨its, rv, p⟩ := hq.raw I
    have l1 := rv.length
    refine pyNext_end (I.ok.hd hc) h0 (hlt _ (List.mem_of_getElem? h0)) st p (by simp; omega) fun h' hk => ⟨rfl, I.turnedL (t' := s.toks) (ch := fpS B ls.length) (fun c o hb q => hk c o (fp_out fun z => hb (fpS_mem.mpr z)) q) hf⟩
  self := fun A i s Q E st h => by
    obtain ⟨_, _, _, hz⟩ := st.z
    have hT : s.TypeIs (.ref (B + ls.length + 2 : Nat)) "zip" := ⟨_, hz, rfl⟩
    refine wpAny_pyIter_slot hT F.slot_zip_iter (wpAny_call_entry F.slot_zip_iter hT F.entry_zip_iter ?_ (F.args_zip_iter_1 _))
    show wpAny _ _ (ret (.ref (B + ls.length + 2 : Nat))) _ _ s
    exact wpAny_pure ⟨_, rfl, "zip", _, hT, F.slot_zip_next.lookup, h⟩
def iZipS (K : PySem.W.Frag) (ta : TE) : TI := fun σ H R => ta σ H fun x H1 => ∃ (a : Addr) (ls : List Addr), x = .ref a ∧ (SqT K H1 a (ls.map .ref) ∨ SqL K H1 a (ls.map .ref)) ∧ 0 < ls.length ∧ ls.length ≤ 13 ∧ (∀ l ∈ ls, ∃ xs, SqT K H1 l xs) ∧ R (ItS (fun _ => false) K ls) H1
theorem vals_refs : ∀ {ls : List Addr} {us : List Value}, Vals (ls.map V.ref) us → us = ls.map Value.ref
  | [], [], .nil => rfl
  | l :: ls, u :: us, .cons r rr => by
    cases r
    rw [vals_refs rr]; rfl
theorem pi_zipS {X : Cx} {e : Expr} {ta : TE} {x : Str} {px p sp pos : Pos} (hg : Gl X "zip") (hm : X.mg "zip" = none) (ha : PE X e ta) :
    PI X (.Name x px) (.Call (.Name "zip" p) [.Starred e sp] [] pos) (iZipS X.K ta) := by
  refine ⟨fun pins s σ H R I h => ?_⟩
  refine Call_ (ld_blt I hg hm PyProof.Rows.boot_zip ?_)
  refine PySem.W.ks_call (P := fun _ => True) rfl (fun h _ => ⟨.machine, .inr (.inl rfl), fun A Q E s k q => wpAny_pure q⟩) (PySem.W.ks_lone (thn (ha.run pins s σ H _ I h) fun v s1 ⟨y, H1, I1, ry, a, ls, ey, hx, hn, hls, hr, q⟩ => ?_))
  subst ey
  obtain rfl : v = Value.ref a := ry
  refine StX.star_any I1 hx fun us s2 I2 rv => ⟨trivial, ?_⟩
  have e := vals_refs rv
  subst e
  have ht : ∀ l ∈ ls, ∃ xs, s2.heap.IsTuple l xs := fun l hl => by
    obtain ⟨xs, hq⟩ := hr l hl
    obtain ⟨its, _, p1, _⟩ := I2.tuple hq
    exact ⟨_, p1⟩
  have hlt : ∀ l ∈ ls, (l : Nat) < s2.heap.objs.size := fun l hl => by
    obtain ⟨xs, o, ho, _⟩ := ht l hl
    exact Heap.lt_size ho
  show wpAny _ _ (call (.type "zip") (ls.map .ref)) _ _ _
  refine call_zipS (fun _ => false) hls (fun l hl => let ⟨xs, h⟩ := ht l hl; ⟨xs, h⟩) fun h' Z _ hsz hk => ?_
  have I3 : Inv X pins σ H1 { s2 with heap := h' } := I2.kept (t' := s2.toks) hk
  obtain ⟨_, _, _, hz⟩ := Z.z
  have hT : Shared.TypeIs { s2 with heap := h' } (.ref (s2.heap.objs.size + ls.length + 2 : Nat)) "zip" := ⟨_, hz, rfl⟩
  refine wpAny_pyIter_slot hT F.slot_zip_iter (wpAny_call_entry F.slot_zip_iter hT F.entry_zip_iter ?_ (F.args_zip_iter_1 _))
  show wpAny _ _ (ret (.ref (s2.heap.objs.size + ls.length + 2 : Nat))) _ _ _
  refine wpAny_pure ⟨_, rfl, "zip", _, hT, F.slot_zip_next.lookup, ?_⟩
  refine ⟨_, fpS s2.heap.objs.size ls.length, _, _, H1, rfl, I3, turn_zipS rfl hn hls hlt, Z, fun c hcm => ?_, q⟩
  have hle : s2.heap.objs.size ≤ (c : Nat) := (fpS_mem.mp hcm).1
  exact I2.fpOk hle (I2.hok.fresh hle)
/-- .. into names -/
theorem turn_zipM {κ : Addr → Bool} {P : Program} {w : World} {K : PySem.W.Frag} {elts : List Expr} {kk : Nat} {tpos : Pos} {B : Nat} {ls : List Addr} (hn : 0 < ls.length) (hls : ls.length ≤ 13) (hlt : ∀ l ∈ ls, (l : Nat) < B) :
    Turn P w K (.Tuple elts kk tpos) (ItS κ K ls) (fpS B ls.length) (B + ls.length + 2 : Nat) (fun i h => At κ h B ls i ∧ h.get? (B + ls.length + 2 : Nat) = some (zo .none false B ls.length)) where
  mem := fpS_mem.mpr ⟨by omega, by omega⟩
  obj := fun i h st' c hc => by
    have st := st'.1
    obtain ⟨h1, h2⟩ := fpS_mem.mp hc
    by_cases e1 : (c : Nat) = B + ls.length + 2
    · obtain ⟨f0, f1, _, hz⟩ := st.z
      rw [show c = (B + ls.length + 2 : Nat) from e1]
      exact ⟨_, hz, fun v q => nomatch q⟩
    · by_cases e2 : (c : Nat) = B + ls.length + 1
      · obtain ⟨xs, _, ht⟩ := st.to
        rw [show c = (B + ls.length + 1 : Nat) from e2]
        exact ⟨_, ht, fun v q => nomatch q⟩
      · by_cases e3 : (c : Nat) = B + ls.length
        · rw [show c = (B + ls.length : Nat) from e3]
          exact ⟨_, st.ti, fun v q => nomatch q⟩
        · obtain ⟨hk, ek⟩ := fp_case h1 h2 e1 e2 e3
          obtain ⟨o, e, d⟩ := (st.it (c - B : Nat) _ (List.getElem?_eq_getElem hk)).obj
          rw [show c = (B + (c - B : Nat) : Nat) from ek]
          exact ⟨o, e, d⟩
  keep := fun i h h' st' k => by
    obtain ⟨st, zz⟩ := st'
    obtain ⟨⟨f0, f1, hf, hz⟩, hti, ⟨xs, hxs, hto⟩, hit⟩ := st
    refine ⟨?_, k _ (fpS_mem.mpr ⟨by omega, by omega⟩) _ zz⟩
    refine ⟨⟨f0, f1, hf, k _ (fpS_mem.mpr ⟨by omega, by omega⟩) _ hz⟩, k _ (fpS_mem.mpr ⟨by omega, by omega⟩) _ hti, ⟨xs, hxs, k _ (fpS_mem.mpr ⟨by omega, by omega⟩) _ hto⟩, fun j l hj => (hit j l hj).at fun o e => k _ (fpS_mem.mpr ?_) o e⟩
    have := (List.getElem?_eq_some_iff.mp hj).1
    exact ⟨by omega, by omega⟩
  item := by
    intro X hP hw hK hc i pins s σ H E I hf st' hg
    subst hP hw hK
    obtain ⟨st, zz⟩ := st'
    obtain ⟨col, hcl, hcol⟩ := hg
    obtain ⟨vs, rv, cv⟩ := col_of I ls col hcl hcol
    have hzl : (B + ls.length + 2 : Nat) < s.heap.objs.size := Heap.lt_size zz
    refine pyNext_item0 hn (by omega) hlt st zz cv fun h' a1 a0 a2 a3 a4 => ?_
    refine ⟨_, rfl, wpAny_letOwnedTupleGo_zip (s := { s with heap := h' }) (z := (B + ls.length + 2 : Nat)) (TI := (B + ls.length : Nat)) (TO := (B + ls.length + 1 : Nat)) a0 fun h'' z'' sb => ?_⟩
    have hT2 : h''.get? s.heap.objs.size = some { cls := .type "tuple", data := .seq vs.toArray } := (sb.2 _ (an (Nat.ne_of_gt hzl))).trans a2
    have hl64 : 64 ≤ sizeLine := by rw [sizeLine_eq]; decide
    have new : ObjOk X.prog X.w (upd H s.heap.objs.size (.tup col)) h'' s.heap.objs.size (.tup col) :=
      ⟨by show col.length ≤ sizeLine; omega, vs, rv, ⟨_, hT2, rfl, _, rfl⟩⟩
    have up : ∀ (c : Nat) o, c ≠ B + ls.length + 2 → h'.get? c = some o → h''.get? c = some o := fun c o hcz e => sb.extBut _ _ (an hcz) e
    have I1 : Inv X pins σ (upd H s.heap.objs.size (.tup col)) { s with heap := h'' } :=
      I.turnedNew (t' := s.toks) (ch := fpS B ls.length) (fun c o hb q => by
        have hout := fp_out fun z => hb (fpS_mem.mpr z)
        exact up c o (by rcases hout with q | q <;> omega) (a4 c o hout q)) hf (Nat.le_refl _) new
    have A2 : At κ h'' B ls (i + 1) := by
      obtain ⟨_, hti, ⟨xs, hxs, hto⟩, hit⟩ := a1
      refine ⟨⟨.none, false, .inl rfl, z''⟩, up _ _ (by omega) hti, ⟨xs, hxs, up _ _ (by omega) hto⟩, fun j m hj => (hit j m hj).at fun o e => up _ o ?_ e⟩
      have := (List.getElem?_eq_some_iff.mp hj).1
      omega
    refine ⟨.ref s.heap.objs.size, _, I1, rfl, ⟨_, col, rfl, I.hok.fresh (Nat.le_refl _), rfl, hcl, fun k l xs hk hx => ?_⟩, ⟨A2, z''⟩, fun c hcm => ?_⟩
    · obtain ⟨ys, x, q1, q2, q3⟩ := hcol k l hk
      rw [hx.inj I q1]
      exact ⟨x, q2, q3⟩
    · have : (c : Nat) < s.heap.objs.size := fp_lt (fpS_mem.mp hcm).2 hzl
      rw [upd_ne (Nat.ne_of_lt this)]
      exact (hf c hcm).1
  done := by
    intro X hP hw hK hc i pins s σ H E I hf st' hg
    subst hP hw hK
    have st := st'.1
    obtain ⟨l0, xs, h0, hq, hle⟩ := hg
    obtain ⟨its, rv, p⟩ := hq.raw I
    have l1 := rv.length
    refine pyNext_end (I.ok.hd hc) h0 (hlt _ (List.mem_of_getElem? h0)) st p (by simp; omega) fun h' hk => ⟨rfl, I.turnedL (t' := s.toks) (ch := fpS B ls.length) (fun c o hb q => hk c o (fp_out fun z => hb (fpS_mem.mpr z)) q) hf⟩
  self := fun A i s Q E st h => by
    obtain ⟨_, _, _, hz⟩ := st.1.z
    have hT : s.TypeIs (.ref (B + ls.length + 2 : Nat)) "zip" := ⟨_, hz, rfl⟩
    refine wpAny_pyIter_slot hT F.slot_zip_iter (wpAny_call_entry F.slot_zip_iter hT F.entry_zip_iter ?_ (F.args_zip_iter_1 _))
    show wpAny _ _ (ret (.ref (B + ls.length + 2 : Nat))) _ _ s
    exact wpAny_pure ⟨_, rfl, "zip", _, hT, F.slot_zip_next.lookup, h⟩
/-- zip of two, whatever their kinds -/
def Kd (b : Bool) (K : PySem.W.Frag) (H : Hp) (a : Addr) (xs : List V) : Prop := if b = true then SqL K H a xs else SqT K H a xs
def iZipM (K : PySem.W.Frag) (ta : TA) : TI := fun σ H R => ta σ H fun vs H1 => ∃ (a b : Addr) (xs ys : List V) (k1 k2 : Bool), vs = [.ref a, .ref b] ∧ Kd k1 K H1 a xs ∧ Kd k2 K H1 b ys ∧ ∀ κ : Addr → Bool, κ a = k1 → κ b = k2 → R (ItS κ K [a, b]) H1
theorem Kd.same {X : Cx} {pins : List (Addr × Obj)} {σ : L2.St} {H : Hp} {s : Shared} (I : Inv X pins σ H s) {a : Addr} {xs ys : List V} {k1 k2 : Bool} (h1 : Kd k1 X.K H a xs) (h2 : Kd k2 X.K H a ys) : k1 = k2 := by
  have key : ∀ {xs ys : List V}, SqL X.K H a xs → SqT X.K H a ys → False := fun {xs ys} u v => by
    obtain ⟨its, _, p, _⟩ := I.list u
    obtain ⟨its', _, q, _⟩ := I.tuple v
    obtain ⟨o, e, hc, _⟩ := p.isList
    obtain ⟨o', e', hc', _⟩ := q
    rw [e] at e'; cases e'
    rw [hc] at hc'
    injection hc' with z
    exact absurd z (by decide)
  cases k1 <;> cases k2
  · rfl
  · exact (key h2 h1).elim
  · exact (key h1 h2).elim
  · rfl
theorem pi_zipM {X : Cx} {e e2 : Expr} {ta : TA} {p pos tpos : Pos} {elts : List Expr} {kk : Nat} (hg : Gl X "zip") (hm : X.mg "zip" = none) (ha : PA X [e, e2] ta)
    (hs : starEach [e, e2] X.env = (false, eval e X.env) :: starEach [e2] X.env := by rfl) (hpl : (backTo pos (starEach [e2] X.env)).any (·.1) = false := by rfl) :
    PI X (.Tuple elts kk tpos) (.Call (.Name "zip" p) [e, e2] [] pos) (iZipM X.K ta) := by
  refine ⟨fun pins s σ H R I h => ?_⟩
  refine Call_ (ld_blt I hg hm PyProof.Rows.boot_zip (PyProof.Rows.callWith_type1 (thn (ha.run pos pins s σ H _ I h) fun us s1 ⟨vs, H1, I1, r1, q1⟩ => ?_) hs hpl))
  obtain ⟨a, b, xs, ys, k1, k2, ex, hx, hy, q⟩ := q1
  subst ex
  obtain ⟨κ, κa, κb⟩ : ∃ κ : Addr → Bool, κ a = k1 ∧ κ b = k2 := by
    by_cases hab : b = a
    · subst hab
      exact ⟨fun _ => k1, rfl, Kd.same I1 hx hy⟩
    · exact ⟨fun l => if l = a then k1 else k2, if_pos rfl, if_neg hab⟩
  have hx' : SqK κ X.K H1 a xs := by unfold SqK; rw [κa]; exact hx
  have hy' : SqK κ X.K H1 b ys := by unfold SqK; rw [κb]; exact hy
  have e := vals_refs (ls := [a, b]) r1
  subst e
  obtain ⟨its1, _, p1⟩ := hx'.raw I1
  obtain ⟨its2, _, p2⟩ := hy'.raw I1
  refine call_zipS κ (ls := [a, b]) (by simp) (fun l hl => ?_) fun h' Z zz hsz hk => ?_
  · rcases List.mem_cons.mp hl with rfl | hl
    · exact ⟨_, p1⟩
    · rw [List.mem_singleton.mp hl]; exact ⟨_, p2⟩
  have hlt : ∀ l ∈ [a, b], (l : Nat) < s1.heap.objs.size := fun l hl => by
    rcases List.mem_cons.mp hl with rfl | hl
    · exact p1.lt
    · rw [List.mem_singleton.mp hl]; exact p2.lt
  have I3 : Inv X pins σ H1 { s1 with heap := h' } := I1.kept (t' := s1.toks) hk
  have hT : Shared.TypeIs { s1 with heap := h' } (.ref (s1.heap.objs.size + [a, b].length + 2 : Nat)) "zip" := ⟨_, zz, rfl⟩
  refine wpAny_pyIter_slot hT F.slot_zip_iter (wpAny_call_entry F.slot_zip_iter hT F.entry_zip_iter ?_ (F.args_zip_iter_1 _))
  show wpAny _ _ (ret (.ref (s1.heap.objs.size + [a, b].length + 2 : Nat))) _ _ _
  refine wpAny_pure ⟨_, rfl, "zip", _, hT, F.slot_zip_next.lookup, ?_⟩
  refine ⟨_, fpS s1.heap.objs.size [a, b].length, _, _, H1, rfl, I3, turn_zipM (by simp) (by simp) hlt, ⟨Z, zz⟩, fun c hcm => ?_, q κ κa κb⟩
  have hle : s1.heap.objs.size ≤ (c : Nat) := (fpS_mem.mp hcm).1
  exact I1.fpOk hle (I1.hok.fresh hle)
end ZSt
set_option maxHeartbeats 1000000
/-! Ev, part ZE: enumerate(zip(a, b)): the draws (under way; not in evlist yet). -/
namespace ZSt
open PySem PySem.Spec PyProof.Rows L2 RZ
section
variable {prog : Program} {w : World} {A : Around} {E : Value → Shared → Prop} {s : Shared} {B i : Nat} {ls : List Addr} {κ : Addr → Bool}
theorem nextOf_zip_item {vs : List Value} {Q : Value → Shared → Prop} (hn : 0 < ls.length) (hls : ls.length ≤ 64) (hlt : ∀ l ∈ ls, (l : Nat) < B) (Z : At κ s.heap B ls i) (hc : Col κ s.heap ls i vs)
    (hQ : ∀ h', At κ h' B ls (i + 1) → h'.get? s.heap.objs.size = some { cls := .type "tuple", data := .seq vs.toArray } → h'.objs.size = s.heap.objs.size + 1 → (∀ (c : Nat) o, (c < B ∨ B + ls.length + 2 < c) → s.heap.get? c = some o → h'.get? c = some o) → Q (.ref s.heap.objs.size) { s with heap := h' }) :
    wpAny (model prog w) A (Builtin.SmallTypes.nextOf (.ref (B + ls.length + 2 : Nat))) Q E s := by
  have hT : s.TypeIs (.ref (B + ls.length + 2 : Nat)) "zip" := typeIs (h := s.heap) Z
  unfold Builtin.SmallTypes.nextOf
  exact wpAny_bind (wpAny_callSpecial?_slot (name := Str.ofString "__next__") hT F.slot_zip_next
    (wpAny_call_entry F.slot_zip_next hT F.entry_zip_next
      (next_item hn hls hlt Z hc fun h' a1 a2 a3 a4 => wpAny_pure (hQ h' a1 a2 a3 a4)) (F.args_zip_next_1 _)))
theorem nextOf_zip_end {l0 : Addr} {us : Array Value} {Q : Value → Shared → Prop} (hh : A.handled = none) (hl0 : ls[0]? = some l0) (hlt : (l0 : Nat) < B) (Z : At κ s.heap B ls i) (hx : KSq κ s.heap l0 us) (he : us[i]? = none)
    (hE : ∀ h' e, (∀ (c : Nat) o, (c < B ∨ B + ls.length + 2 < c) → s.heap.get? c = some o → h'.get? c = some o) → (∃ o, h'.get? e = some o ∧ o.cls = .type "StopIteration") → E (.ref e) { s with heap := h' }) :
    wpAny (model prog w) A (Builtin.SmallTypes.nextOf (.ref (B + ls.length + 2 : Nat))) Q E s := by
  have hT : s.TypeIs (.ref (B + ls.length + 2 : Nat)) "zip" := typeIs (h := s.heap) Z
  unfold Builtin.SmallTypes.nextOf
  exact wpAny_bind (wpAny_callSpecial?_slot (name := Str.ofString "__next__") hT F.slot_zip_next
    (wpAny_call_entry F.slot_zip_next hT F.entry_zip_next (next_end hh hl0 hlt Z hx he hE) (F.args_zip_next_1 _)))
/-- one turn of enumerate over the zip: two new tuples -/
theorem enumZ_item {e : Addr} {n : Int} {old : Value} {vs : List Value} {Q : Option Value → Shared → Prop} (hn : 0 < ls.length) (hls : ls.length ≤ 64) (hlt : ∀ l ∈ ls, (l : Nat) < B) (Z : At κ s.heap B ls i) (hc : Col κ s.heap ls i vs)
    (he : IsEnum s.heap e (B + ls.length + 2 : Nat) n old) (hbe : B + ls.length + 2 < (e : Nat))
    (hQ : ∀ h' tk, At κ h' B ls (i + 1) → IsEnumOut h' e (B + ls.length + 2 : Nat) (n + 1) (.ref s.heap.objs.size) (s.heap.objs.size + 1 : Nat) → h'.get? s.heap.objs.size = some { cls := .type "tuple", data := .seq vs.toArray } →
      h'.get? (s.heap.objs.size + 1 : Nat) = some { cls := .type "tuple", data := .seq #[.int n tk, .ref s.heap.objs.size] } → h'.objs.size = s.heap.objs.size + 2 →
      (∀ (c : Nat) o, (c < B ∨ B + ls.length + 2 < c) → c ≠ e → s.heap.get? c = some o → h'.get? c = some o) → Q (some (.ref (s.heap.objs.size + 1 : Nat))) { s with heap := h', toks := tk + 1 }) :
    wpAny (model prog w) A (pyNext (.ref e)) Q E s := by
  have hT : s.TypeIs (.ref e) "enumerate" := ⟨_, he, rfl⟩
  unfold pyNext
  refine wpAny_bind (wpAny_attempt (wpAny_callSpecial?_slot (name := Str.ofString "__next__") hT F.slot_enumerate_next
    (wpAny_call_entry F.slot_enumerate_next hT F.entry_enumerate_next ?_ (F.args_enumerate_next_1 _))))
  obtain ⟨hp, g, d, tk, os⟩ := s
  have hel : (e : Nat) < hp.objs.size := Heap.lt_size he
  show wpAny _ _ (field (.ref e) 2 >>= _) _ _ _
  refine wpAny_bind (wpAny_field he rfl (x := .ref (B + ls.length + 2 : Nat)) rfl ?_)
  refine wpAny_bind (nextOf_zip_item hn hls hlt Z hc fun h₁ Z₁ ht₁ hz₁ hk₁ => ?_)
  have he₁ : IsEnum h₁ e (B + ls.length + 2 : Nat) n old := hk₁ e _ (.inr hbe) he
  show wpAny _ _ (field (.ref e) 3 >>= _) _ _ ⟨h₁, g, d, tk, os⟩
  refine wpAny_bind (wpAny_field he₁ rfl (x := rawInt n) rfl ?_)
  show wpAny _ _ (field (.ref e) 4 >>= _) _ _ ⟨h₁, g, d, tk, os⟩
  refine wpAny_bind (wpAny_field he₁ rfl (x := .none) rfl ?_)
  show wpAny _ _ (mkInt n >>= _) _ _ ⟨h₁, g, d, tk, os⟩
  refine wpAny_bind (wpAny_mkInt ?_)
  show wpAny _ _ (setField (.ref e) 3 (rawInt (n + 1)) >>= _) _ _ ⟨h₁, g, d, tk + 1, os⟩
  refine wpAny_bind (wpAny_setField_rec he₁ (by simp) fun h₂ he₂ hs₂ => ?_)
  replace hs₂ : Heap.SameBut e h₁ h₂ := hs₂
  replace he₂ : IsEnum h₂ e (B + ls.length + 2 : Nat) (n + 1) old := he₂
  show wpAny _ _ (setField (.ref e) 4 .none >>= _) _ _ ⟨h₂, g, d, tk + 1, os⟩
  refine wpAny_bind (wpAny_setField_rec he₂ (by simp) fun h₃ he₃ hs₃ => ?_)
  replace hs₃ : Heap.SameBut e h₂ h₃ := hs₃
  replace he₃ : IsEnum h₃ e (B + ls.length + 2 : Nat) (n + 1) old := he₃
  show wpAny _ _ (newTuple [.int n tk, .ref hp.objs.size] >>= _) _ _ ⟨h₃, g, d, tk + 1, os⟩
  refine wpAny_bind (wpAny_newTuple ?_)
  have hsz : h₃.objs.size = hp.objs.size + 1 := by rw [hs₃.1, hs₂.1, hz₁]
  obtain ⟨h₄, hh₄⟩ : ∃ h₄, h₄ = h₃.push { cls := .type "tuple", data := .seq #[.int n tk, .ref hp.objs.size] } := ⟨_, rfl⟩
  have he₄ : IsEnum h₄ e (B + ls.length + 2 : Nat) (n + 1) old := by rw [hh₄]; exact Heap.get?_push_of_some _ he₃
  have ht₄ : h₄.get? (hp.objs.size + 1 : Nat) = some { cls := .type "tuple", data := .seq #[.int n tk, .ref hp.objs.size] } := by rw [hh₄, ← hsz]; exact Heap.get?_push_size _ rfl
  have hz₄ : h₄.objs.size = hp.objs.size + 2 := by rw [hh₄, Heap.size_push, hsz]
  have up₄ : ∀ (c : Nat) o, c ≠ e → h₁.get? c = some o → h₄.get? c = some o := fun c o hce q => by
    rw [hh₄]; exact Heap.get?_push_of_some _ (hs₃.extBut _ _ (an hce) (hs₂.extBut _ _ (an hce) q))
  show wpAny _ _ (Builtin.SmallTypes.ownedTupleIsFree (.ref e) >>= _) _ _ ⟨h₃.push _, g, d, tk + 1, os⟩
  rw [hsz]
  show wpAny _ _ (Builtin.SmallTypes.ownedTupleIsFree (.ref e) >>= _) _ _ ⟨h₃.push { cls := .type "tuple", data := .seq #[.int n tk, .ref hp.objs.size] }, g, d, tk + 1, os⟩
  rw [← hh₄]
  refine wpAny_bind ?_
  unfold Builtin.SmallTypes.ownedTupleIsFree
  refine wpAny_bind (wpAny_field he₄ rfl (x := .none) rfl (wpAny_pure ?_))
  simp only [if_true]
  refine wpAny_bind (wpAny_rule ?_)
  refine wpAny_bind (wpAny_field he₄ rfl (x := old) rfl ?_)
  refine wpAny_bind (wpAny_setField_rec he₄ (by simp) fun h₅ he₅ hs₅ => ?_)
  replace hs₅ : Heap.SameBut e h₄ h₅ := hs₅
  replace he₅ : IsEnum h₅ e (B + ls.length + 2 : Nat) (n + 1) (.ref hp.objs.size) := he₅
  show wpAny _ _ (Builtin.SmallTypes.ownedTupleHandOut (.ref e) (.ref (hp.objs.size + 1 : Nat)) >>= _) _ _ ⟨h₅, g, d, tk + 1, os⟩
  refine wpAny_bind ?_
  unfold Builtin.SmallTypes.ownedTupleHandOut
  refine wpAny_bind (wpAny_setField_rec he₅ (by simp) fun h₆ he₆ hs₆ => ?_)
  replace hs₆ : Heap.SameBut e h₅ h₆ := hs₆
  replace he₆ : IsEnumOut h₆ e (B + ls.length + 2 : Nat) (n + 1) (.ref hp.objs.size) (hp.objs.size + 1 : Nat) := he₆
  refine wpAny_setField_rec he₆ (by simp) fun h₇ he₇ hs₇ => ?_
  replace hs₇ : Heap.SameBut e h₆ h₇ := hs₇
  replace he₇ : IsEnumOut h₇ e (B + ls.length + 2 : Nat) (n + 1) (.ref hp.objs.size) (hp.objs.size + 1 : Nat) := he₇
  have up : ∀ (c : Nat) o, c ≠ e → h₁.get? c = some o → h₇.get? c = some o := fun c o hce q =>
    hs₇.extBut _ _ (an hce) (hs₆.extBut _ _ (an hce) (hs₅.extBut _ _ (an hce) (up₄ c o hce q)))
  have up5 : ∀ (c : Nat) o, c ≠ e → h₄.get? c = some o → h₇.get? c = some o := fun c o hce q =>
    hs₇.extBut _ _ (an hce) (hs₆.extBut _ _ (an hce) (hs₅.extBut _ _ (an hce) q))
  have ne1 : hp.objs.size ≠ e := Nat.ne_of_gt hel
  have ne2 : hp.objs.size + 1 ≠ e := Nat.ne_of_gt (Nat.lt_succ_of_lt hel)
  refine wpAny_bind (wpAny_letGo (wpAny_pure ⟨_, rfl, wpAny_pure (hQ h₇ tk ?_ he₇ (up _ _ ne1 ht₁) (up5 _ _ ne2 ht₄) (by rw [hs₇.1, hs₆.1, hs₅.1, hz₄]) fun c o hco hce q => up c o hce (hk₁ c o hco q))⟩))
  obtain ⟨⟨f0, f1, hf0, z⟩, hti, ⟨xs, hxs, hto⟩, hit⟩ := Z₁
  refine ⟨⟨f0, f1, hf0, up _ _ (by omega) z⟩, up _ _ (by omega) hti, ⟨xs, hxs, up _ _ (by omega) hto⟩, fun j m hj => (hit j m hj).at fun o q => up _ o ?_ q⟩
  have := (List.getElem?_eq_some_iff.mp hj).1
  omega
theorem enumZ_end {e : Addr} {n : Int} {old : Value} {l0 : Addr} {us : Array Value} {Q : Option Value → Shared → Prop} (hh : A.handled = none) (hl0 : ls[0]? = some l0) (hlt : (l0 : Nat) < B) (Z : At κ s.heap B ls i) (hx : KSq κ s.heap l0 us) (hus : us[i]? = none)
    (he : IsEnum s.heap e (B + ls.length + 2 : Nat) n old)
    (hQ : ∀ h', (∀ (c : Nat) o, (c < B ∨ B + ls.length + 2 < c) → s.heap.get? c = some o → h'.get? c = some o) → Q none { s with heap := h' }) : wpAny (model prog w) A (pyNext (.ref e)) Q E s := by
  have hT : s.TypeIs (.ref e) "enumerate" := ⟨_, he, rfl⟩
  unfold pyNext
  refine wpAny_bind (wpAny_attempt (wpAny_callSpecial?_slot (name := Str.ofString "__next__") hT F.slot_enumerate_next
    (wpAny_call_entry F.slot_enumerate_next hT F.entry_enumerate_next ?_ (F.args_enumerate_next_1 _))))
  show wpAny _ _ (field (.ref e) 2 >>= _) _ _ _
  refine wpAny_bind (wpAny_field he rfl (x := .ref (B + ls.length + 2 : Nat)) rfl ?_)
  refine wpAny_bind (nextOf_zip_end hh hl0 hlt Z hx hus fun h' x hk hx' => ?_)
  obtain ⟨o, ho, hc⟩ := hx'
  refine wpAny_bind (wpAny_isInstance (T := "StopIteration") (b := true) ⟨o, ho, hc⟩ isSubtype_stop ?_)
  exact wpAny_pure (hQ _ hk)
end
section
variable {X : Cx} {pins : List (Addr × Obj)} {σ : L2.St} {H : Hp} {s : Shared} {h' : Heap}
/-- records of ours have turned, and two new objects are laid -/
theorem turned2 {t' : Nat} {ch : List Addr} {T U : Addr} {o1 o2 : HO} (I : Inv X pins σ H s) (k : ∀ b o, b ∉ ch → s.heap.get? b = some o → h'.get? b = some o) (hf : ∀ b ∈ ch, FpOk X pins H b) (hT : s.heap.objs.size ≤ T) (hU : s.heap.objs.size ≤ U) (ne : T ≠ U)
    (n1 : ObjOk X.prog X.w (upd (upd H T o1) U o2) h' T o1) (n2 : ObjOk X.prog X.w (upd (upd H T o1) U o2) h' U o2) : Inv X pins σ (upd (upd H T o1) U o2) { s with heap := h', toks := t' } := by
  have hn : H T = none := I.hok.fresh hT
  have hm' : H U = none := I.hok.fresh hU
  have sub : ∀ b u, H b = some u → upd (upd H T o1) U o2 b = some u := fun b u e => by rw [upd_ne (ne_of_none e hm'), upd_ne (ne_of_none e hn)]; exact e
  have nit : ∀ b u, H b = some u → b ∉ ch := fun b u e z => by
    have q := (hf b z).1
    rw [q] at e; cases e
  refine I.step (g' := s.gens) (d' := s.drawn) (ch := ch) (fun b hb => ⟨(hf b hb).2.2.2.1, (hf b hb).2.1, (hf b hb).2.2.2.2.1, (hf b hb).2.2.2.2.2⟩) (fun b o _ _ hc e _ => k b o hc e) (fun b o _ _ hc e _ => ⟨o.slots, k b o hc e⟩)
    (fun b o _ e n => ?_) (fun b o hc e => ⟨o, k b o hc e⟩) (fun b xs e => sub _ _ e) (fun b o u e => sub _ _ e) (fun b ps e => ⟨#[], ?_⟩) (fun m hm => ?_) (fun b u e => ?_) I.bare
  · have lt := Heap.lt_size e
    rw [upd_ne (Nat.ne_of_lt (Nat.lt_of_lt_of_le lt hU)), upd_ne (Nat.ne_of_lt (Nat.lt_of_lt_of_le lt hT))]; exact n
  · rw [sub _ _ e]; simp
  · obtain ⟨o, es, ep, ho, r⟩ := hm
    exact ⟨o, es, ep, k _ o (fun z => (hf _ z).2.1 rfl) ho, r⟩
  · by_cases hb : b = U
    · subst hb
      rw [upd_same] at e
      cases e
      exact n2
    · rw [upd_ne hb] at e
      by_cases hb' : b = T
      · subst hb'
        rw [upd_same] at e
        cases e
        exact n1
      · rw [upd_ne hb'] at e
        refine (I.hok b u e).stay (fun c v hc q => k c v ?_ q) (fun c q => sub _ _ q) fun c xs q => sub _ _ q
        rcases hc with z | z
        · rw [z]; exact nit b u e
        · exact nit c _ z
end
/-- enumerate(zip(..)): each turn a number and a column, two new tuples -/
def ItE (κ : Addr → Bool) (K : PySem.W.Frag) (ls : List Addr) : It :=
  ⟨fun i H => (ItS κ K ls).go i H,
    fun i H v H' => ∃ (T U : Addr) (col : List V), v = .ref U ∧ H T = none ∧ H U = none ∧ T ≠ U ∧ H' = upd (upd H T (.tup col)) U (.tup [.int (i : Nat), .ref T]) ∧ col.length = ls.length ∧ ∀ (k : Nat) (l : Addr) (xs : List V), ls[k]? = some l → SqK κ K H l xs → ∃ x, col[k]? = some x ∧ xs[i]? = some x,
    fun i H => (ItS κ K ls).stop i H⟩
theorem turn_enumZ {κ : Addr → Bool} {P : Program} {w : World} {K : PySem.W.Frag} {elts : List Expr} {kk : Nat} {tpos : Pos} {B : Nat} {ls : List Addr} {e : Addr} (hn : 0 < ls.length) (hls : ls.length ≤ 13) (hlt : ∀ l ∈ ls, (l : Nat) < B) (hbe : B + ls.length + 2 < (e : Nat)) :
    Turn P w K (.Tuple elts kk tpos) (ItE κ K ls) (e :: fpS B ls.length) e (fun i h => At κ h B ls i ∧ ∃ old, IsEnum h e (B + ls.length + 2 : Nat) (i : Nat) old) where
  mem := by simp
  obj := fun i h st c hc => by
    rcases List.mem_cons.mp hc with rfl | hc
    · obtain ⟨_, _, q⟩ := st
      exact ⟨_, q, fun v z => nomatch z⟩
    · exact (turn_zipS (P := P) (w := w) (K := K) (κ := κ) (tg := .Name "x" tpos) (x := "x") (px := tpos) rfl hn hls hlt).obj i h st.1 c hc
  keep := fun i h h' st k => by
    obtain ⟨Z, old, q⟩ := st
    exact ⟨(turn_zipS (P := P) (w := w) (K := K) (κ := κ) (tg := .Name "x" tpos) (x := "x") (px := tpos) rfl hn hls hlt).keep i h h' Z fun b hb o z => k b (List.mem_cons_of_mem _ hb) o z, old, k e List.mem_cons_self _ q⟩
  item := by
    intro X hP hw hK hc i pins s σ H E I hf st hg
    subst hP hw hK
    obtain ⟨Z, old, he⟩ := st
    obtain ⟨col, hcl, hcol⟩ := hg
    obtain ⟨vs, rv, cv⟩ := col_of I ls col hcl hcol
    have hel : (e : Nat) < s.heap.objs.size := Heap.lt_size he
    refine enumZ_item hn (by omega) hlt Z cv he hbe fun h' tk Z' eo hT hU hsz hk => ?_
    refine ⟨_, rfl, wpAny_letOwnedTupleGo_enum (s := { s with heap := h', toks := tk + 1 }) eo fun h2 he2 sb => ?_⟩
    have hl64 : 64 ≤ sizeLine := by rw [sizeLine_eq]; decide
    have ne1 : s.heap.objs.size ≠ e := Nat.ne_of_gt hel
    have ne2 : s.heap.objs.size + 1 ≠ e := Nat.ne_of_gt (Nat.lt_succ_of_lt hel)
    have up : ∀ (c : Nat) o, c ≠ e → h'.get? c = some o → h2.get? c = some o := fun c o hce q => sb.extBut _ _ (an hce) q
    have neT : (s.heap.objs.size : Addr) ≠ (s.heap.objs.size + 1 : Nat) := Nat.ne_of_lt (Nat.lt_succ_self _)
    have new1 : ObjOk X.prog X.w (upd (upd H s.heap.objs.size (.tup col)) (s.heap.objs.size + 1 : Nat) (.tup [.int (i : Nat), .ref s.heap.objs.size])) h2 s.heap.objs.size (.tup col) :=
      ⟨by show col.length ≤ sizeLine; omega, vs, rv, ⟨_, up _ _ ne1 hT, rfl, _, rfl⟩⟩
    have new2 : ObjOk X.prog X.w (upd (upd H s.heap.objs.size (.tup col)) (s.heap.objs.size + 1 : Nat) (.tup [.int (i : Nat), .ref s.heap.objs.size])) h2 (s.heap.objs.size + 1 : Nat) (.tup [.int (i : Nat), .ref s.heap.objs.size]) :=
      ⟨by show 2 ≤ sizeLine; decide, [.int (i : Nat) tk, .ref s.heap.objs.size], .cons ⟨_, rfl⟩ (.cons rfl .nil), ⟨_, up _ _ ne2 hU, rfl, _, rfl⟩⟩
    have I1 := turned2 (t' := tk + 1) (ch := e :: fpS B ls.length) (h' := h2) I (fun b o hb q => by
      have n1 : (b : Nat) ≠ e := fun z => hb (by simp [show b = e from z])
      have n2 : b ∉ fpS B ls.length := fun z => hb (List.mem_cons_of_mem _ z)
      exact up b o n1 (hk b o (fp_out fun z => n2 (fpS_mem.mpr z)) n1 q)) hf (Nat.le_refl _) (Nat.le_succ _) neT new1 new2
    refine ⟨.ref (s.heap.objs.size + 1 : Nat), _, I1, rfl, ⟨_, _, col, rfl, I.hok.fresh (Nat.le_refl _), I.hok.fresh (Nat.le_succ _), neT, rfl, hcl, fun k l xs hkl hx => ?_⟩, ⟨?_, .ref s.heap.objs.size, ?_⟩, fun c hcm => ?_⟩
    · obtain ⟨ys, x, q1, q2, q3⟩ := hcol k l hkl
      rw [hx.inj I q1]
      exact ⟨x, q2, q3⟩
    · obtain ⟨⟨f0, f1, hf0, z⟩, hti, ⟨xs, hxs, hto⟩, hit⟩ := Z'
      refine ⟨⟨f0, f1, hf0, up _ _ (by omega) z⟩, up _ _ (by omega) hti, ⟨xs, hxs, up _ _ (by omega) hto⟩, fun j m hj => (hit j m hj).at fun o q => up _ o ?_ q⟩
      have := (List.getElem?_eq_some_iff.mp hj).1
      omega
    · rw [show (((i + 1 : Nat) : Nat) : Int) = ((i : Nat) : Int) + 1 from by omega]; exact he2
    · have lt : (c : Nat) < s.heap.objs.size := by
        rcases List.mem_cons.mp hcm with rfl | hcm
        · exact hel
        · exact Nat.lt_of_le_of_lt (fpS_mem.mp hcm).2 (Nat.lt_trans hbe hel)
      rw [upd_ne (Nat.ne_of_lt (Nat.lt_succ_of_lt lt)), upd_ne (Nat.ne_of_lt lt)]
      exact (hf c hcm).1
  done := by
    intro X hP hw hK hc i pins s σ H E I hf st hg
    subst hP hw hK
    obtain ⟨Z, old, he⟩ := st
    obtain ⟨l0, xs, h0, hq, hle⟩ := hg
    obtain ⟨its, rv, p⟩ := hq.raw I
    have l1 := rv.length
    refine enumZ_end (I.ok.hd hc) h0 (hlt _ (List.mem_of_getElem? h0)) Z p (by simp; omega) he fun h' hk => ⟨rfl, I.turnedL (t' := s.toks) (ch := e :: fpS B ls.length) (fun c o hb q => hk c o (fp_out fun z => hb (List.mem_cons_of_mem _ (fpS_mem.mpr z))) q) hf⟩
  self := fun A i s Q E st h => by
    obtain ⟨_, _, he⟩ := st
    exact wpAny_pyIter_enum he h
end ZSt
set_option maxHeartbeats 1000000
/-! Ev, part ZF: enumerate(zip(a, b)): the call (under way; not in evlist yet). -/
namespace ZSt
open PySem PySem.Spec PyProof.Rows L2 RZ
section
variable {prog : Program} {w : World} {A : Around} {E : Value → Shared → Prop} {s : Shared}
theorem iter_zipO {z : Addr} {o : Obj} {Q : Value → Shared → Prop} (hz : s.heap.get? z = some o) (hc : o.cls = .type "zip") (h : Q (.ref z) s) :
    wpAny (model prog w) A (pyIter (.ref z)) Q E s := by
  have hT : s.TypeIs (.ref z) "zip" := ⟨_, hz, hc⟩
  refine wpAny_pyIter_slot hT F.slot_zip_iter (wpAny_call_entry F.slot_zip_iter hT F.entry_zip_iter ?_ (F.args_zip_iter_1 _))
  show wpAny _ _ (ret (.ref z)) _ _ _
  exact wpAny_pure ⟨_, rfl, "zip", _, hT, F.slot_zip_next.lookup, h⟩
end
theorem meets_enumZ (z : Addr) (B n : Nat) :
    Meets (Builtin.«enumerate.__new__» ⟨[.type "enumerate", .ref z], []⟩) (fun _ R s => s.heap.get? z = some (zo .none false B n) ∧
      R (.ok (.ret (.ref s.heap.objs.size))) { s with heap := s.heap.push { cls := .type "enumerate", data := .fields #[.none, .bool false, .ref z, rawInt 0, .none, .none] } }) :=
  .of_wp fun prog w A R s h => by
    obtain ⟨hp, g, d, tk, os⟩ := s; obtain ⟨hl, h⟩ := h
    have hsub := sub_enumerate
    wp_walk using wpAny_loadPart' hl
    refine wpAny_stack_any fun st => wpAny_pure ?_
    split
    · rename_i c _ _ _ _ _
      cases (c == Value.type "enumerate")
      · wp_walk using wpAny_loadPart' hl, iter_zipO hl rfl
        exact ⟨_, rfl, h⟩
      · wp_walk using wpAny_loadPart' hl, iter_zipO hl rfl
        exact ⟨_, rfl, h⟩
    · wp_walk using wpAny_loadPart' hl, iter_zipO hl rfl
      exact ⟨_, rfl, h⟩
section
variable {prog : Program} {w : World} {A : Around} {E : Value → Shared → Prop} {s : Shared}
theorem call_enumZ {z : Addr} {B n : Nat} {Q : Value → Shared → Prop} (hz : s.heap.get? z = some (zo .none false B n))
    (h : ∀ h', IsEnum h' s.heap.objs.size z 0 .none → h'.objs.size = s.heap.objs.size + 1 → (∀ b o, s.heap.get? b = some o → h'.get? b = some o) → Q (.ref s.heap.objs.size) { s with heap := h' }) :
    wpAny (model prog w) A (call (.type "enumerate") [.ref z]) Q E s := by
  refine callType_new F.called_enumerate (by decide) (F.typeCall_enumerate_1 _) (F.newCall_enumerate_1 _) (fun obj => F.args_object_init_2 obj _) F.entry_enumerate_new
    (meets_enumZ z B n) ⟨hz, ?_⟩
  have he : IsEnum (s.heap.push { cls := .type "enumerate", data := .fields #[.none, .bool false, .ref z, rawInt 0, .none, .none] }) s.heap.objs.size z 0 .none := Heap.get?_push_size _ rfl
  exact ⟨⟨_, he, rfl⟩, h _ he (Heap.size_push ..) fun b o x => Heap.get?_push_of_some _ x⟩
end
/-- for place, (first, second) in enumerate(zip(a, b)) -/
def iEnumZ (K : PySem.W.Frag) (ta : TA) : TI := fun σ H R => ta σ H fun vs H1 => ∃ (a b : Addr) (xs ys : List V) (k1 k2 : Bool), vs = [.ref a, .ref b] ∧ Kd k1 K H1 a xs ∧ Kd k2 K H1 b ys ∧ ∀ κ : Addr → Bool, κ a = k1 → κ b = k2 → R (ItE κ K [a, b]) H1
theorem pi_enumZ {X : Cx} {e e2 : Expr} {ta : TA} {p pos p2 pos2 tpos : Pos} {elts : List Expr} {kk : Nat} (hge : Gl X "enumerate") (hme : X.mg "enumerate" = none) (hg : Gl X "zip") (hm : X.mg "zip" = none) (ha : PA X [e, e2] ta)
    (hs : starEach [e, e2] X.env = (false, eval e X.env) :: starEach [e2] X.env := by rfl) (hpl : (backTo pos2 (starEach [e2] X.env)).any (·.1) = false := by rfl) :
    PI X (.Tuple elts kk tpos) (.Call (.Name "enumerate" p) [.Call (.Name "zip" p2) [e, e2] [] pos2] [] pos) (iEnumZ X.K ta) := by
  refine ⟨fun pins s σ H R I h => ?_⟩
  refine Call_ (ld_blt I hge hme boot_enumerate (PyProof.Rows.callWith_type1 (spliced_more (Call_ (ld_blt I hg hm PyProof.Rows.boot_zip (PyProof.Rows.callWith_type1 (thn (ha.run pos2 pins s σ H _ I h) fun us s1 ⟨vs, H1, I1, r1, q1⟩ => ?_) hs hpl))) rfl) rfl rfl))
  obtain ⟨a, b, xs, ys, k1, k2, ex, hx, hy, q⟩ := q1
  subst ex
  obtain ⟨κ, κa, κb⟩ : ∃ κ : Addr → Bool, κ a = k1 ∧ κ b = k2 := by
    by_cases hab : b = a
    · subst hab
      exact ⟨fun _ => k1, rfl, Kd.same I1 hx hy⟩
    · exact ⟨fun l => if l = a then k1 else k2, if_pos rfl, if_neg hab⟩
  have hx' : SqK κ X.K H1 a xs := by unfold SqK; rw [κa]; exact hx
  have hy' : SqK κ X.K H1 b ys := by unfold SqK; rw [κb]; exact hy
  have e := vals_refs (ls := [a, b]) r1
  subst e
  obtain ⟨its1, _, p1⟩ := hx'.raw I1
  obtain ⟨its2, _, p2⟩ := hy'.raw I1
  refine call_zipS κ (ls := [a, b]) (by simp) (fun l hl => ?_) fun h' Z zz hsz hk => ?_
  · rcases List.mem_cons.mp hl with rfl | hl
    · exact ⟨_, p1⟩
    · rw [List.mem_singleton.mp hl]; exact ⟨_, p2⟩
  have hlt : ∀ l ∈ [a, b], (l : Nat) < s1.heap.objs.size := fun l hl => by
    rcases List.mem_cons.mp hl with rfl | hl
    · exact p1.lt
    · rw [List.mem_singleton.mp hl]; exact p2.lt
  refine spliced_none ?_
  show wpAny _ _ (call (.type "enumerate") [.ref (s1.heap.objs.size + [a, b].length + 2 : Nat)]) _ _ _
  refine call_enumZ (s := { s1 with heap := h' }) zz fun h2 he hsz2 hk2 => ?_
  have I3 : Inv X pins σ H1 { s1 with heap := h2 } := I1.kept (t' := s1.toks) fun c o z => hk2 c o (hk c o z)
  refine wpAny_pyIter_enum he ?_
  have hbe : s1.heap.objs.size + [a, b].length + 2 < h'.objs.size := by rw [hsz]; exact Nat.lt_succ_self _
  refine ⟨_, h'.objs.size :: fpS s1.heap.objs.size [a, b].length, _, _, H1, rfl, I3, turn_enumZ (by simp) (by simp) hlt hbe, ⟨?_, .none, he⟩, fun c hcm => ?_, q κ κa κb⟩
  · exact (turn_zipS (P := X.prog) (w := X.w) (K := X.K) (κ := κ) (tg := .Name "x" tpos) (x := "x") (px := tpos) rfl (by simp) (by simp) hlt).keep 0 h' h2 Z fun b hb o z => hk2 b o z
  · have hle : s1.heap.objs.size ≤ (c : Nat) := by
      rcases List.mem_cons.mp hcm with rfl | hcm
      · exact Nat.le_trans (by omega) (Nat.le_of_lt hbe)
      · exact (fpS_mem.mp hcm).1
    exact I1.fpOk hle (I1.hok.fresh hle)
end ZSt
set_option maxHeartbeats 2000000
/-! Ev, part ZU: zip of several; methods, instances made, a local that holds a def; tuples turned about. -/
namespace ZSt
open PySem PySem.Spec PyProof.Rows L2 Ev
/-- zip of several, whatever their kinds -/
def iZipN (K : PySem.W.Frag) (ta : TA) : TI := fun σ H R => ta σ H fun vs H1 => ∃ ls : List Addr, vs = ls.map .ref ∧ 0 < ls.length ∧ ls.length ≤ 13 ∧ (∀ l ∈ ls, ∃ b xs, Kd b K H1 l xs) ∧ ∀ κ : Addr → Bool, (∀ l ∈ ls, ∀ b xs, Kd b K H1 l xs → κ l = b) → R (ItS κ K ls) H1
theorem pi_zipN {X : Cx} {e : Expr} {es : List Expr} {ta : TA} {p pos tpos : Pos} {elts : List Expr} {kk : Nat} (hg : Gl X "zip") (hm : X.mg "zip" = none) (ha : PA X (e :: es) ta)
    (hs : starEach (e :: es) X.env = (false, eval e X.env) :: starEach es X.env) (hpl : (backTo pos (starEach es X.env)).any (·.1) = false) :
    PI X (.Tuple elts kk tpos) (.Call (.Name "zip" p) (e :: es) [] pos) (iZipN X.K ta) := by
  refine ⟨fun pins s σ H R I h => ?_⟩
  refine Call_ (ld_blt I hg hm PyProof.Rows.boot_zip (PyProof.Rows.callWith_type1 (thn (ha.run pos pins s σ H _ I h) fun us s1 ⟨vs, H1, I1, r1, q1⟩ => ?_) hs hpl))
  obtain ⟨ls, ex, l0, l13, hk, q⟩ := q1
  subst ex
  obtain ⟨κ, hκ⟩ : ∃ κ : Addr → Bool, ∀ l ∈ ls, ∀ b xs, Kd b X.K H1 l xs → κ l = b := by
    classical
    refine ⟨fun l => if ∃ xs, Kd true X.K H1 l xs then true else false, fun l hl b xs hb => ?_⟩
    dsimp only
    split
    · rename_i h
      obtain ⟨ys, hy⟩ := h
      exact Kd.same I1 hy hb
    · rename_i h
      cases b with
      | false => rfl
      | true => exact absurd ⟨xs, hb⟩ h
  have hq : ∀ l ∈ ls, ∃ xs, SqK κ X.K H1 l xs := fun l hl => by
    obtain ⟨b, xs, hb⟩ := hk l hl
    refine ⟨xs, ?_⟩
    unfold SqK
    rw [hκ l hl b xs hb]
    exact hb
  have e := vals_refs (ls := ls) r1
  subst e
  have hr : ∀ l ∈ ls, ∃ xs, KSq κ s1.heap l xs := fun l hl => by
    obtain ⟨xs, hx⟩ := hq l hl
    obtain ⟨its, _, p1⟩ := hx.raw I1
    exact ⟨_, p1⟩
  refine call_zipS κ (ls := ls) l13 hr fun h' Z zz hsz hkp => ?_
  have hlt : ∀ l ∈ ls, (l : Nat) < s1.heap.objs.size := fun l hl => by
    obtain ⟨xs, p1⟩ := hr l hl
    exact p1.lt
  have I3 : Inv X pins σ H1 { s1 with heap := h' } := I1.kept (t' := s1.toks) hkp
  have hT : Shared.TypeIs { s1 with heap := h' } (.ref (s1.heap.objs.size + ls.length + 2 : Nat)) "zip" := ⟨_, zz, rfl⟩
  refine wpAny_pyIter_slot hT F.slot_zip_iter (wpAny_call_entry F.slot_zip_iter hT F.entry_zip_iter ?_ (F.args_zip_iter_1 _))
  show wpAny _ _ (ret (.ref (s1.heap.objs.size + ls.length + 2 : Nat))) _ _ _
  refine wpAny_pure ⟨_, rfl, "zip", _, hT, F.slot_zip_next.lookup, ?_⟩
  refine ⟨_, fpS s1.heap.objs.size ls.length, _, _, H1, rfl, I3, turn_zipM l0 l13 hlt, ⟨Z, zz⟩, fun c hcm => ?_, q κ hκ⟩
  have hle : s1.heap.objs.size ≤ (c : Nat) := (fpS_mem.mp hcm).1
  exact I1.fpOk hle (I1.hok.fresh hle)
end ZSt
namespace Ev
open PySem PySem.Spec PyProof.Rows L2
/-! ### methods -/
section
variable {X : Cx} {C : CXT} {n : Nat} {at' k : Addr} {fun' : FuncData} {names : List Str} {want : Sp} {E : L2.St → XK}
theorem run_fnG {pins : List (Addr × Obj)} {σ : L2.St} {H : Hp} {s : Shared} {Q : VK} {us : List Value} {xs : List V} (D : FnG X.prog X.w X.K X.mg X.base C n at' fun' names want) (room : Room n X.A) (gd : X.A.guards = some []) (bnd : Binds X.K fun' names []) (out : ∀ σ, PassesAt C X σ (E σ))
    (I : Inv X pins σ H s) (rel : Vals xs us) (hw : want xs H Q (E σ)) : wpAny (model X.prog X.w) X.A (call (.ref at') us) (EP X pins σ Q) X.xe s := by
  have len : us.length = names.length := rel.length ▸ D.size hw
  have b := bnd s us I.kIn (by rw [List.append_nil]; exact len)
  rw [List.append_nil] at b
  refine wpAny_call (codeAny_mono (D.goes (given := ⟨us, []⟩) room gd I.env0 b rel hw) ?_)
  intro r s' z
  cases r with
  | error ex => exact out σ pins H s ex s' I z
  | ok fl =>
    cases fl with
    | ret u => exact I.after z
    | next => exact (z : False).elim
    | brk => exact (z : False).elim
    | cont => exact (z : False).elim
/-- o.m(..) of an instance of the class at C -/
def tMethG (k : Addr) (m : Str) (sp : Sp) (E : L2.St → XK) (ta : TE) (t : TA) : TE := fun σ H Q => ta σ H fun x H1 => ∃ a dx fs, x = .ref a ∧ H1 a = some (.ins k dx fs) ∧ fs.lookup m = none ∧ t σ H1 fun vs H2 => sp (x :: vs) H2 Q (E σ)
theorem pe_methG {m : Str} {o : Expr} {apos pos : Pos} {e : Expr} {es : List Expr} {ta : TE} {t : TA} {pl : Sem Bool} (he : PE X o ta) (c : Cls X.K k) (hm : Meth X.K k m at') (D : FnG X.prog X.w X.K X.mg X.base C n at' fun' names want) (room : Room n X.A) (gd : X.A.guards = some [])
    (bnd : Binds X.K fun' names []) (out : ∀ σ, PassesAt C X σ (E σ)) (walk : PA X (e :: es) t) (st : starEach (e :: es) X.env = (false, eval e X.env) :: starEach es X.env)
    (bk : (backTo pos (starEach es X.env)).any (·.1) = false)
    (ht : eval (.Call (.Attribute o m apos) (e :: es) [] pos) X.env = (do
      let ov ← eval o X.env
      standAt apos.atName
      let (f, first) ← holding [ov] (getMethod ov m pl)
      callWith pos f first (backTo pos (starEach (e :: es) X.env)) (backToKw pos (keywordEach [] X.env)))) : PE X (.Call (.Attribute o m apos) (e :: es) [] pos) (tMethG k m want E ta t) := by
  refine ⟨fun pins s σ H Q I h => ?_⟩
  refine PySem.W.methodCall_KW (pl := pl) (thn (he.run pins s σ H _ I h) fun u s1 ⟨x, H1, I1, rx, a, dx, fs, ex, ea, l, q⟩ => ?_) ht
  subst ex
  obtain rfl : u = Value.ref a := rx
  refine getmeth_ok I1 ea c hm l ?_
  refine PySem.W.callWith_K (first := [.ref a]) (h₀ := X.base) I.ok.mod.kin hm.kp (thn (walk.run pos pins s1 σ H1 _ I1 q) fun us s2 ⟨vs, H2, I2, r, q2⟩ => ⟨I2.kIn, ?_⟩) st bk
  exact run_fnG (us := .ref a :: us) (xs := .ref a :: vs) D room gd bnd out I2 (.cons rfl r) q2
theorem pe_methG0 {m : Str} {o : Expr} {apos pos : Pos} {ta : TE} {pl : Sem Bool} (he : PE X o ta) (c : Cls X.K k) (hm : Meth X.K k m at') (D : FnG X.prog X.w X.K X.mg X.base C n at' fun' names want) (room : Room n X.A) (gd : X.A.guards = some [])
    (bnd : Binds X.K fun' names []) (out : ∀ σ, PassesAt C X σ (E σ))
    (ht : eval (.Call (.Attribute o m apos) [] [] pos) X.env = (do
      let ov ← eval o X.env
      standAt apos.atName
      let (f, first) ← holding [ov] (getMethod ov m pl)
      callWith pos f first (backTo pos (starEach [] X.env)) (backToKw pos (keywordEach [] X.env)))) : PE X (.Call (.Attribute o m apos) [] [] pos) (tMethG k m want E ta tNil) := by
  refine ⟨fun pins s σ H Q I h => ?_⟩
  refine PySem.W.methodCall_KW (pl := pl) (thn (he.run pins s σ H _ I h) fun u s1 ⟨x, H1, I1, rx, a, dx, fs, ex, ea, l, q⟩ => ?_) ht
  subst ex
  obtain rfl : u = Value.ref a := rx
  refine getmeth_ok I1 ea c hm l ?_
  exact PySem.W.callWith_K0 (first := [.ref a]) I1.kIn hm.kp (run_fnG (us := [.ref a]) (xs := [.ref a]) D room gd bnd out I1 (.cons rfl .nil) q)
/-- C(..): a new instance and its dict, then __init__ -/
def tMakeG (k : Addr) (sp : Sp) (E : L2.St → XK) (t : TA) : TE := fun σ H Q => t σ H fun vs H1 => ∀ x dx, H1 x = none → H1 dx = none → dx ≠ x →
  sp (.ref x :: vs) (upd (upd H1 dx (.own x)) x (.ins k dx [])) (fun v H2 => v = .non ∧ Q (.ref x) H2) (E σ)
theorem run_makeG {pins : List (Addr × Obj)} {σ : L2.St} {H : Hp} {s : Shared} {Q : VK} {us : List Value} {vs : List V} (M : Mk X.K k at') (D : FnG X.prog X.w X.K X.mg X.base C n at' fun' names want) (hr : Room (n + 1) X.A) (gd : X.A.guards = some []) (hb : Binds X.K fun' names [])
    (hx : ∀ σ, PassesAt C X σ (E σ)) (I : Inv X pins σ H s) (r : Vals vs us)
    (h : ∀ x dx, H x = none → H dx = none → dx ≠ x → want (.ref x :: vs) (upd (upd H dx (.own x)) x (.ins k dx [])) (fun v H2 => v = .non ∧ Q (.ref x) H2) (E σ)) :
    wpAny (model X.prog X.w) X.A (call (.ref k) us) (EP X pins σ Q) X.xe s := by
  have hq := h (s.heap.objs.size + 1) s.heap.objs.size (I.hok.fresh (Nat.le_succ _)) (I.hok.fresh (Nat.le_refl _)) (Nat.ne_of_lt (Nat.lt_succ_self _))
  have I2 := Inv.made (C := k) I
  have r2 : Vals (V.ref (s.heap.objs.size + 1) :: vs) (Value.ref (s.heap.objs.size + 1) :: us) := .cons rfl r
  have hl : (Value.ref (s.heap.objs.size + 1) :: us).length = names.length := by
    have e := r2.length
    rw [D.size hq] at e
    exact e.symm
  have b := hb _ (Value.ref (s.heap.objs.size + 1) :: us) I2.kIn (by rw [List.append_nil]; exact hl)
  rw [List.append_nil] at b
  refine wpAny_call (make_map (f := at') I.kIn M.makes M.init (beq_iff_eq.mp M.fn) (codeAny_mono (D.goes (given := ⟨Value.ref (s.heap.objs.size + 1) :: us, []⟩) (us := Value.ref (s.heap.objs.size + 1) :: us) (hr.make k us [])
    (by show (X.A.under _).guards = some []; exact gd) (I2.env0.make k us []) b r2 hq) fun r s' hq' => ?_))
  cases r with
  | error e => exact hx σ pins _ _ e s' I2 hq'
  | ok fl =>
    cases fl with
    | ret u =>
      obtain ⟨v, H', I3, rv, ev, q3⟩ := I2.after hq'
      subst ev
      exact ⟨rv, ⟨V.ref (s.heap.objs.size + 1), H', I3, rfl, q3⟩⟩
    | next => exact False.elim hq'
    | brk => exact False.elim hq'
    | cont => exact False.elim hq'
theorem pe_makeG {x : Str} {p pos : Pos} {e : Expr} {es : List Expr} {t : TA} (M : Mk X.K k at') (D : FnG X.prog X.w X.K X.mg X.base C n at' fun' names want) (hr : Room (n + 1) X.A) (gd : X.A.guards = some []) (hg : Gl X x) (hm : X.mg x = some (.ref k)) (hb : Binds X.K fun' names [])
    (hx : ∀ σ, PassesAt C X σ (E σ)) (ha : PA X (e :: es) t) (hdb : (x == ("__debug__" : Str)) = false) (he : starEach (e :: es) X.env = (false, eval e X.env) :: starEach es X.env) (hpl : (backTo pos (starEach es X.env)).any (·.1) = false) :
    PE X (.Call (.Name x p) (e :: es) [] pos) (tMakeG k want E t) := by
  refine ⟨fun pins s σ H Q I h => ?_⟩
  refine wpAny_Call_Name_kw (ld_glob I hg hm ?_ hdb)
  refine PySem.W.callWith_K (h₀ := X.base) I.ok.mod.kin M.kp (thn (ha.run pos pins s σ H _ I h) fun us s1 ⟨vs, H1, I1, r, q⟩ => ⟨I1.kIn, ?_⟩) he hpl
  exact run_makeG M D hr gd hb hx I1 r q
/-- a local that holds the def at f -/
def tCallVG (i : Nat) (f : Addr) (sp : Sp) (E : L2.St → XK) (t : TA) : TE := fun σ H Q => σ[i]? = some (some (.ref f)) ∧ t σ H fun vs H1 => sp vs H1 Q (E σ)
theorem pe_callVG {i : Nat} {x : Str} {p pos : Pos} {e : Expr} {es : List Expr} {t : TA} (D : FnG X.prog X.w X.K X.mg X.base C n at' fun' names want) (room : Room n X.A) (gd : X.A.guards = some []) (hN : X.N[i]? = some x) (hv : Vis X.env.scope x) (kept : PySem.W.keepIn X.K (.ref at') = true)
    (bnd : Binds X.K fun' names []) (out : ∀ σ, PassesAt C X σ (E σ)) (walk : PA X (e :: es) t) (dbg : (x == ("__debug__" : Str)) = false) (hcd : (x == ("__classdict__" : Str)) = false) (st : starEach (e :: es) X.env = (false, eval e X.env) :: starEach es X.env)
    (bk : (backTo pos (starEach es X.env)).any (·.1) = false) : PE X (.Call (.Name x p) (e :: es) [] pos) (tCallVG i at' want E t) := by
  refine ⟨fun pins s σ H Q I h => ?_⟩
  obtain ⟨hs, ht⟩ := h
  refine wpAny_Call_Name_kw (thn ((pe_var (pos := p) hN hv dbg hcd).run pins s σ H (fun v H1 => v = .ref at' ∧ H1 = H) I ⟨.ref at', hs, rfl, rfl⟩) fun u s1 ⟨v, H1, I1, r1, q1⟩ => ?_)
  obtain ⟨rfl, rfl⟩ := q1
  cases r1
  refine PySem.W.callWith_K (h₀ := X.base) I.ok.mod.kin kept (thn (walk.run pos pins s1 σ _ _ I1 ht) fun us s2 ⟨vs, H2, I2, r, q⟩ => ⟨I2.kIn, ?_⟩) st bk
  exact run_fnG D room gd bnd out I2 r q
end
/-! ### tuples turned about -/
section
open HT
variable {prog : Program} {w : World} {A : Around} {E : Value → Shared → Prop} {s : Shared}
theorem applied_rev {sl : Addr} {t : Tok} {n : Nat} {Q : Int × Int × Nat → Shared → Prop} (hs : s.heap.IsSliceOf sl .none .none (.int (-1) t))
    (h : Q ((n : Int) - 1, -1, n) s) : wpAny (model prog w) A (Builtin.Slice.sliceApplied (.ref sl) (pure (n : Int))) Q E s := by
  obtain ⟨os, hos, hcs, hds⟩ := id hs
  unfold Builtin.Slice.sliceApplied Builtin.Slice.sliceFields
  refine wpAny_bind (wpAny_bind (wpAny_field hos hds (x := .none) rfl (wpAny_bind (wpAny_field hos hds (x := .none) rfl (wpAny_bind (wpAny_field hos hds (x := .int (-1) t) rfl (wpAny_pure ?_)))))))
  refine wpAny_bind (slicePart_int ?_)
  show wpAny _ _ (if ((-1 : Int) == 0) = true then _ else _) _ _ s
  rw [if_neg (by decide)]
  refine wpAny_bind (slicePart_none (wpAny_bind (slicePart_none (wpAny_bind (wpAny_pure ?_)))))
  show wpAny _ _ (match Builtin.Slice.sliceAdjust none none (-1) (n : Int) with | (lo, hi) => pure (lo, (-1 : Int), Builtin.Slice.slicePlaces lo hi (-1))) _ _ s
  have e1 : Builtin.Slice.sliceAdjust none none (-1) (n : Int) = ((n : Int) - 1, -1) := by
    unfold Builtin.Slice.sliceAdjust
    simp
  rw [e1]
  have e2 : Builtin.Slice.slicePlaces ((n : Int) - 1) (-1) (-1) = n := by
    unfold Builtin.Slice.slicePlaces
    simp
    try omega
  show wpAny _ _ (pure ((n : Int) - 1, (-1 : Int), Builtin.Slice.slicePlaces ((n : Int) - 1) (-1) (-1))) _ _ s
  rw [e2]
  exact wpAny_pure h
theorem fm_congr {α β : Type} {f g : α → Option β} : ∀ {l : List α}, (∀ x ∈ l, f x = g x) → l.filterMap f = l.filterMap g
  | [], _ => rfl
  | x :: l, h => by
    rw [List.filterMap_cons, List.filterMap_cons, h x List.mem_cons_self, fm_congr fun y hy => h y (List.mem_cons_of_mem _ hy)]
theorem pick_rev (xs : Array Value) : ((List.range xs.size).filterMap fun (m : Nat) => xs[(((xs.size : Int) - 1) + (m : Int) * (-1)).toNat]?).toArray = xs.toList.reverse.toArray := by
  have e : ∀ m ∈ List.range xs.size, (fun (m : Nat) => xs[(((xs.size : Int) - 1) + (m : Int) * (-1)).toNat]?) m = (fun m => xs[xs.size - 1 - m]?) m := fun m hm => by
    have := List.mem_range.mp hm
    show xs[(((xs.size : Int) - 1) + (m : Int) * (-1)).toNat]? = _
    rw [show (((xs.size : Int) - 1) + (m : Int) * (-1)).toNat = xs.size - 1 - m from by omega]
  rw [fm_congr e]
  have e3 : (List.range xs.size).filterMap (fun m => xs[xs.size - 1 - m]?) = ((List.range xs.size).map fun k => xs.size - 1 - k).filterMap (xs[·]?) := by
    rw [List.filterMap_map]; rfl
  rw [e3, PySem.W.krv_range, List.filterMap_reverse, PySem.W.krv_all]
theorem getItem_tuple_rev {t sl : Addr} {items : Array Value} {tk : Tok} {Q : Value → Shared → Prop} (ht : IsTup s.heap t items) (hs : s.heap.IsSliceOf sl .none .none (.int (-1) tk))
    (h : Q (.ref s.heap.objs.size) { s with heap := s.heap.push { cls := .type "tuple", data := .seq items.toList.reverse.toArray } })
    (hsz : items.size ≤ sizeLine) : wpAny (model prog w) A (getItem (.ref t) (.ref sl)) Q E s := by
  have htake : sizeOk (.seq items.toList.reverse.toArray) := by
    show items.toList.reverse.toArray.size ≤ sizeLine
    rw [List.size_toArray, List.length_reverse, Array.length_toList]
    exact hsz
  obtain ⟨os, hos, hcs, hds⟩ := id hs
  have hTs : s.TypeIs (.ref sl) "slice" := ⟨os, hos, hcs⟩
  unfold getItem
  try with_reducible refine wpAny_holding ?_
  first | refine wpAny_bind (wpAny_pure ?_) | skip
  refine wpAny_bind (wpAny_sequenceKey ht.typeIs (by decide) ?_)
  refine wpAny_bind (wpAny_callSpecial?_slot (name := Str.ofString "__getitem__") ht.typeIs PyProof.Rows.slot_tuple_getitem
    (wpAny_call_entry PyProof.Rows.slot_tuple_getitem ht.typeIs entry_tuple_getitem ?_ (args_tuple_getitem _ _)))
  show wpAny _ _ (Builtin.Tuple.tupleItemsOf (.ref t) >>= _) _ _ s
  refine wpAny_bind (tupleItemsOf_ ht ?_)
  refine wpAny_bind (wpAny_typeOf hTs ?_)
  rw [if_pos (by decide)]
  refine wpAny_bind (applied_rev hs ?_)
  have hno : ¬ ((((items.size : Int) - 1) == 0 && (-1 : Int) == 1 && items.size == items.size) = true) := by
    intro q
    rw [Bool.and_eq_true, Bool.and_eq_true] at q
    exact absurd q.1.2 (by decide)
  show wpAny _ _ (if (((items.size : Int) - 1) == 0 && (-1 : Int) == 1 && items.size == items.size) = true then _ else _) _ _ s
  rw [if_neg hno, pick_rev]
  first
    | exact wpAny_bind (m := Builtin.Tuple.tupleExact _) (wpAny_newObj_type (wpAny_pure ⟨_, rfl, wpAny_pure h⟩) htake)
    | exact wpAny_bind (m := Builtin.Tuple.tupleExact _) (wpAny_newObj_type (wpAny_bind (wpAny_pure (wpAny_pure ⟨_, rfl, wpAny_pure h⟩))) htake)
    | exact wpAny_bind (wpAny_bind (m := Builtin.Tuple.tupleExact _) (wpAny_newObj_type (wpAny_pure (wpAny_pure ⟨_, rfl, wpAny_pure h⟩)) htake))
    | exact wpAny_bind (wpAny_bind (m := Builtin.Tuple.tupleExact _) (wpAny_newObj_type (wpAny_pure ⟨_, rfl, wpAny_pure h⟩) htake))
end
/-- a tuple turned about -/
def tRevT (K : PySem.W.Frag) (te : TE) : TE := fun σ H Q => te σ H fun x H1 => ∃ a xs, x = .ref a ∧ SqT K H1 a xs ∧ ∀ p, H1 p = none → Q (.ref p) (upd H1 p (.tup xs.reverse))
theorem pe_revT {X : Cx} {e : Expr} {te : TE} {k : Nat} {p1 p2 p3 pos : Pos} (he : PE X e te) : PE X (.Subscript e (.Slice none none (some (.UnaryOp .USub (.Constant (.int 1) k p1) p2)) p3) pos) (tRevT X.K te) := by
  have step : PO X (some (.UnaryOp .USub (.Constant (.int 1) k p1) p2)) (tPart (tUn (rU fun i => .int (-i)) (tC (.int 1)))) := po_some (pe_un un_neg pe_int)
  constructor
  intro pins s σ H Q I h
  refine Subscript_ (thn (he.run pins s σ H _ I h) ?_)
  rintro v s1 ⟨x, H1, I1, r1, a, xs, rfl, hx, q⟩
  cases r1
  refine wpAny_Slice (thn (po_none.run pins s1 σ H1 (fun o G => o = none ∧ G = H1) I1 ⟨rfl, rfl⟩) ?_)
  rintro vl s2 ⟨_, H1, I2, pl, rfl, rfl⟩
  refine thn (po_none.run pins s2 σ H1 (fun o G => o = none ∧ G = H1) I2 ⟨rfl, rfl⟩) ?_
  rintro vu s3 ⟨_, H1, I3, pu, rfl, rfl⟩
  refine thn (step.run pins s3 σ H1 (fun o G => o = some (-1) ∧ G = H1) I3 ⟨1, rfl, -1, rfl, rfl, rfl⟩) ?_
  rintro vs s4 ⟨_, H1, I4, ps, rfl, rfl⟩
  cases pl
  cases pu
  cases ps with
  | int i tk =>
    have I5 : Inv X pins σ H1 { s4 with heap := s4.heap.push { cls := .type "slice", data := .fields #[.none, .none, .int (-1) tk] } } := I4.kept (t' := s4.toks) fun b ob q => Heap.get?_push_of_some _ q
    obtain ⟨its, rv, tup, len⟩ := I5.tuple hx
    have same := rv.length
    refine tail_any (ops := [.ref a, .ref s4.heap.objs.size]) tup.typeIs (PyProof.Rows.slot_tuple_getitem.lookup) ?_ (by with_unfolding_all rfl)
    refine getItem_tuple_rev tup (Heap.IsSliceOf.new _ .none .none (.int (-1) tk)) ?_ (by rw [List.size_toArray]; omega)
    refine ⟨.ref _, _, I5.laid (t' := s4.toks) (o := .tup xs.reverse) (fun b ob q => Heap.get?_push_of_some _ q) (Nat.le_refl _) ⟨by rw [List.length_reverse]; exact len, _, rv.reverse, ?_⟩, rfl, q _ (I5.hok.fresh (Nat.le_refl _))⟩
    have e : its.toArray.toList = its := by simp
    rw [e]
    exact IsTup.new _ _
end Ev
set_option maxHeartbeats 2000000
/-! Ev, part ZV: a display of a dict with tuple keys. -/
namespace Ev
open PySem PySem.Spec PyProof.Rows L2
abbrev KB : Type := List Key × Addr × V
/-- one after the other put in -/
def putsT (kvs : List (List Key × V)) (more : List KB) : List (List Key × V) := more.foldl (fun acc x => putK acc x.1 x.2.2) kvs
theorem putsT_len : ∀ (more : List KB) (kvs : List (List Key × V)), (putsT kvs more).length ≤ kvs.length + more.length
  | [], kvs => Nat.le_refl _
  | x :: r, kvs => by
    have h1 := putsT_len r (putK kvs x.1 x.2.2)
    have h2 := length_putK kvs x.1 x.2.2
    show (putsT (putK kvs x.1 x.2.2) r).length ≤ _
    rw [List.length_cons]; omega
/-- the keys' tuples, the values, as the machine has them -/
theorem carry_of {P : Program} {w : World} {H : Hp} {h : Heap} (ok : HOk P w H h) : ∀ {kbs : List KB} {ws : List (Value × Value)}, (∀ x ∈ kbs, H x.2.1 = some (.tup (x.1.map kV))) → VV (kbs.map fun x => (V.ref x.2.1, x.2.2)) ws →
    ∃ rs : List (List Key × Addr × Value), CarriesH (tupleKind (mixKind P w)) h ws rs ∧ Paired (fun (p : KB) (q : List Key × Addr × Value) => p.1 = q.1 ∧ p.2.1 = q.2.1 ∧ RelV p.2.2 q.2.2) kbs rs
  | [], _, _, r => by
    rw [List.map_nil] at r
    cases r
    exact ⟨[], trivial, .nil⟩
  | x :: kbs, _, hk, r => by
    rw [List.map_cons] at r
    cases r with
    | @cons _ b _ bs z t =>
      obtain ⟨u, v⟩ := b
      obtain ⟨rs, c, q⟩ := carry_of ok (fun y hy => hk y (List.mem_cons_of_mem _ hy)) t
      have z1 : u = Value.ref x.2.1 := z.1
      subst z1
      exact ⟨(x.1, x.2.1, v) :: rs, ⟨rfl, rfl, key_of ok (hk x List.mem_cons_self), c⟩, .cons ⟨rfl, rfl, z.2⟩ q⟩
theorem stored_of {H : Hp} : ∀ {kbs : List KB} {rs : List (List Key × Addr × Value)} {kvs : List (List Key × V)} {xs : List (List Key × Addr × Value)}, (∀ x ∈ kbs, H x.2.1 = some (.tup (x.1.map kV))) →
    Paired (fun (p : KB) (q : List Key × Addr × Value) => p.1 = q.1 ∧ p.2.1 = q.2.1 ∧ RelV p.2.2 q.2.2) kbs rs → KT H kvs xs → KT H (putsT kvs kbs) (storedAllH xs rs)
  | _, _, _, _, _, .nil, r => r
  | x :: kbs, q :: rs, kvs, xs, hk, .cons z t, r => by
    have st := r.put x.1 (hk x List.mem_cons_self) z.2.2
    have e : storedH xs x.1 x.2.1 q.2.2 = storedH xs q.1 q.2.1 q.2.2 := by rw [z.1, z.2.1]
    rw [e] at st
    exact stored_of (kbs := kbs) (rs := rs) (kvs := putK kvs x.1 x.2.2) (xs := storedH xs q.1 q.2.1 q.2.2) (fun y hy => hk y (List.mem_cons_of_mem _ hy)) t st
/-- {(..): v, ..}; the new dict stands empty while the pairs are made -/
def tDispT (trs : List (TE × TE)) : TE := fun σ H Q => ∀ p, H p = none → tPairs trs σ (upd H p (.dT [])) fun ps H2 => H2 p = some (.dT []) ∧ ∃ kbs : List KB, ps = kbs.map (fun x => (V.ref x.2.1, x.2.2)) ∧ (∀ x ∈ kbs, H2 x.2.1 = some (.tup (x.1.map kV))) ∧ kbs.length ≤ 15 ∧
  Q (.ref p) (upd H2 p (.dT (putsT [] kbs)))
theorem pe_dispT {X : Cx} {pos : Pos} {keys : List (Option Expr)} {values : List Expr} {trs : List (TE × TE)} (hu : X.A.units + 1 < cLine) (h : PPs X pos keys values trs) (hall : keys.all (·.isSome) = true) (hl : keys.length = values.length) (h0 : keys ≠ [])
    (h15 : keys.length ≤ 15) : PE X (.Dict keys values pos) (tDispT trs) := by
  constructor
  intro pins s σ H Q I q
  have free := I.hok.fresh (Nat.le_refl s.heap.objs.size)
  have I1 := I.laid (a := s.heap.objs.size) (o := .dT []) (h' := s.heap.push { cls := .type "dict", data := .dict #[] }) (t' := s.toks) (fun _ _ e => Heap.get?_push_of_some _ e) (Nat.le_refl _) (dt_empty s.heap I.big)
  have hn := pairTrees_length keys values X.env pos hall hl
  have hne : pairTrees keys values X.env pos ≠ [] := fun z => by
    rw [z] at hn
    exact h0 (List.length_eq_zero_iff.mp hn.symm)
  rw [arm_eval_Dict, zip_pairTrees keys values X.env pos hall hl, dictDisplay_pairs (pairTrees keys values X.env pos) hne (by omega)]
  refine wpAny_bind (wpAny_standAt (wpAny_bind (wpAny_subDictH (knd := tupleKind (mixKind X.prog X.w)) (show X.A.units < cLine by omega) (by rw [hn]; exact h15) (thn (h.run pins _ σ _ _ I1 (q _ free)) ?_))))
  rintro ws s2 ⟨ps, H2, I2, rel, e, kbs, rfl, hk, lk, q2⟩
  obtain ⟨rs, c, rr⟩ := carry_of I2.hok hk rel
  obtain ⟨z, hd, xs0, r0, dd⟩ := dt_of I2.hok e
  cases r0
  refine ⟨rs, c, dd, fun h' tk dd' hs => wpAny_pure ⟨.ref s.heap.objs.size, _, ?_, rfl, q2⟩⟩
  obtain ⟨ob, es, ep, ho, k2, k3, k4, _, k5⟩ := dd'
  have len : (putsT [] kbs).length ≤ sizeLine := by
    have := putsT_len kbs []
    rw [List.length_nil] at this
    rw [sizeLine_eq]; omega
  refine d_write I2 (by rw [e]; exact True.intro) hs ⟨ob, ho⟩ ⟨len, hd, _, (stored_of hk rr .nil).keeps fun b ys eb => ?_, ob, es, ep, ho, k2, k3, k4, k5⟩
  rw [upd_ne (ne_of eb e (fun z => nomatch z))]
  exact eb
end Ev
/-! Ev, part I: the denotation of expressions is sound: each construct. -/
namespace Ev
open PySem PySem.Spec PyProof.Rows L2

section
variable {K : PySem.W.Frag} {mg : Str → Option Value} {W : WX} {c : Cfg} {ta tb tc : TE} {da db dc : Env → Hs → R D} {tt : TT} {dt : Env → Hs → R Bool} {tl : TA} {dl : Env → Hs → R (List D)}
theorem se_var (i : Nat) : SE K mg W (tVar i) ((Ex.var i).den c) := by
  intro ρ h S ι σ H Q r re hp
  replace hp : PostG K mg W S ι H σ (KQ K Q) (match ρ[i]? with | some (some d) => R.ok d h | _ => R.stuck) := hp
  split at hp
  · rename_i d e
    obtain ⟨v, e1, rv⟩ := re.2 i d e
    exact ⟨v, e1, hp S ι H r Ext.refl v rv⟩
  · exact hp.elim
theorem se_const {d : D} {v : V} (hv : ∀ S ι, RV K S ι d v) : SE K mg W (tC v) (fun _ h => .ok d h) := by
  intro ρ h S ι σ H Q r re hp
  exact hp S ι H r Ext.refl v (hv S ι)
theorem se_stuck {t : TE} : SE K mg W t (fun _ _ => .stuck) := by
  intro ρ h S ι σ H Q r re hp
  exact hp.elim
theorem se_bin (o : BOp) (fz : Bool) (ha : SE K mg W ta da) (hb : SE K mg W tb db) : SE K mg W (tOp (rBin K o) ta tb) (fun ρ h => (da ρ h).bind fun x h1 => (db ρ h1).bind fun y h2 => binD o fz x y h2) := by
  intro ρ h S ι σ H Q r re hp
  refine ha ρ h S ι σ H _ r re (hp.bind.imp fun x h1 S1 ι1 H1 r1 ex1 p1 v rv => ?_)
  refine hb ρ h1 S1 ι1 σ H1 _ r1 (re.ext ex1) (p1.bind.imp fun y h2 S2 ι2 H2 r2 ex2 p2 u ru => ?_)
  exact bin_sound o fz r2 (rv.ext ex2) ru p2
theorem se_neg (ha : SE K mg W ta da) : SE K mg W (tUn (rU fun i => .int (-i)) ta) (fun ρ h => (da ρ h).bind fun x h1 => match x with | .int i => .ok (.int (-i)) h1 | _ => .stuck) := by
  intro ρ h S ι σ H Q r re hp
  refine ha ρ h S ι σ H _ r re (hp.bind.imp fun x h1 S1 ι1 H1 r1 ex1 p1 v rv => ?_)
  cases rv with
  | int i => exact ⟨i, rfl, flat_post r1 (.int _) p1⟩
  | _ => exact p1.elim
theorem se_cmp (o : COp) (ha : SE K mg W ta da) (hb : SE K mg W tb db) : SE K mg W (tOp (rCmp K o) ta tb) (fun ρ h => (da ρ h).bind fun x h1 => (db ρ h1).bind fun y h2 => cmpD o x y h2) := by
  intro ρ h S ι σ H Q r re hp
  refine ha ρ h S ι σ H _ r re (hp.bind.imp fun x h1 S1 ι1 H1 r1 ex1 p1 v rv => ?_)
  refine hb ρ h1 S1 ι1 σ H1 _ r1 (re.ext ex1) (p1.bind.imp fun y h2 S2 ι2 H2 r2 ex2 p2 u ru => ?_)
  exact cmp_sound o r2 (rv.ext ex2) ru p2
/-- comparing, then the rest -/
theorem cmp_bind (o : COp) {S : Hp} {ι : List Addr} {H : Hp} {h : Hs} {σ : L2.St} {d e : D} {x y : V} {α : Type} {f : D → Hs → R α} {k : α → Hs → Hp → List Addr → Hp → Prop} {Q : VK}
    (r : HRel K S ι h H) (rx : RV K S ι d x) (ry : RV K S ι e y) (hp : PostG K mg W S ι H σ k ((cmpD o d e h).bind f))
    (hQ : ∀ z h' S' ι' H' v, HRel K S' ι' h' H' → Ext S ι H S' ι' H' → RV K S' ι' z v → PostG K mg W S' ι' H' σ k (f z h') → Q v H') : rCmp K o x y H Q :=
  cmp_sound o r rx ry (hp.bind.imp fun z h' S' ι' H' hr ex p v rv => hQ z h' S' ι' H' v hr ex rv p)
theorem se_chain (o o' : COp) (ha : SE K mg W ta da) (hb : SE K mg W tb db) (hc : SE K mg W tc dc) : SE K mg W (tChain (rCmp K o) (rCmp K o') ta tb tc)
    (fun ρ h => (da ρ h).bind fun x h1 => (db ρ h1).bind fun y h2 => (cmpD o x y h2).bind fun z h3 => match z with
      | .bl true => (dc ρ h3).bind fun w h4 => cmpD o' y w h4
      | .bl false => .ok (.bl false) h3
      | _ => .stuck) := by
  intro ρ h S ι σ H Q r re hp
  refine ha ρ h S ι σ H _ r re (hp.bind.imp fun x h1 S1 ι1 H1 r1 ex1 p1 v rv => ?_)
  refine hb ρ h1 S1 ι1 σ H1 _ r1 (re.ext ex1) (p1.bind.imp fun y h2 S2 ι2 H2 r2 ex2 p2 u ru => ?_)
  refine cmp_bind o r2 (rv.ext ex2) ru p2 fun z h3 S3 ι3 H3 w r3 ex3 rw' p3 => ?_
  cases rw' with
  | bl b =>
    refine ⟨b, rfl, ?_⟩
    cases b with
    | true =>
      rw [if_pos rfl]
      refine hc ρ h3 S3 ι3 σ H3 _ r3 (((re.ext ex1).ext ex2).ext ex3) (PostG.imp (PostG.bind p3) fun w h4 S4 ι4 H4 r4 ex4 p4 t rt => ?_)
      exact cmp_sound o' r4 ((ru.ext ex3).ext ex4) rt p4
    | false =>
      rw [if_neg Bool.false_ne_true]
      exact flat_post r3 (.bl _) p3
  | _ => exact PostG.elim p3
where
  PostG.elim {S : Hp} {ι : List Addr} {H : Hp} {σ : L2.St} {k : D → Hs → Hp → List Addr → Hp → Prop} {p : Prop} (h : PostG K mg W S ι H σ k .stuck) : p := h.elim
theorem se_and (ha : SE K mg W ta da) (hb : SE K mg W tb db) : SE K mg W (tAndV ta tb) (fun ρ h => (da ρ h).bind fun x h1 => match x with
    | .bl true => db ρ h1
    | .bl false => .ok (.bl false) h1
    | _ => .stuck) := by
  intro ρ h S ι σ H Q r re hp
  refine ha ρ h S ι σ H _ r re (hp.bind.imp fun x h1 S1 ι1 H1 r1 ex1 p1 v rv => ?_)
  cases rv with
  | bl b =>
    refine ⟨b, rfl, ?_⟩
    cases b with
    | true => rw [if_pos rfl]; exact hb ρ h1 S1 ι1 σ H1 Q r1 (re.ext ex1) p1
    | false => rw [if_neg Bool.false_ne_true]; exact flat_post r1 (.bl _) p1
  | _ => exact False.elim p1
theorem se_or (ha : SE K mg W ta da) (hb : SE K mg W tb db) : SE K mg W (tOrV ta tb) (fun ρ h => (da ρ h).bind fun x h1 => match x with
    | .bl true => .ok (.bl true) h1
    | .bl false => db ρ h1
    | _ => .stuck) := by
  intro ρ h S ι σ H Q r re hp
  refine ha ρ h S ι σ H _ r re (hp.bind.imp fun x h1 S1 ι1 H1 r1 ex1 p1 v rv => ?_)
  cases rv with
  | bl b =>
    refine ⟨b, rfl, ?_⟩
    cases b with
    | true => rw [if_pos rfl]; exact flat_post r1 (.bl _) p1
    | false => rw [if_neg Bool.false_ne_true]; exact hb ρ h1 S1 ι1 σ H1 Q r1 (re.ext ex1) p1
  | _ => exact False.elim p1
theorem se_not (ha : SE K mg W ta da) : SE K mg W (tNotV ta) (fun ρ h => (da ρ h).bind fun x h1 => match x with
    | .bl b => .ok (.bl (!b)) h1
    | _ => .stuck) := by
  intro ρ h S ι σ H Q r re hp
  refine ha ρ h S ι σ H _ r re (hp.bind.imp fun x h1 S1 ι1 H1 r1 ex1 p1 v rv => ?_)
  cases rv with
  | bl b => exact ⟨b, rfl, flat_post r1 (.bl _) p1⟩
  | _ => exact False.elim p1
theorem se_ite (ht : ST K mg W tt dt) (ha : SE K mg W ta da) (hb : SE K mg W tb db) : SE K mg W (tIf tt ta tb) (fun ρ h => (dt ρ h).bind fun k h1 => if k = true then da ρ h1 else db ρ h1) := by
  intro ρ h S ι σ H Q r re hp
  refine ht ρ h S ι σ H _ r re (hp.bind.imp fun k h1 S1 ι1 H1 r1 ex1 p1 => ?_)
  cases k with
  | true => rw [if_pos rfl] at p1 ⊢; exact ha ρ h1 S1 ι1 σ H1 Q r1 (re.ext ex1) p1
  | false => rw [if_neg Bool.false_ne_true] at p1 ⊢; exact hb ρ h1 S1 ι1 σ H1 Q r1 (re.ext ex1) p1
theorem se_tup (hl : SA K mg W tl dl) : SE K mg W (tTup tl) (fun ρ h => (dl ρ h).bind fun ds h1 => if ds.length ≤ LN then .ok (.tup ds) h1 else .stuck) := by
  intro ρ h S ι σ H Q r re hp
  refine hl ρ h S ι σ H _ r re (hp.bind.imp fun ds h1 S1 ι1 H1 r1 ex1 p1 vs rs => ?_)
  by_cases z : ds.length ≤ LN
  · rw [if_pos z] at p1
    exact ⟨by rw [← rs.length]; exact line_of z, fun p hn => tup_post r1 rs p1 hn⟩
  · rw [if_neg z] at p1; exact False.elim p1
theorem se_lst (fz : Bool) (hl : SA K mg W tl dl) : SE K mg W (tLst tl) (fun ρ h => (dl ρ h).bind fun ds h1 => newL fz ds h1) := by
  intro ρ h S ι σ H Q r re hp
  exact hl ρ h S ι σ H _ r re (hp.bind.imp fun ds h1 S1 ι1 H1 r1 ex1 p1 vs rs => newL_post r1 rs p1)
theorem se_idx (ha : SE K mg W ta da) (hb : SE K mg W tb db) : SE K mg W (tOp (rIdx K) ta tb) (fun ρ h => (da ρ h).bind fun x h1 => (db ρ h1).bind fun y h2 => idxD x y h2) := by
  intro ρ h S ι σ H Q r re hp
  refine ha ρ h S ι σ H _ r re (hp.bind.imp fun x h1 S1 ι1 H1 r1 ex1 p1 v rv => ?_)
  refine hb ρ h1 S1 ι1 σ H1 _ r1 (re.ext ex1) (p1.bind.imp fun y h2 S2 ι2 H2 r2 ex2 p2 u ru => ?_)
  exact idx_sound r2 (rv.ext ex2) ru p2
def SO (K : PySem.W.Frag) (mg : Str → Option Value) (W : WX) (t : TO) (de : Env → Hs → R (Option Int)) : Prop := ∀ ρ h S ι σ H Q, HRel K S ι h H → ERel K S ι ρ σ → PostG K mg W S ι H σ (fun o _ _ _ H' => Q o H') (de ρ h) → t σ H Q
theorem so_none : SO K mg W tNoPart (fun _ h => .ok none h) := fun ρ h S ι σ H Q r re hp => hp S ι H r Ext.refl
theorem so_some (ha : SE K mg W ta da) : SO K mg W (tPart ta) (fun ρ h => (da ρ h).bind fun x h1 => match x with | .int i => .ok (some i) h1 | _ => .stuck) := by
  intro ρ h S ι σ H Q r re hp
  refine ha ρ h S ι σ H _ r re (hp.bind.imp fun x h1 S1 ι1 H1 r1 ex1 p1 v rv => ?_)
  cases rv with
  | int i => exact ⟨i, rfl, p1 S1 ι1 H1 r1 Ext.refl⟩
  | _ => exact False.elim p1
theorem se_slice (fz : Bool) {tl th : TO} {dl dh : Env → Hs → R (Option Int)} (ha : SE K mg W ta da) (hl : SO K mg W tl dl) (hh : SO K mg W th dh) : SE K mg W (tSl (rSl K) ta tl th)
    (fun ρ h => (da ρ h).bind fun x h1 => (dl ρ h1).bind fun l h2 => (dh ρ h2).bind fun u h3 => sliceD fz x l u h3) := by
  intro ρ h S ι σ H Q r re hp
  refine ha ρ h S ι σ H _ r re (hp.bind.imp fun x h1 S1 ι1 H1 r1 ex1 p1 v rv => ?_)
  refine hl ρ h1 S1 ι1 σ H1 _ r1 (re.ext ex1) (p1.bind.imp fun y h2 S2 ι2 H2 r2 ex2 p2 => ?_)
  refine hh ρ h2 S2 ι2 σ H2 _ r2 ((re.ext ex1).ext ex2) (p2.bind.imp fun z h3 S3 ι3 H3 r3 ex3 p3 => ?_)
  exact sl_sound r3 ((rv.ext ex2).ext ex3) p3
theorem RVs.rev {S : Hp} {ι : List Addr} : ∀ {xs : List D} {us : List V}, RVs K S ι xs us → RVs K S ι xs.reverse us.reverse
  | _, _, .nil => .nil
  | _, _, .cons r t => by
    rw [List.reverse_cons, List.reverse_cons]
    exact (RVs.rev t).append (.cons r .nil)
theorem PostG.ext1 {α : Type} {S ι H S1 ι1 H1} {σ : L2.St} {k : α → Hs → Hp → List Addr → Hp → Prop} {x : R α} (hp : PostG K mg W S ι H σ k x) (ex : Ext S ι H S1 ι1 H1) : PostG K mg W S1 ι1 H1 σ k x := by
  cases x with
  | ok b h2 => exact fun S2 ι2 H2 hr2 ex2 => hp S2 ι2 H2 hr2 (ex.trans ex2)
  | exc c p h2 => exact fun cls dd S2 ι2 H2 hr2 ex2 xo => hp cls dd S2 ι2 H2 hr2 (ex.trans ex2) xo
  | stuck => exact hp
theorem se_rev (fz : Bool) (ha : SE K mg W ta da) : SE K mg W (fun σ H Q => tRevL K ta σ H Q ∨ tRevT K ta σ H Q) (fun ρ h => (da ρ h).bind fun x h1 => revD fz x h1) := by
  intro ρ h S ι σ H Q r re hp
  replace hp : PostG K mg W S ι H σ (KQ K Q) ((da ρ h).bind fun x h1 => revD fz x h1) := hp
  cases e : da ρ h with
  | stuck => rw [e] at hp; exact False.elim hp
  | exc c p h1 => rw [e] at hp; exact .inl (ha ρ h S ι σ H _ r re (by rw [e]; exact hp))
  | ok x h1 =>
    rw [e] at hp
    have hp : PostG K mg W S ι H σ (KQ K Q) (revD fz x h1) := hp
    unfold revD at hp
    split at hp
    · rename_i xs e1
      refine .inl (ha ρ h S ι σ H _ r re ?_)
      rw [e]
      intro S1 ι1 H1 r1 ex1 v rv
      obtain ⟨a, ws, rfl, rs, hl, ht⟩ := seq_ok r1 rv e1
      have p2 : PostG K mg W S1 ι1 H1 σ (KQ K Q) (newL fz xs.reverse h1) := PostG.ext1 hp ex1
      exact ⟨a, ws, rfl, hl rfl, (newL_post r1 rs.rev p2).2⟩
    · rename_i xs e1
      refine .inr (ha ρ h S ι σ H _ r re ?_)
      rw [e]
      intro S1 ι1 H1 r1 ex1 v rv
      obtain ⟨a, ws, rfl, rs, hl, ht⟩ := seq_ok r1 rv e1
      refine ⟨a, ws, rfl, ht rfl, fun p hn => ?_⟩
      exact hp _ _ _ (r1.fz hn) (ex1.trans (Ext.fz r1 hn)) _ (.tup upd_same (rs.rev.ext (Ext.fz r1 hn)))
    · exact False.elim hp
theorem sa_nil : SA K mg W tNil (fun _ h => .ok [] h) := fun ρ h S ι σ H Q r re hp => hp S ι H r Ext.refl [] .nil
theorem sa_cons (ha : SE K mg W ta da) (hl : SA K mg W tl dl) : SA K mg W (tCons ta tl) (fun ρ h => (da ρ h).bind fun x h1 => (dl ρ h1).bind fun xs h2 => .ok (x :: xs) h2) := by
  intro ρ h S ι σ H Q r re hp
  refine ha ρ h S ι σ H _ r re (hp.bind.imp fun x h1 S1 ι1 H1 r1 ex1 p1 v rv => ?_)
  refine hl ρ h1 S1 ι1 σ H1 _ r1 (re.ext ex1) (p1.bind.imp fun xs h2 S2 ι2 H2 r2 ex2 p2 vs rs => ?_)
  exact p2 S2 ι2 H2 r2 Ext.refl (v :: vs) (.cons (rv.ext ex2) rs)
theorem se_prim {p : Prim} {fz : Bool} (hp' : ∀ t, p ≠ .isinst t) (hl : SA K mg W tl dl) : SE K mg W (tCB (rPrim K p) tl) (fun ρ h => (dl ρ h).bind fun ds h1 => primD p fz ds h1) := by
  intro ρ h S ι σ H Q r re hp
  exact hl ρ h S ι σ H _ r re (hp.bind.imp fun ds h1 S1 ι1 H1 r1 ex1 p1 vs rs => prim_sound hp' r1 rs p1)
theorem se_isinst {t : String} {fz : Bool} (ha : SE K mg W ta da) : SE K mg W (tCB (rIsi K) (tCons ta (tCons (tC (.ty t)) tNil))) (fun ρ h => ((da ρ h).bind fun x h1 => .ok [x] h1).bind fun ds h1 => primD (.isinst t) fz ds h1) := by
  intro ρ h S ι σ H Q r re hp
  have hp2 : PostG K mg W S ι H σ (KQ K Q) ((da ρ h).bind fun x h1 => primD (.isinst t) fz [x] h1) := by
    replace hp : PostG K mg W S ι H σ (KQ K Q) (((da ρ h).bind fun x h1 => R.ok [x] h1).bind fun ds h1 => primD (.isinst t) fz ds h1) := hp
    cases e : da ρ h with
    | ok x h1 => rw [e] at hp; exact hp
    | exc c p h1 => rw [e] at hp; exact hp
    | stuck => rw [e] at hp; exact hp
  refine ha ρ h S ι σ H _ r re (hp2.bind.imp fun x h1 S1 ι1 H1 r1 ex1 p1 v rv => ?_)
  exact isinst_sound r1 rv p1
theorem se_lrange (fz : Bool) (ha : SE K mg W ta da) : SE K mg W (tLstRg (tRg1 ta)) (fun ρ h => (da ρ h).bind fun x h1 => match x with
    | .int n => if -(LN : Int) ≤ n ∧ n ≤ (LN : Int) then newL fz ((List.range n.toNat).map fun k => .int (k : Nat)) h1 else .stuck
    | _ => .stuck) := by
  intro ρ h S ι σ H Q r re hp
  refine ha ρ h S ι σ H _ r re (hp.bind.imp fun x h1 S1 ι1 H1 r1 ex1 p1 v rv => ?_)
  cases rv with
  | int n =>
    refine ⟨n, rfl, ?_⟩
    dsimp only at p1
    split at p1
    · rename_i hn
      unfold LN at hn
      refine ⟨⟨by omega, by omega, by omega, by omega, by omega⟩, ?_⟩
      have e : rgV 0 n = ((List.range n.toNat).map fun k : Nat => (k : Int)).map V.int := by
        unfold rgV
        rw [List.map_map]
        have : (n - 0).toNat = n.toNat := by omega
        rw [this]
        apply List.map_congr_left
        intro k _
        show V.int (0 + (k : Int)) = V.int (k : Int)
        rw [Int.zero_add]
      rw [e]
      have p2 : PostG K mg W S1 ι1 H1 σ (KQ K Q) (newL fz (((List.range n.toNat).map fun k : Nat => (k : Int)).map D.int) h1) := by
        rw [List.map_map]; exact p1
      exact (newL_post r1 RVs.ints p2).2
    · exact False.elim p1
  | _ => exact False.elim p1
theorem se_lrange2 (fz : Bool) (ha : SE K mg W ta da) (hb : SE K mg W tb db) : SE K mg W (tLstRg (tRg2 ta tb)) (fun ρ h => (da ρ h).bind fun x h1 => (db ρ h1).bind fun y h2 => lr2D fz x y h2) := by
  intro ρ h S ι σ H Q r re hp
  refine ha ρ h S ι σ H _ r re (hp.bind.imp fun x h1 S1 ι1 H1 r1 ex1 p1 v rv => ?_)
  refine hb ρ h1 S1 ι1 σ H1 _ r1 (re.ext ex1) (p1.bind.imp fun y h2 S2 ι2 H2 r2 ex2 p2 w rw' => ?_)
  cases rv with
  | int i =>
    cases rw' with
    | int j =>
      refine ⟨i, j, rfl, rfl, ?_⟩
      unfold lr2D at p2
      dsimp only at p2
      split at p2
      · rename_i hn
        unfold LN at hn
        refine ⟨⟨by omega, by omega, by omega, by omega, by omega⟩, ?_⟩
        have e : rgV i j = ((List.range (j - i).toNat).map fun k : Nat => i + (k : Int)).map V.int := by
          unfold rgV
          rw [List.map_map]
          rfl
        rw [e]
        have p3 : PostG K mg W S2 ι2 H2 σ (KQ K Q) (newL fz (((List.range (j - i).toNat).map fun k : Nat => i + (k : Int)).map D.int) h2) := by
          rw [List.map_map]; exact p2
        exact (newL_post r2 RVs.ints p3).2
      · exact False.elim p2
    | _ => exact False.elim p2
  | _ => cases y <;> exact False.elim p2
theorem HRel.frozen {S : Hp} {ι : List Addr} {h : Hs} {H : Hp} {n : Nat} {a : Addr} {cc : Cell} {o : HO} (r : HRel K S ι h H) (en : ι[n]? = some a) (hc : h[n]? = some cc) (h2 : H a = some o) (hs : S a = none) :
    HRel K (upd S a o) ι (h.set n .dead) H ∧ Ext S ι H (upd S a o) ι H := by
  have up : Sub S (upd S a o) := fun b q e => by rw [upd_ne (ne_of_none e hs)]; exact e
  refine ⟨⟨by rw [List.length_set]; exact r.len, r.nd, fun b q e => ?_, r.out, fun m b c' ha hc' => ?_⟩, ⟨up, fun _ _ e => e, fun _ _ e _ => e, fun _ m => .inl m, fun b e => ?_, fun _ _ e => e⟩⟩
  · by_cases k : b = a
    · subst k; rw [upd_same] at e; cases e; exact h2
    · rw [upd_ne k] at e; exact r.sub _ _ e
  · by_cases k : m = n
    · subst k
      have hl : m < h.length := (List.getElem?_eq_some_iff.mp hc).1
      rw [List.getElem?_set_self hl] at hc'
      cases hc'
      trivial
    · rw [List.getElem?_set_ne (Ne.symm k)] at hc'
      have ka : b ≠ a := fun z => by subst z; exact k (nd_ix r.nd ha en)
      exact (r.cell m b c' ha hc').up up (fun _ _ e => e) (fun e => by rw [upd_ne ka]; exact e) fun _ e => e
  · by_cases k : b = a
    · subst k; exact .inr (.inl (List.mem_of_getElem? en))
    · rw [upd_ne k] at e; exact .inl e
theorem paired_split {S : Hp} {ι : List Addr} : ∀ {fs : List (Str × D)} {vs : List (Str × V)}, Paired (fun (p : Str × D) (q : Str × V) => p.1 = q.1 ∧ RV K S ι p.2 q.2) fs vs → fs.map (·.1) = vs.map (·.1) ∧ RVs K S ι (fs.map (·.2)) (vs.map (·.2))
  | _, _, .nil => ⟨rfl, .nil⟩
  | _ :: _, _ :: _, .cons z t => by
    obtain ⟨h1, h2⟩ := paired_split t
    exact ⟨by rw [List.map_cons, List.map_cons, z.1, h1], .cons z.2 h2⟩
theorem se_freeze (ha : SE K mg W ta da) : SE K mg W ta (fun ρ h => (da ρ h).bind fun x h1 => freezeD x h1) := by
  intro ρ h S ι σ H Q r re hp
  refine ha ρ h S ι σ H _ r re (hp.bind.imp fun x h1 S1 ι1 H1 r1 ex1 p1 v rv => ?_)
  cases x with
  | ref n =>
    cases rv with
    | @ref _ a en =>
      replace p1 : PostG K mg W S1 ι1 H1 σ (KQ K Q) (match h1[n]? with | some (Cell.lst xs) => if D.pures xs = true then R.ok (.lst xs) (h1.set n .dead) else R.stuck | some (Cell.obj k fs) => if D.pures (fs.map (·.2)) = true then R.ok (.ob k (fs.map (·.1)) (fs.map (·.2))) (h1.set n .dead) else R.stuck | _ => R.stuck) := p1
      cases q : h1[n]? with
      | none => rw [q] at p1; exact False.elim p1
      | some c =>
        rw [q] at p1
        cases c with
        | dead => exact False.elim p1
        | obj kc fs =>
          obtain ⟨hs, dx, vs, h2, h3⟩ := r1.cell n a _ en q
          obtain ⟨hr, ex⟩ := r1.frozen en q h2 hs
          obtain ⟨q1, q2⟩ := paired_split h3
          dsimp only at p1
          split at p1
          · exact p1 _ _ _ hr ex _ (.ob upd_same q1.symm (q2.ext ex))
          · exact False.elim p1
        | dct _ _ => exact False.elim p1
        | lst xs =>
          obtain ⟨hs, vs, h2, h3⟩ := r1.cell n a _ en q
          obtain ⟨hr, ex⟩ := r1.frozen en q h2 hs
          dsimp only at p1
          split at p1
          · exact p1 _ _ _ hr ex _ (.lst upd_same (h3.ext ex))
          · exact False.elim p1
  | _ =>
    unfold freezeD at p1
    dsimp only at p1
    split at p1
    · exact p1 S1 ι1 H1 r1 Ext.refl v rv
    · exact False.elim p1
theorem se_dnew (t : Bool) : SE K mg W (if t = true then tDNewT else tDNewK) (fun _ h => .ok (.ref h.length) (h ++ [.dct t []])) := by
  intro ρ h S ι σ H Q r re hp
  cases t with
  | true =>
    intro p hn
    refine hp _ _ _ (r.cellNew hn ?_) (Ext.cellNew hn) _ (.ref ?_)
    · exact ⟨Hp.snone r hn, [], upd_same, .nil⟩
    · rw [← r.len]; simp
  | false =>
    intro p hn
    refine hp _ _ _ (r.cellNew hn ?_) (Ext.cellNew hn) _ (.ref ?_)
    · exact ⟨Hp.snone r hn, [], upd_same, .nil⟩
    · rw [← r.len]; simp
theorem se_call {n : Nat} {f : Nat} (hl : SA K mg W tl dl) (hst : ∀ ds h, ds.length ≠ n → c.Γ f ds h = .stuck) : SE K mg W (tCallS (spF K mg n (c.Γ f)) (fun σ cls d H => W cls d σ H) tl) (fun ρ h => (dl ρ h).bind fun ds h1 => c.Γ f ds h1) := by
  intro ρ h S ι σ H Q r re hp
  refine hl ρ h S ι σ H _ r re (hp.bind.imp fun ds h1 S1 ι1 H1 r1 ex1 p1 vs rs => ?_)
  have hlen : vs.length = n := by
    rw [← rs.length]
    by_cases k : ds.length = n
    · exact k
    · rw [hst ds h1 k] at p1; exact False.elim p1
  refine ⟨S1, ι1, h1, ds, hlen, r1, rs, ?_⟩
  cases e : c.Γ f ds h1 with
  | ok d h2 => rw [e] at p1; exact fun v S' ι' H' hr ex rv => p1 S' ι' H' hr ex v rv
  | exc x p h2 => rw [e] at p1; exact fun cls dd S' ι' H' hr ex xo => p1 cls dd S' ι' H' hr ex xo
  | stuck => rw [e] at p1; exact p1
/-! tests -/
theorem st_tru (ha : SE K mg W ta da) : ST K mg W (fun σ H Q => ta σ H fun x H' => ∃ k, TruV K x H' k ∧ Q k H') (fun ρ h => (da ρ h).bind fun x h1 => match truD h1 x with | some k => .ok k h1 | none => .stuck) := by
  intro ρ h S ι σ H Q r re hp
  refine ha ρ h S ι σ H _ r re (hp.bind.imp fun x h1 S1 ι1 H1 r1 ex1 p1 v rv => ?_)
  cases e : truD h1 x with
  | none => rw [e] at p1; exact False.elim p1
  | some k => rw [e] at p1; exact ⟨k, tru_sound r1 rv e, p1 S1 ι1 H1 r1 Ext.refl⟩
theorem st_stuck {t : TT} : ST K mg W t (fun _ _ => .stuck) := fun ρ h S ι σ H Q r re hp => hp.elim
theorem st_and {ta tb : TT} {da db : Env → Hs → R Bool} (ha : ST K mg W ta da) (hb : ST K mg W tb db) : ST K mg W (tAnd ta tb) (fun ρ h => (da ρ h).bind fun k h1 => if k = true then db ρ h1 else .ok false h1) := by
  intro ρ h S ι σ H Q r re hp
  refine ha ρ h S ι σ H _ r re (hp.bind.imp fun k h1 S1 ι1 H1 r1 ex1 p1 => ?_)
  cases k with
  | true => rw [if_pos rfl] at p1 ⊢; exact hb ρ h1 S1 ι1 σ H1 Q r1 (re.ext ex1) p1
  | false => rw [if_neg Bool.false_ne_true] at p1 ⊢; exact p1 S1 ι1 H1 r1 Ext.refl
theorem st_or {ta tb : TT} {da db : Env → Hs → R Bool} (ha : ST K mg W ta da) (hb : ST K mg W tb db) : ST K mg W (tOr ta tb) (fun ρ h => (da ρ h).bind fun k h1 => if k = true then .ok true h1 else db ρ h1) := by
  intro ρ h S ι σ H Q r re hp
  refine ha ρ h S ι σ H _ r re (hp.bind.imp fun k h1 S1 ι1 H1 r1 ex1 p1 => ?_)
  cases k with
  | true => rw [if_pos rfl] at p1 ⊢; exact p1 S1 ι1 H1 r1 Ext.refl
  | false => rw [if_neg Bool.false_ne_true] at p1 ⊢; exact hb ρ h1 S1 ι1 σ H1 Q r1 (re.ext ex1) p1
theorem st_not {ta : TT} {da : Env → Hs → R Bool} (ha : ST K mg W ta da) : ST K mg W (tNot ta) (fun ρ h => (da ρ h).bind fun k h1 => .ok (!k) h1) := by
  intro ρ h S ι σ H Q r re hp
  exact ha ρ h S ι σ H _ r re (hp.bind.imp fun k h1 S1 ι1 H1 r1 ex1 p1 => p1 S1 ι1 H1 r1 Ext.refl)
theorem st_yes : ST K mg W tYes (fun _ h => .ok true h) := fun ρ h S ι σ H Q r re hp => hp S ι H r Ext.refl
/-- a comparison as a test: its value is a bool -/
theorem st_test (ha : SE K mg W ta da) (hb : ∀ ρ h x h1, da ρ h = .ok x h1 → ∃ b, x = .bl b) : ST K mg W (tTest ta) (fun ρ h => (da ρ h).bind fun x h1 => match truD h1 x with | some k => .ok k h1 | none => .stuck) := by
  intro ρ h S ι σ H Q r re hp
  refine ha ρ h S ι σ H _ r re ?_
  replace hp : PostG K mg W S ι H σ _ ((da ρ h).bind _) := hp
  cases e : da ρ h with
  | ok x h1 =>
    rw [e] at hp
    obtain ⟨b, rfl⟩ := hb ρ h x h1 e
    intro S1 ι1 H1 r1 ex1 v rv
    cases rv
    exact ⟨b, rfl, hp S1 ι1 H1 r1 ex1⟩
  | exc c p h1 => rw [e] at hp; exact hp
  | stuck => rw [e] at hp; exact hp

/-! ### methods of lists -/
def rMeth (K : PySem.W.Frag) : Mt → V → List V → Hp → VK → Prop
  | .append => rAppend
  | .pop => rPop
  | .popAt => rPopAt
  | .index => rIndex K
  | .insert => fun x vs H Q => ∃ (l : Addr) (xs : List V) (i : Int) (y : V), x = .ref l ∧ vs = [.int i, y] ∧ H l = some (.lst xs) ∧ xs.length < sizeLine ∧ 0 ≤ i ∧ i < 2 ^ 63 ∧
    Q .non (upd H l (.lst (xs.take i.toNat ++ [y] ++ xs.drop i.toNat)))
  | .tindex => EnF.rTIndex K
theorem RVs.dropLast {S : Hp} {ι : List Addr} : ∀ {xs : List D} {us : List V}, RVs K S ι xs us → RVs K S ι xs.dropLast us.dropLast := fun {xs us} r => by
  rw [List.dropLast_eq_take, List.dropLast_eq_take, r.length]
  exact r.take _
theorem RVs.eraseIdx {S : Hp} {ι : List Addr} : ∀ {xs : List D} {us : List V} (i : Nat), RVs K S ι xs us → RVs K S ι (xs.eraseIdx i) (us.eraseIdx i)
  | _, _, _, .nil => .nil
  | _, _, 0, .cons _ t => t
  | _, _, i + 1, .cons q t => .cons q (RVs.eraseIdx i t)
theorem idxOf_at {y : D} : ∀ {xs : List D} {n j : Nat}, idxOf y xs n = some j → ∃ k z, j = n + k ∧ xs[k]? = some z ∧ flatEq z y = true ∧ ∀ (m : Nat) (z' : D), m < k → xs[m]? = some z' → flatEq z' y = false
  | [], _, _, e => by cases e
  | x :: xs, n, j, e => by
    unfold idxOf at e
    cases q : flatEq x y with
    | true =>
      rw [q] at e
      cases e
      exact ⟨0, x, rfl, rfl, q, fun m z' h => by omega⟩
    | false =>
      rw [q] at e
      obtain ⟨k, z, e1, e2, e3, e4⟩ := idxOf_at (show idxOf y xs (n + 1) = some j from e)
      refine ⟨k + 1, z, by omega, by simpa using e2, e3, fun m z' hm hz => ?_⟩
      cases m with
      | zero => simp at hz; subst hz; exact q
      | succ m => exact e4 m z' (by omega) (by simpa using hz)
theorem lst_at {S : Hp} {ι : List Addr} {h : Hs} {H : Hp} (r : HRel K S ι h H) {n : Nat} {v : V} (rv : RV K S ι (.ref n) v) {xs : List D} (q : h[n]? = some (.lst xs)) :
    ∃ a vs, v = .ref a ∧ ι[n]? = some a ∧ S a = none ∧ H a = some (.lst vs) ∧ RVs K S ι xs vs := by
  cases rv with
  | @ref _ a en =>
    obtain ⟨h1, vs, h2, h3⟩ := r.cell n a _ en q
    exact ⟨a, vs, rfl, en, h1, h2, h3⟩
theorem write_post {S : Hp} {ι : List Addr} {h : Hs} {H : Hp} {σ : L2.St} {Q : VK} (r : HRel K S ι h H) {n : Nat} {a : Addr} (en : ι[n]? = some a) (hs : S a = none) {xs : List D} {vs : List V} (rs : RVs K S ι xs vs) {d : D} {v : V} (rv : RV K S ι d v)
    (hp : PostG K mg W S ι H σ (KQ K Q) (.ok d (h.set n (.lst xs)))) : Q v (upd H a (.lst vs)) :=
  hp S ι _ (r.write en hs ⟨hs, vs, upd_same, rs⟩) (Ext.write en) v rv
theorem meth_sound {m : Mt} {S : Hp} {ι : List Addr} {h : Hs} {H : Hp} {σ : L2.St} {Q : VK} (r : HRel K S ι h H) {x : D} {v : V} (rv : RV K S ι x v) {ds : List D} {vs : List V} (rs : RVs K S ι ds vs)
    (hp : PostG K mg W S ι H σ (KQ K Q) (methD m x ds h)) : rMeth K m v vs H Q := by
  unfold methD at hp
  split at hp
  · obtain ⟨u, rfl, ru⟩ := rs.one
    split at hp
    · split at hp
      · rename_i xs q
        split at hp
        · rename_i hl
          obtain ⟨a, ws, rfl, en, hs, h2, h3⟩ := lst_at r rv q
          exact ⟨a, ws, u, rfl, rfl, h2, by rw [← h3.length]; exact Nat.lt_of_lt_of_le hl LN_le, write_post r en hs (h3.append (.cons ru .nil)) .non hp⟩
        · exact False.elim hp
      · exact False.elim hp
    · exact False.elim hp
  · cases rs
    split at hp
    · split at hp
      · rename_i xs q
        split at hp
        · rename_i y e1
          obtain ⟨a, ws, rfl, en, hs, h2, h3⟩ := lst_at r rv q
          obtain ⟨u, eu, ru⟩ := h3.get e1
          rw [h3.length] at eu
          exact ⟨a, ws, u, rfl, rfl, h2, eu, write_post r en hs h3.dropLast ru hp⟩
        · exact False.elim hp
      · exact False.elim hp
    · exact False.elim hp
  · obtain ⟨u, rfl, ru⟩ := rs.one
    cases ru
    split at hp
    · split at hp
      · rename_i i _ n _ xs q
        split at hp
        · rename_i hi
          split at hp
          · rename_i y e1
            obtain ⟨a, ws, rfl, en, hs, h2, h3⟩ := lst_at r rv q
            obtain ⟨u, eu, ru⟩ := h3.get e1
            have hlw : i < (ws.length : Int) := by rw [← h3.length]; exact hi.2.1
            have h9 := hi.2.2
            unfold LN at h9
            exact ⟨a, ws, i, i.toNat, u, rfl, rfl, h2, by omega, by omega, seqIndex_of hi.1 hlw, eu, write_post r en hs (h3.eraseIdx _) ru hp⟩
          · exact False.elim hp
        · exact False.elim hp
      · exact False.elim hp
    · exact False.elim hp
  · obtain ⟨u, rfl, ru⟩ := rs.one
    split at hp
    · rename_i xs e1
      split at hp
      · rename_i hf
        rw [Bool.and_eq_true] at hf
        split at hp
        · rename_i j e2
          obtain ⟨a, ws, rfl, r1, hl, ht⟩ := seq_ok r rv e1
          obtain ⟨k, z, rfl, e3, e4, e5⟩ := idxOf_at e2
          obtain ⟨w, ew, rw'⟩ := r1.get e3
          have fz : z.flat = true := List.all_eq_true.mp hf.2 z (List.mem_of_getElem? e3)
          refine ⟨a, ws, u, k, w, rfl, rfl, hl rfl, flat_ok ru hf.1, flats_ok r1 hf.2, ew, by rw [← flat_eq ru rw' hf.1 fz]; exact e4, fun m z' hm hz => ?_, ?_⟩
          · have hlen : m < xs.length := by rw [r1.length]; exact (List.getElem?_eq_some_iff.mp hz).1
            have ex : xs[m]? = some xs[m] := List.getElem?_eq_getElem hlen
            obtain ⟨w2, e6, r6⟩ := r1.get ex
            rw [hz] at e6
            cases e6
            have fm : xs[m].flat = true := List.all_eq_true.mp hf.2 _ (List.mem_of_getElem? ex)
            rw [← flat_eq ru r6 hf.1 fm]
            exact e5 m _ hm ex
          · have := flat_post r (.int _) hp
            simpa using this
        · exact False.elim hp
      · exact False.elim hp
    · exact False.elim hp
  · obtain ⟨u, w, rfl, ru, rw'⟩ := rs.two
    cases ru
    split at hp
    · split at hp
      · rename_i xs q
        split at hp
        · rename_i hi
          obtain ⟨a, ws, rfl, en, hs, h2, h3⟩ := lst_at r rv q
          have hl := h3.length
          have h9 := hi.2.2
          unfold LN at h9
          refine ⟨a, ws, _, w, rfl, rfl, h2, by rw [← hl]; exact Nat.lt_of_lt_of_le hi.2.2 LN_le, hi.1, by omega, ?_⟩
          rw [List.append_assoc]
          exact write_post r en hs ((h3.take _).append (.cons rw' (h3.drop _))) .non hp
        · exact False.elim hp
      · exact False.elim hp
    · exact False.elim hp
  · obtain ⟨u, rfl, ru⟩ := rs.one
    split at hp
    · rename_i xs
      split at hp
      · rename_i hf
        rw [Bool.and_eq_true] at hf
        split at hp
        · rename_i j e2
          have e1 : seqOf h (.vt xs) = some (xs, false) := rfl
          obtain ⟨a, ws, rfl, r1, hl, ht⟩ := seq_ok r rv e1
          obtain ⟨k, z, rfl, e3, e4, e5⟩ := idxOf_at e2
          obtain ⟨w, ew, rw'⟩ := r1.get e3
          have fz : z.flat = true := List.all_eq_true.mp hf.2 z (List.mem_of_getElem? e3)
          refine ⟨a, ws, u, k, w, rfl, rfl, ht rfl, flat_ok ru hf.1, flats_ok r1 hf.2, ew, by rw [← flat_eq ru rw' hf.1 fz]; exact e4, fun m z' hm hz => ?_, ?_⟩
          · have hlen : m < xs.length := by rw [r1.length]; exact (List.getElem?_eq_some_iff.mp hz).1
            have ex : xs[m]? = some xs[m] := List.getElem?_eq_getElem hlen
            obtain ⟨w2, e6, r6⟩ := r1.get ex
            rw [hz] at e6
            cases e6
            have fm : xs[m].flat = true := List.all_eq_true.mp hf.2 _ (List.mem_of_getElem? ex)
            rw [← flat_eq ru r6 hf.1 fm]
            exact e5 m _ hm ex
          · have := flat_post r (.int _) hp
            simpa using this
        · exact False.elim hp
      · exact False.elim hp
    · exact False.elim hp
  · exact False.elim hp
theorem recv_l {m : Mt} (hm : m.onL = true) {h : Hs} {x : D} (e : m.recv h x = true) : ∃ xs, seqOf h x = some (xs, true) := by
  have e : (match seqOf h x with | some (_, true) => true | _ => false) = true := by
    cases m <;> first | exact e | cases hm
  split at e
  · rename_i xs e1; exact ⟨xs, e1⟩
  · cases e
theorem se_meth (m : Mt) (hm : m.onL = true) (ha : SE K mg W ta da) (hl : SA K mg W tl dl) : SE K mg W (tBM K "list" (rMeth K m) ta tl) (fun ρ h => (da ρ h).bind fun x h1 => if m.recv h1 x = true then (dl ρ h1).bind fun ds h2 => methD m x ds h2 else .stuck) := by
  intro ρ h S ι σ H Q r re hp
  refine ha ρ h S ι σ H _ r re (hp.bind.imp fun x h1 S1 ι1 H1 r1 ex1 p1 v rv => ?_)
  split at p1
  · rename_i hk
    obtain ⟨xs, e1⟩ := recv_l hm hk
    obtain ⟨a, vs, rfl, r2, hl', ht⟩ := seq_ok r1 rv e1
    refine ⟨.inl ⟨rfl, vs, hl' rfl⟩, ?_⟩
    exact hl ρ h1 S1 ι1 σ H1 _ r1 (re.ext ex1) (PostG.imp (PostG.bind p1) fun ds h2 S2 ι2 H2 r2 ex2 p2 us rs => meth_sound r2 (rv.ext ex2) rs p2)
  · exact False.elim p1
theorem se_methT (ha : SE K mg W ta da) (hl : SA K mg W tl dl) : SE K mg W (EnF.tTIndex K ta tl) (fun ρ h => (da ρ h).bind fun x h1 => if Mt.recv .tindex h1 x = true then (dl ρ h1).bind fun ds h2 => methD .tindex x ds h2 else .stuck) := by
  intro ρ h S ι σ H Q r re hp
  refine ha ρ h S ι σ H _ r re (hp.bind.imp fun x h1 S1 ι1 H1 r1 ex1 p1 v rv => ?_)
  split at p1
  · rename_i hk
    cases x with
    | vt ys =>
      cases rv with
      | vt e2 e3 rr =>
        refine ⟨⟨_, _, _, rfl, r1.sub _ _ e2, e3⟩, ?_⟩
        exact hl ρ h1 S1 ι1 σ H1 _ r1 (re.ext ex1) (PostG.imp (PostG.bind p1) fun ds h2 S2 ι2 H2 r2 ex2 p2 us rs => meth_sound (m := .tindex) r2 (RV.ext (.vt e2 e3 rr) ex2) rs p2)
    | _ => cases hk
  · exact False.elim p1
theorem se_meth0 (m : Mt) (hm : m.onL = true) (ha : SE K mg W ta da) : SE K mg W (tBM0 K "list" (rMeth K m) ta) (fun ρ h => (da ρ h).bind fun x h1 => if m.recv h1 x = true then (R.ok [] h1 : R (List D)).bind fun ds h2 => methD m x ds h2 else .stuck) := by
  intro ρ h S ι σ H Q r re hp
  refine ha ρ h S ι σ H _ r re (hp.bind.imp fun x h1 S1 ι1 H1 r1 ex1 p1 v rv => ?_)
  split at p1
  · rename_i hk
    obtain ⟨xs, e1⟩ := recv_l hm hk
    obtain ⟨a, vs, rfl, r2, hl', ht⟩ := seq_ok r1 rv e1
    exact ⟨.inl ⟨rfl, vs, hl' rfl⟩, meth_sound r1 rv .nil p1⟩
  · exact False.elim p1
theorem se_ctup (hl : SA K mg W tl dl) : SE K mg W (EnF.tCTup tl) (fun ρ h => (dl ρ h).bind fun ds h1 => if ds.length ≤ LN then .ok (.vt ds) h1 else .stuck) := by
  intro ρ h S ι σ H Q r re hp
  refine hl ρ h S ι σ H _ r re (hp.bind.imp fun ds h1 S1 ι1 H1 r1 ex1 p1 vs rs => ?_)
  by_cases z : ds.length ≤ LN
  · rw [if_pos z] at p1
    refine ⟨by rw [← rs.length]; exact line_of z, fun p ob hn ho => ?_⟩
    have ex := Ext.fz (o := .frz ob (.tup vs)) r1 hn
    exact p1 _ _ _ (r1.fz hn) ex _ (.vt upd_same ho (rs.ext ex))
  · rw [if_neg z] at p1; exact False.elim p1
/-! ### frozen, cells within cells -/
mutual
theorem fzD_ok : ∀ (k : Nat) {d : D} {v : V} {h h' : Hs} {d' : D} {S : Hp} {ι : List Addr} {H : Hp}, HRel K S ι h H → RV K S ι d v → fzD k d h = some (d', h') → ∃ S', HRel K S' ι h' H ∧ Ext S ι H S' ι H ∧ RV K S' ι d' v
  | 0, _, _, _, _, _, _, _, _, _, _, e => by unfold fzD at e; cases e
  | k + 1, d, v, h, h', d', S, ι, H, r, rv, e => by
    unfold fzD at e
    split at e
    · cases e; exact ⟨S, r, Ext.refl, rv⟩
    · cases d with
      | ref n =>
        cases rv with
        | @ref _ a en =>
          dsimp only at e
          cases q : h[n]? with
          | none => rw [q] at e; cases e
          | some c =>
            rw [q] at e
            cases c with
            | lst xs =>
              dsimp only at e
              obtain ⟨h1, vs, h2, h3⟩ := r.cell n a _ en q
              cases q2 : fzL k xs h with
              | none => rw [q2] at e; cases e
              | some z =>
                obtain ⟨ys, hh⟩ := z
                rw [q2] at e
                dsimp only at e
                obtain ⟨S1, r1, ex1, rs⟩ := fzL_ok k r h3 q2
                cases q3 : hh[n]? with
                | none => rw [q3] at e; cases e
                | some c2 =>
                  rw [q3] at e
                  cases c2 with
                  | lst zs =>
                    cases e
                    obtain ⟨h4, _, _, _⟩ := r1.cell n a _ en q3
                    obtain ⟨r2, ex2⟩ := r1.frozen en q3 h2 h4
                    exact ⟨_, r2, ex1.trans ex2, .lst upd_same (rs.ext ex2)⟩
                  | _ => cases e
            | _ => cases e
      | tup xs =>
        cases rv with
        | tup e1 r1 =>
          dsimp only at e
          cases q2 : fzL k xs h with
          | none => rw [q2] at e; cases e
          | some z =>
            obtain ⟨ys, hh⟩ := z
            rw [q2] at e; cases e
            obtain ⟨S1, r2, ex1, rs⟩ := fzL_ok k r r1 q2
            exact ⟨S1, r2, ex1, .tup (ex1.sub _ _ e1) rs⟩
      | lst xs =>
        cases rv with
        | lst e1 r1 =>
          dsimp only at e
          cases q2 : fzL k xs h with
          | none => rw [q2] at e; cases e
          | some z =>
            obtain ⟨ys, hh⟩ := z
            rw [q2] at e; cases e
            obtain ⟨S1, r2, ex1, rs⟩ := fzL_ok k r r1 q2
            exact ⟨S1, r2, ex1, .lst (ex1.sub _ _ e1) rs⟩
      | _ => cases e
theorem fzL_ok : ∀ (k : Nat) {ds : List D} {vs : List V} {h h' : Hs} {ds' : List D} {S : Hp} {ι : List Addr} {H : Hp}, HRel K S ι h H → RVs K S ι ds vs → fzL k ds h = some (ds', h') → ∃ S', HRel K S' ι h' H ∧ Ext S ι H S' ι H ∧ RVs K S' ι ds' vs
  | k, [], _, h, h', ds', S, ι, H, r, .nil, e => by
    unfold fzL at e
    cases e
    exact ⟨S, r, Ext.refl, .nil⟩
  | k, d :: ds, _, h, h', ds', S, ι, H, r, .cons rv rs, e => by
    unfold fzL at e
    cases q : fzD k d h with
    | none => rw [q] at e; cases e
    | some z =>
      obtain ⟨y, h1⟩ := z
      rw [q] at e
      dsimp only at e
      obtain ⟨S1, r1, ex1, ry⟩ := fzD_ok k r rv q
      cases q2 : fzL k ds h1 with
      | none => rw [q2] at e; cases e
      | some z2 =>
        obtain ⟨ys, h2⟩ := z2
        rw [q2] at e; cases e
        obtain ⟨S2, r2, ex2, rys⟩ := fzL_ok k r1 (rs.ext ex1) q2
        exact ⟨S2, r2, ex1.trans ex2, .cons (ry.ext ex2) rys⟩
end
theorem se_fzd (ha : SE K mg W ta da) : SE K mg W ta (fun ρ h => (da ρ h).bind fun x h1 => fzR x h1) := by
  intro ρ h S ι σ H Q r re hp
  refine ha ρ h S ι σ H _ r re (hp.bind.imp fun x h1 S1 ι1 H1 r1 ex1 p1 v rv => ?_)
  unfold fzR at p1
  cases e : fzD DEEPF x h1 with
  | none => rw [e] at p1; exact False.elim p1
  | some z =>
    obtain ⟨y, h2⟩ := z
    rw [e] at p1
    obtain ⟨S2, r2, ex2, ry⟩ := fzD_ok DEEPF r1 rv e
    exact p1 S2 ι1 H1 r2 ex2 _ ry
theorem ss_fz (i : Nat) {t : TS} {du : Env → Hs → Out} (h2 : SS K mg W t du) : SS K mg W t (fun ρ h => (match ρ[i]? with
    | some (some d) => (match fzD DEEPF d h with
      | some (d', h') => Out.nx (ρ.set i (some d')) h'
      | none => .stuck)
    | _ => .nx ρ h).andThen du) := by
  intro ρ h S ι σ H D' r re hp
  dsimp only at hp
  cases q : ρ[i]? with
  | none =>
    rw [q] at hp
    exact h2 ρ h S ι σ H D' r re hp
  | some o =>
    rw [q] at hp
    cases o with
    | none => exact h2 ρ h S ι σ H D' r re hp
    | some d =>
      dsimp only at hp
      cases e : fzD DEEPF d h with
      | none => rw [e] at hp; exact False.elim hp
      | some z =>
        obtain ⟨y, h1⟩ := z
        rw [e] at hp
        obtain ⟨v, ev, rv⟩ := re.2 i d q
        obtain ⟨S2, r2, ex2, ry⟩ := fzD_ok DEEPF r rv e
        refine h2 (ρ.set i (some y)) h1 S2 ι σ H D' r2 ⟨by rw [List.length_set]; exact re.1, fun j dj ej => ?_⟩ (Post.ext hp ex2)
        by_cases k : i = j
        · subst k
          have hl : i < ρ.length := (List.getElem?_eq_some_iff.mp q).1
          rw [List.getElem?_set_self hl] at ej
          cases ej
          exact ⟨v, ev, ry⟩
        · rw [List.getElem?_set_ne k] at ej
          obtain ⟨u, e1, ru⟩ := re.2 j dj ej
          exact ⟨u, e1, ru.ext ex2⟩
/-! ### displays with stars -/
theorem sa_star (ha : SE K mg W ta da) (hl : SA K mg W tl dl) : SA K mg W (StX.tStar K ta tl) (fun ρ h => (da ρ h).bind fun x h1 => match seqOf h1 x with
    | some (ys, _) => (dl ρ h1).bind fun xs h2 => .ok (ys ++ xs) h2
    | none => .stuck) := by
  intro ρ h S ι σ H Q r re hp
  refine ha ρ h S ι σ H _ r re (hp.bind.imp fun x h1 S1 ι1 H1 r1 ex1 p1 v rv => ?_)
  split at p1
  · rename_i ys k e1
    obtain ⟨a, ws, rfl, rs1, h2, h3⟩ := seq_ok r1 rv e1
    refine ⟨a, ws, rfl, ?_, ?_⟩
    · cases k with
      | true => exact .inr (h2 rfl)
      | false => exact .inl (h3 rfl)
    · refine hl ρ h1 S1 ι1 σ H1 _ r1 (re.ext ex1) (PostG.imp (PostG.bind p1) fun xs h2 S2 ι2 H2 r2 ex2 p2 vs rs => ?_)
      exact p2 S2 ι2 H2 r2 Ext.refl (ws ++ vs) ((rs1.ext ex2).append rs)
  · exact False.elim p1
end
end Ev
set_option maxHeartbeats 1000000
/-! Ev, part Ia: instances, their attributes and methods; locals that hold defs; dicts displayed and asked; lists in cells walked. -/
namespace Ev
open PySem PySem.Spec PyProof.Rows L2
section
variable {K : PySem.W.Frag} {S S' : Hp} {ι ι' : List Addr} {H H' : Hp} {h h' : Hs} {mg : Str → Option Value} {W : WX} {Q : VK} {c : Cfg} {ta tb : TE} {da db : Env → Hs → R D} {tl : TA} {dl : Env → Hs → R (List D)}
theorem Ext.plus {p : Addr} {o : HO} (hp : H p = none) : Ext S ι H S ι (upd H p o) := by
  refine ⟨fun _ _ e => e, fun _ _ e => e, fun a q e _ => by rw [upd_ne (ne_of_none e hp)]; exact e, fun _ m => .inl m, fun _ e => .inl e, fun a m e => ?_⟩
  by_cases k : a = p
  · subst k; rw [upd_same]; exact fun z => nomatch z
  · rw [upd_ne k]; exact e
abbrev PF (K : PySem.W.Frag) (S : Hp) (ι : List Addr) : List (Str × D) → List (Str × V) → Prop := Paired fun (p : Str × D) (q : Str × V) => p.1 = q.1 ∧ RV K S ι p.2 q.2
theorem pf_zip : ∀ {ns : List Str} {ds : List D} {vs : List (Str × V)}, vs.map (·.1) = ns → RVs K S ι ds (vs.map (·.2)) → PF K S ι (ns.zip ds) vs
  | _, ds, [], e, r => by
    subst e
    cases r
    exact .nil
  | _, ds, q :: vs, e, r => by
    subst e
    rw [List.map_cons] at r
    cases r with
    | cons r1 rs =>
      rw [List.map_cons, List.zip_cons_cons]
      exact .cons ⟨rfl, r1⟩ (pf_zip rfl rs)
theorem pf_some {f : Str} {d : D} : ∀ {fs : List (Str × D)} {vs : List (Str × V)}, PF K S ι fs vs → fs.lookup f = some d → ∃ v, vs.lookup f = some v ∧ RV K S ι d v
  | _, _, .nil, e => nomatch e
  | (g, x) :: fs, (g', y) :: vs, .cons z t, e => by
    obtain ⟨z1, z2⟩ := z
    have z1 : g = g' := z1
    subst z1
    rw [List.lookup_cons] at e ⊢
    cases q : (f == g) with
    | true => rw [q] at e; cases e; exact ⟨y, rfl, z2⟩
    | false => rw [q] at e; exact pf_some t e
theorem pf_none {f : Str} : ∀ {fs : List (Str × D)} {vs : List (Str × V)}, PF K S ι fs vs → fs.lookup f = none → vs.lookup f = none
  | _, _, .nil, e => rfl
  | (g, x) :: fs, (g', y) :: vs, .cons z t, e => by
    obtain ⟨z1, z2⟩ := z
    have z1 : g = g' := z1
    subst z1
    rw [List.lookup_cons] at e ⊢
    cases q : (f == g) with
    | true => rw [q] at e; cases e
    | false => rw [q] at e; exact pf_none t e
theorem pf_len : ∀ {fs : List (Str × D)} {vs : List (Str × V)}, PF K S ι fs vs → fs.length = vs.length
  | _, _, .nil => rfl
  | _ :: _, _ :: _, .cons _ t => congrArg Nat.succ (pf_len t)
theorem ins_at (r : HRel K S ι h H) {d : D} {v : V} (rv : RV K S ι d v) {k : Str} {fs : List (Str × D)} (e : insOf h d = some (k, fs)) : ∃ a dx vs, v = .ref a ∧ H a = some (.ins (He.ga K k) dx vs) ∧ PF K S ι fs vs := by
  cases rv with
  | @ob cn a dx vs ns ds e1 e2 rs => cases e; exact ⟨a, dx, vs, rfl, r.sub _ _ e1, pf_zip e2 rs⟩
  | @ref n a en =>
    replace e : (match h[n]? with | some (Cell.obj k fs) => some (k, fs) | _ => none) = some (k, fs) := e
    cases q : h[n]? with
    | none => rw [q] at e; cases e
    | some cc =>
      rw [q] at e
      cases cc with
      | obj k' fs' =>
        cases e
        obtain ⟨_, dx, vs, h2, h3⟩ := r.cell n a _ en q
        exact ⟨a, dx, vs, rfl, h2, h3⟩
      | dead => cases e
      | lst _ => cases e
      | dct _ _ => cases e
  | _ => cases e
theorem se_attr {k f : Str} (hc : Cls K (He.ga K k)) (hn : NoAttr K (He.ga K k) f) (ha : SE K mg W ta da) : SE K mg W (tFld K ta f) (fun ρ h => (da ρ h).bind fun x h1 => attrD k f x h1) := by
  intro ρ h S ι σ H Q r re hp
  refine ha ρ h S ι σ H _ r re (hp.bind.imp fun x h1 S1 ι1 H1 r1 ex1 p1 v rv => ?_)
  unfold attrD at p1
  split at p1
  · rename_i k' fs e
    split at p1
    · rename_i ek
      subst ek
      split at p1
      · rename_i d el
        obtain ⟨a, dx, vs, rfl, h2, pf⟩ := ins_at r1 rv e
        obtain ⟨y, ey, ry⟩ := pf_some pf el
        exact ⟨a, _, dx, vs, y, rfl, h2, hc, hn, ey, p1 S1 ι1 H1 r1 Ext.refl y ry⟩
      · exact False.elim p1
    · exact False.elim p1
  · exact False.elim p1
theorem call_post {n i : Nat} {S : Hp} {ι : List Addr} {h : Hs} {H : Hp} {σ : L2.St} {Q : VK} {ds : List D} {vs : List V} (hst : ∀ ds h, ds.length ≠ n → c.Γ i ds h = .stuck) (r : HRel K S ι h H) (rs : RVs K S ι ds vs) (hp : PostG K mg W S ι H σ (KQ K Q) (c.Γ i ds h)) :
    spF K mg n (c.Γ i) vs H Q (fun cls d H => W cls d σ H) := by
  have hlen : vs.length = n := by
    rw [← rs.length]
    by_cases k : ds.length = n
    · exact k
    · rw [hst ds h k] at hp; exact False.elim hp
  refine ⟨S, ι, h, ds, hlen, r, rs, ?_⟩
  cases e : c.Γ i ds h with
  | ok d h2 => rw [e] at hp; exact fun v S' ι' H' hr ex rv => hp S' ι' H' hr ex v rv
  | exc x p h2 => rw [e] at hp; exact fun cls dd S' ι' H' hr ex xo => hp cls dd S' ι' H' hr ex xo
  | stuck => rw [e] at hp; exact hp
theorem se_mcall {n i : Nat} {k m : Str} (hst : ∀ ds h, ds.length ≠ n → c.Γ i ds h = .stuck) (ha : SE K mg W ta da) (hl : SA K mg W tl dl) :
    SE K mg W (tMethG (He.ga K k) m (spF K mg n (c.Γ i)) (fun σ cls d H => W cls d σ H) ta tl) (fun ρ h => (da ρ h).bind fun x h1 => if isMeth k m x h1 = true then (dl ρ h1).bind fun ds h2 => c.Γ i (x :: ds) h2 else .stuck) := by
  intro ρ h S ι σ H Q r re hp
  refine ha ρ h S ι σ H _ r re (hp.bind.imp fun x h1 S1 ι1 H1 r1 ex1 p1 v rv => ?_)
  split at p1
  · rename_i em
    unfold isMeth at em
    split at em
    · rename_i k' fs e
      rw [Bool.and_eq_true, decide_eq_true_eq] at em
      obtain ⟨rfl, en⟩ := em
      obtain ⟨a, dx, vs, rfl, h2, pf⟩ := ins_at r1 rv e
      refine ⟨a, dx, vs, rfl, h2, pf_none pf (by simpa using en), hl ρ h1 S1 ι1 σ H1 _ r1 (re.ext ex1) (p1.bind.imp fun ds h2 S2 ι2 H2 r2 ex2 p2 us rs => ?_)⟩
      exact call_post hst r2 (.cons (rv.ext ex2) rs) p2
    · cases em
  · exact False.elim p1
theorem se_make {n i : Nat} {k : Str} (hst : ∀ ds h, ds.length ≠ n → c.Γ i ds h = .stuck) (hl : SA K mg W tl dl) :
    SE K mg W (tMakeG (He.ga K k) (spF K mg n (c.Γ i)) (fun σ cls d H => W cls d σ H) tl) (fun ρ h => (dl ρ h).bind fun ds h1 => (c.Γ i (.ref h1.length :: ds) (h1 ++ [.obj k []])).bind fun r h2 => match r with
      | .non => .ok (.ref h1.length) h2
      | _ => .stuck) := by
  intro ρ h S ι σ H Q r re hp
  refine hl ρ h S ι σ H _ r re (hp.bind.imp fun ds h1 S1 ι1 H1 r1 ex1 p1 us rs => ?_)
  intro x dx nx ndx ne
  have rp := r1.plus (o := .own x) ndx
  have nx' : (upd H1 dx (.own x)) x = none := by rw [upd_ne (Ne.symm ne)]; exact nx
  have hsx : S1 x = none := Hp.snone r1 nx
  have r2 : HRel K S1 (ι1 ++ [x]) (h1 ++ [.obj k []]) (upd (upd H1 dx (.own x)) x (.ins (He.ga K k) dx [])) := rp.cellNew nx' ⟨hsx, dx, [], upd_same, .nil⟩
  have ex2 : Ext S1 ι1 H1 S1 (ι1 ++ [x]) (upd (upd H1 dx (.own x)) x (.ins (He.ga K k) dx [])) := (Ext.plus (o := .own x) ndx).trans (Ext.cellNew nx')
  have rx : RV K S1 (ι1 ++ [x]) (.ref h1.length) (.ref x) := .ref (by rw [← r1.len]; simp)
  refine call_post (W := W) (σ := σ) hst r2 (.cons rx (rs.up (fun _ _ e => e) pre_snoc)) ?_
  have p2 := (PostG.ext1 p1 ex2).bind
  refine p2.imp fun d h3 S3 ι3 H3 r3 ex3 p3 v rv => ?_
  cases d with
  | non =>
    cases rv
    exact ⟨rfl, p3 S3 ι3 H3 r3 Ext.refl _ (rx.ext ex3)⟩
  | _ => exact False.elim p3
theorem se_callV {n i j : Nat} {x : Str} (hst : ∀ ds h, ds.length ≠ n → c.Γ j ds h = .stuck) (hl : SA K mg W tl dl) {ρ : Env} {h : Hs} {S : Hp} {ι : List Addr} {σ : L2.St} {H : Hp} {Q : VK} (r : HRel K S ι h H) (re : ERel K S ι ρ σ) (ei : ρ[i]? = some (some (.fn x)))
    (hp : PostG K mg W S ι H σ (KQ K Q) ((dl ρ h).bind fun ds h1 => c.Γ j ds h1)) : tCallVG i (He.ga K x) (spF K mg n (c.Γ j)) (fun σ cls d H => W cls d σ H) tl σ H Q := by
  obtain ⟨v, ev, rv⟩ := re.2 i _ ei
  cases rv
  refine ⟨ev, hl ρ h S ι σ H _ r re (hp.bind.imp fun ds h1 S1 ι1 H1 r1 ex1 p1 us rs => ?_)⟩
  exact call_post hst r1 rs p1
theorem kit2 {a t u : String} {b b' : Bool} (h1 : PySem.W.kitOne K (.type a) (.type t) = some b) (h2 : PySem.W.kitOne K (.type a) (.type u) = some b') : PySem.W.kitAny K (.type a) [.type t, .type u] = some (b || b') := by
  refine kitAny_cons h1 (fun hb => ?_) (fun hb => by rw [hb]; rfl)
  rw [hb, Bool.false_or]
  exact kitAny_cons h2 (fun hb => by rw [hb]; exact kitAny_nil) (fun hb => hb)
theorem se_isin2 {t u : String} (ha : SE K mg W ta da) : SE K mg W (tCB (rIsiT K) (tCons ta (tCons (tTup (tCons (tC (.ty t)) (tCons (tC (.ty u)) tNil))) tNil))) (fun ρ h => (da ρ h).bind fun x h1 => match typeIs h1 x t, typeIs h1 x u with
    | some b, some b' => .ok (.bl (b || b')) h1
    | _, _ => .stuck) := by
  intro ρ h S ι σ H Q r re hp
  refine ha ρ h S ι σ H _ r re (hp.bind.imp fun x h1 S1 ι1 H1 r1 ex1 p1 v rv => ?_)
  split at p1
  · rename_i b b' e1 e2
    unfold typeIs at e1 e2
    cases ea : tyName h1 x with
    | none => rw [ea] at e1; cases e1
    | some a =>
      rw [ea] at e1 e2
      obtain ⟨k1, k2⟩ := ty_ok r1 rv ea
      refine ⟨by show 2 ≤ sizeLine; rw [sizeLine_eq]; decide, fun p hn => ?_⟩
      have rp := r1.plus (o := .tup [V.ty t, V.ty u]) hn
      obtain ⟨k1, _⟩ := ty_ok rp rv ea
      exact ⟨v, p, _, .type a, [.type t, .type u], b || b', rfl, upd_same, .cons (.ty t) (.cons (.ty u) .nil), k1, kit2 (kit_ty (isa_kit k2 e1)) (kit_ty (isa_kit k2 e2)), p1 S1 ι1 _ rp (Ext.plus hn) _ (.bl _)⟩
  · exact False.elim p1
end
end Ev
set_option maxHeartbeats 1000000
/-! Ev, part Ib: dicts displayed and asked; lists in cells walked; attributes stored. -/
namespace Ev
open PySem PySem.Spec PyProof.Rows L2
section
variable {K : PySem.W.Frag} {mg : Str → Option Value} {W : WX} {c : Cfg} {S S' : Hp} {ι ι' : List Addr} {h h' : Hs} {H H' : Hp} {Q : VK} {ta tb tc : TE} {da db dc : Env → Hs → R D}
theorem dput_k {kvs : List (DKey × D)} {kv : List (Key × V)} (r : Paired (fun (p : DKey × D) (q : Key × V) => p.1 = .inl q.1 ∧ RV K S ι p.2 q.2) kvs kv) (k : Key) {d : D} {v : V} (rv : RV K S ι d v) :
    Paired (fun (p : DKey × D) (q : Key × V) => p.1 = .inl q.1 ∧ RV K S ι p.2 q.2) (dput kvs (.inl k) d) (putK kv k v) := by
  have ha : (kvs.any fun p => decide (p.1 = .inl k)) = kv.any fun q => decide (q.1 = k) := by
    induction r with
    | nil => rfl
    | cons hpq _ ih => rw [List.any_cons, List.any_cons, ih, hpq.1]; congr 1; simp
  have hm : ∀ {kvs : List (DKey × D)} {kv : List (Key × V)}, Paired (fun (p : DKey × D) (q : Key × V) => p.1 = .inl q.1 ∧ RV K S ι p.2 q.2) kvs kv →
      Paired (fun (p : DKey × D) (q : Key × V) => p.1 = .inl q.1 ∧ RV K S ι p.2 q.2) (kvs.map fun p => if p.1 = .inl k then (p.1, d) else p) (kv.map fun q => if q.1 = k then (q.1, v) else q) := by
    intro kvs kv r
    induction r with
    | nil => exact .nil
    | @cons p q _ _ hpq _ ih =>
      rw [List.map_cons, List.map_cons]
      refine .cons ?_ ih
      by_cases e : q.1 = k
      · have e2 : p.1 = .inl k := by rw [hpq.1, e]
        rw [if_pos e, if_pos e2]
        exact ⟨hpq.1, rv⟩
      · have e2 : ¬ p.1 = .inl k := by rw [hpq.1]; exact fun z => e (Sum.inl.inj z)
        rw [if_neg e, if_neg e2]
        exact hpq
  have hs : ∀ {kvs : List (DKey × D)} {kv : List (Key × V)}, Paired (fun (p : DKey × D) (q : Key × V) => p.1 = .inl q.1 ∧ RV K S ι p.2 q.2) kvs kv →
      Paired (fun (p : DKey × D) (q : Key × V) => p.1 = .inl q.1 ∧ RV K S ι p.2 q.2) (kvs ++ [(.inl k, d)]) (kv ++ [(k, v)]) := by
    intro kvs kv r
    induction r with
    | nil => exact .cons ⟨rfl, rv⟩ .nil
    | cons hpq _ ih => exact .cons hpq ih
  unfold dput putK
  rw [ha]
  split
  · exact hm r
  · exact hs r
theorem dput_t {kvs : List (DKey × D)} {kv : List (List Key × V)} (r : Paired (fun (p : DKey × D) (q : List Key × V) => p.1 = .inr q.1 ∧ RV K S ι p.2 q.2) kvs kv) (k : List Key) {d : D} {v : V} (rv : RV K S ι d v) :
    Paired (fun (p : DKey × D) (q : List Key × V) => p.1 = .inr q.1 ∧ RV K S ι p.2 q.2) (dput kvs (.inr k) d) (putK kv k v) := by
  have ha : (kvs.any fun p => decide (p.1 = .inr k)) = kv.any fun q => decide (q.1 = k) := by
    induction r with
    | nil => rfl
    | cons hpq _ ih => rw [List.any_cons, List.any_cons, ih, hpq.1]; congr 1; simp
  have hm : ∀ {kvs : List (DKey × D)} {kv : List (List Key × V)}, Paired (fun (p : DKey × D) (q : List Key × V) => p.1 = .inr q.1 ∧ RV K S ι p.2 q.2) kvs kv →
      Paired (fun (p : DKey × D) (q : List Key × V) => p.1 = .inr q.1 ∧ RV K S ι p.2 q.2) (kvs.map fun p => if p.1 = .inr k then (p.1, d) else p) (kv.map fun q => if q.1 = k then (q.1, v) else q) := by
    intro kvs kv r
    induction r with
    | nil => exact .nil
    | @cons p q _ _ hpq _ ih =>
      rw [List.map_cons, List.map_cons]
      refine .cons ?_ ih
      by_cases e : q.1 = k
      · have e2 : p.1 = .inr k := by rw [hpq.1, e]
        rw [if_pos e, if_pos e2]
        exact ⟨hpq.1, rv⟩
      · have e2 : ¬ p.1 = .inr k := by rw [hpq.1]; exact fun z => e (Sum.inr.inj z)
        rw [if_neg e, if_neg e2]
        exact hpq
  have hs : ∀ {kvs : List (DKey × D)} {kv : List (List Key × V)}, Paired (fun (p : DKey × D) (q : List Key × V) => p.1 = .inr q.1 ∧ RV K S ι p.2 q.2) kvs kv →
      Paired (fun (p : DKey × D) (q : List Key × V) => p.1 = .inr q.1 ∧ RV K S ι p.2 q.2) (kvs ++ [(.inr k, d)]) (kv ++ [(k, v)]) := by
    intro kvs kv r
    induction r with
    | nil => exact .cons ⟨rfl, rv⟩ .nil
    | cons hpq _ ih => exact .cons hpq ih
  unfold dput putK
  rw [ha]
  split
  · exact hm r
  · exact hs r

theorem se_dget (ha : SE K mg W ta da) (hb : SE K mg W tb db) (hc : SE K mg W tc dc) : SE K mg W (tDGet2 ta tb tc) (fun ρ h => (da ρ h).bind fun x h1 => if (dctOf h1 x).isSome = true then (db ρ h1).bind fun y h2 => (dc ρ h2).bind fun z h3 => dgetD x y z h3 else .stuck) := by
  intro ρ h S ι σ H Q r re hp
  refine ha ρ h S ι σ H _ r re (hp.bind.imp fun x h1 S1 ι1 H1 r1 ex1 p1 v rv => ?_)
  split at p1
  · rename_i hd
    obtain ⟨⟨t, kvs⟩, ed⟩ := Option.isSome_iff_exists.mp hd
    have is : ∃ a, v = .ref a ∧ IsD H1 a := by
      cases rv with
      | @ref n a en =>
        replace ed : (match h1[n]? with | some (Cell.dct t kvs) => some (t, kvs) | _ => none) = some (t, kvs) := ed
        cases q : h1[n]? with
        | none => rw [q] at ed; cases ed
        | some cc =>
          rw [q] at ed
          cases cc with
          | dct t' kvs' =>
            cases ed
            have cl := r1.cell n a _ en q
            cases t with
            | false => obtain ⟨_, kv, h2, _⟩ := cl; exact ⟨a, rfl, .inl ⟨kv, .inl h2⟩⟩
            | true => obtain ⟨_, kv, h2, _⟩ := cl; exact ⟨a, rfl, .inr ⟨kv, .inl h2⟩⟩
          | dead => cases ed
          | lst _ => cases ed
          | obj _ _ => cases ed
      | _ => cases ed
    obtain ⟨a, rfl, ia⟩ := is
    refine ⟨a, rfl, ia, hb ρ h1 S1 ι1 σ H1 _ r1 (re.ext ex1) (p1.bind.imp fun y h2 S2 ι2 H2 r2 ex2 p2 u ru => ?_)⟩
    refine hc ρ h2 S2 ι2 σ H2 _ r2 ((re.ext ex1).ext ex2) (p2.bind.imp fun z h3 S3 ι3 H3 r3 ex3 p3 w rw3 => ?_)
    unfold dgetD at p3
    split at p3
    · rename_i t3 kvs3 q3 e3 ek
      split at p3
      · rename_i hq
        obtain ⟨a', o, ea, g, ho⟩ := dct_get r3 ((rv.ext ex2).ext ex3) (ru.ext ex3) e3 ek hq
        cases ea
        refine ⟨o, g, p3 S3 ι3 H3 r3 Ext.refl _ ?_⟩
        cases ed3 : dget kvs3 q3 with
        | some d =>
          rw [ed3] at ho
          obtain ⟨w', rfl, rw'⟩ := ho
          exact rw'
        | none =>
          rw [ed3] at ho
          subst ho
          exact rw3
      · exact False.elim p3
    · exact False.elim p3
  · exact False.elim p1
/-! ### attributes stored -/
theorem pf_put {f : Str} {d : D} {v : V} (rv : RV K S ι d v) : ∀ {fs : List (Str × D)} {vs : List (Str × V)}, PF K S ι fs vs → PF K S ι (putA f d fs) (putF f v vs)
  | _, _, .nil => .cons ⟨rfl, rv⟩ .nil
  | (g, x) :: fs, (g', y) :: vs, .cons z t => by
    obtain ⟨z1, z2⟩ := z
    have z1 : g = g' := z1
    subst z1
    unfold putA putF
    by_cases q : g = f
    · rw [if_pos q, if_pos q]; exact .cons ⟨rfl, rv⟩ t
    · rw [if_neg q, if_neg q]; exact .cons ⟨rfl, z2⟩ (pf_put rv t)
theorem ss_setA {k f : Str} (hc : Cls K (He.ga K k)) (hn : NoAttr K (He.ga K k) f) (hv : SE K mg W tb db) (ha : SE K mg W ta da) : SS K mg W (sFld K ta tb f) (fun ρ h => (db ρ h).go ρ fun v h1 => (da ρ h1).go ρ fun o h2 => match setAD k f o v h2 with
    | some h3 => .nx ρ h3
    | none => .stuck) := by
  intro ρ h S ι σ H D' r re hp
  refine hv ρ h S ι σ H _ r re ((Post.go re hp).imp fun y h1 S1 ι1 H1 r1 ex1 p1 v rv => ?_)
  refine ha ρ h1 S1 ι1 σ H1 _ r1 (re.ext ex1) ((Post.go (re.ext ex1) p1).imp fun o h2 S2 ι2 H2 r2 ex2 p2 ov ro => ?_)
  cases e : setAD k f o y h2 with
  | none => rw [e] at p2; exact False.elim p2
  | some h3 =>
    rw [e] at p2
    cases ro with
    | @ref n a en =>
      unfold setAD at e
      dsimp only at e
      split at e
      · rename_i k' fs q
        split at e
        · rename_i hk
          obtain ⟨rfl, hl⟩ := hk
          cases e
          obtain ⟨hs, dx, vs, q2, q3⟩ := r2.cell n a _ en q
          have pl := pf_len q3
          refine ⟨a, _, dx, vs, rfl, q2, hc, hn, by omega, ?_⟩
          have wr : HRel K S2 ι2 (h2.set n (.obj k' (putA f y fs))) (upd H2 a (.ins (He.ga K k') dx (putF f v vs))) :=
            r2.write en hs ⟨hs, dx, _, upd_same, pf_put (rv.ext ex2) q3⟩
          exact p2 S2 ι2 σ _ wr ((re.ext ex1).ext ex2) (Ext.write en)
        · cases e
      · cases e
    | _ => unfold setAD at e; cases e
/-! ### lists in cells, walked -/
theorem lcC_sound {fz : Bool} {i : Nat} {g : TG} {dg : D → Env → Hs → Out} {te : TE} {de : Env → Hs → R D} {vs : List Nat}
    (hg : SG K mg (fun _ _ _ _ => False) g dg) (hown : OwnG g vs) (he : SE K mg (fun _ _ _ _ => False) te de) :
    SE K mg W (tLc (iList K (tVar i)) g tYes te vs) fun ρ h => match ρ[i]? with
    | some (some (.ref n)) => (lcCD n dg de (wipeE ρ vs) c.F 0 [] h).bind fun ds h2 => newL fz ds h2
    | _ => .stuck := by
  intro ρ h S ι σ H Q r re hp
  dsimp only at hp
  split at hp
  · rename_i n ei
    obtain ⟨v, ev, rv⟩ := re.2 i _ ei
    cases rv with
    | @ref _ a en =>
      have isl : ∃ xs, h[n]? = some (.lst xs) := by
        cases eF : c.F with
        | zero => rw [eF] at hp; unfold lcCD at hp; exact False.elim hp
        | succ F =>
          rw [eF] at hp
          unfold lcCD at hp
          cases q : h[n]? with
          | none => rw [q] at hp; exact False.elim hp
          | some cc =>
            rw [q] at hp
            cases cc with
            | lst xs => exact ⟨xs, rfl⟩
            | dead => exact False.elim hp
            | obj _ _ => exact False.elim hp
            | dct _ _ => exact False.elim hp
      obtain ⟨xs, hx⟩ := isl
      obtain ⟨_, us, h2, _⟩ := r.cell n a _ en hx
      refine ⟨_, ev, a, rfl, ⟨us, SqL.of h2⟩, fun D hD => ?_⟩
      refine ⟨fun j m H' => ∃ h' S' ι' acc, StD K S ι H D h' S' ι' acc H' ∧ Sub S S' ∧ (∀ (n : Nat) (a : Addr), ι[n]? = some a → ι'[n]? = some a) ∧
          PostG K mg W S ι H σ (KQ K Q) ((lcCD n dg de (wipeE ρ vs) m j acc h').bind fun ds h2 => newL fz ds h2),
        ⟨c.F, h, S, ι, [], ⟨[], H, rfl, hD, r, Ext.refl, .nil⟩, fun _ _ e => e, fun _ _ e => e, hp⟩, ?_⟩
      rintro j m H' ⟨h', S', ι', acc, X, sb, pr, p0⟩
      have rp := X.rel
      have re' : ERel K S' ι' ρ σ := re.up sb pr
      cases m with
      | zero => unfold lcCD at p0; exact False.elim p0
      | succ m =>
        unfold lcCD at p0
        cases q : h'[n]? with
        | none => rw [q] at p0; exact False.elim p0
        | some cc =>
          rw [q] at p0
          cases cc with
          | dead => exact False.elim p0
          | obj _ _ => exact False.elim p0
          | dct _ _ => exact False.elim p0
          | lst ys =>
            dsimp only at p0
            obtain ⟨_, ws, w2, w3⟩ := rp.cell n a _ (pr n a en) q
            have sq : SqL K H' a ws := SqL.of w2
            cases ey : ys[j]? with
            | none =>
              rw [ey] at p0
              refine .inl ⟨⟨ws, sq, ?_⟩, X.fin hD p0⟩
              rw [← w3.length]
              exact List.getElem?_eq_none_iff.mp ey
            | some y =>
              rw [ey] at p0
              dsimp only at p0
              obtain ⟨w, ew, rw'⟩ := w3.get ey
              refine .inr ⟨⟨ws, w, sq, ew⟩, fun H' => ∃ h' S' ι' acc, StD K S ι H D h' S' ι' acc H' ∧ Sub S S' ∧ (∀ (n : Nat) (a : Addr), ι[n]? = some a → ι'[n]? = some a) ∧
                PostG K mg W S ι H σ (KQ K Q) ((lcCD n dg de (wipeE ρ vs) m (j + 1) acc h').bind fun ds h2 => newL fz ds h2), fun H' hn => ⟨m, Nat.lt_succ_self m, hn⟩, fun x H2 yl => ?_⟩
              obtain ⟨rfl, yl⟩ := yl
              have := yl ws sq
              rw [ew] at this
              cases this
              refine hown _ σ H2 _ ?_
              refine hg y _ (wipeE ρ vs) h' S' ι' (wipe σ vs) H2 _ rp (wipeE_ok re') rw' ?_
              cases e : dg y (wipeE ρ vs) h' with
              | nx ρ3 h3 =>
                rw [e] at p0
                intro S3 ι3 σ3 H3 r3 re3 ex3
                unfold tYes
                dsimp only
                rw [if_pos rfl]
                refine he ρ3 h3 S3 ι3 σ3 H3 _ r3 re3 ?_
                dsimp only at p0
                cases ee : de ρ3 h3 with
                | ok d h5 =>
                  rw [ee] at p0
                  dsimp only at p0
                  intro S5 ι5 H5 r5 ex5 z rz
                  by_cases hn : acc.length < LN
                  · rw [if_pos hn] at p0
                    have ex35 := ex3.trans ex5
                    obtain ⟨_, vacc, h5D, lv, nxt⟩ := X.step hD r5 ex35
                    exact ⟨vacc, h5D, by rw [lv]; exact Nat.lt_of_lt_of_le hn LN_le, h5, S5, ι5, acc ++ [d], nxt d z rz, fun b o e => ex35.sub _ _ (sb _ _ e), fun b o e => ex35.pre _ _ (pr _ _ e), p0⟩
                  · rw [if_neg hn] at p0; exact False.elim p0
                | exc _ _ _ => rw [ee] at p0; exact False.elim p0
                | stuck => rw [ee] at p0; exact False.elim p0
              | _ => rw [e] at p0; exact False.elim p0
  · exact False.elim hp
/-! ### dicts with tuple keys displayed -/
abbrev RPs (K : PySem.W.Frag) (S : Hp) (ι : List Addr) : List (D × D) → List (V × V) → Prop := Paired fun (p : D × D) (q : V × V) => RV K S ι p.1 q.1 ∧ RV K S ι p.2 q.2
theorem RPs.ext1 {S2 : Hp} {ι2 : List Addr} {H2 : Hp} {ds : List (D × D)} {us : List (V × V)} (r : RPs K S ι ds us) (x : Ext S ι H S2 ι2 H2) : RPs K S2 ι2 ds us := Paired.mapP r fun _ _ z => ⟨z.1.ext x, z.2.ext x⟩
def SP (K : PySem.W.Frag) (mg : Str → Option Value) (W : WX) (trs : List (TE × TE)) (dp : Env → Hs → R (List (D × D))) : Prop := ∀ ρ h S ι σ H Q, HRel K S ι h H → ERel K S ι ρ σ → PostG K mg W S ι H σ (fun ps _ S' ι' H' => ∀ us, RPs K S' ι' ps us → Q us H') (dp ρ h) → tPairs trs σ H Q
theorem sp_nil : SP K mg W [] (fun _ h => .ok [] h) := fun ρ h S ι σ H Q r re hp => hp S ι H r Ext.refl [] .nil
theorem sp_cons {trs : List (TE × TE)} {dp : Env → Hs → R (List (D × D))} (ha : SE K mg W ta da) (hb : SE K mg W tb db) (hr : SP K mg W trs dp) : SP K mg W ((ta, tb) :: trs) (fun ρ h => (da ρ h).bind fun x h1 => (db ρ h1).bind fun y h2 => (dp ρ h2).bind fun ps h3 => .ok ((x, y) :: ps) h3) := by
  intro ρ h S ι σ H Q r re hp
  refine ha ρ h S ι σ H _ r re (hp.bind.imp fun x h1 S1 ι1 H1 r1 ex1 p1 v rv => ?_)
  refine hb ρ h1 S1 ι1 σ H1 _ r1 (re.ext ex1) (p1.bind.imp fun y h2 S2 ι2 H2 r2 ex2 p2 u ru => ?_)
  refine hr ρ h2 S2 ι2 σ H2 _ r2 ((re.ext ex1).ext ex2) (p2.bind.imp fun ps h3 S3 ι3 H3 r3 ex3 p3 us rs => ?_)
  exact p3 S3 ι3 H3 r3 Ext.refl _ (.cons ⟨(rv.ext ex2).ext ex3, ru.ext ex3⟩ rs)
abbrev PKT (K : PySem.W.Frag) (S : Hp) (ι : List Addr) : List (DKey × D) → List (List Key × V) → Prop := Paired fun (p : DKey × D) (q : List Key × V) => p.1 = .inr q.1 ∧ RV K S ι p.2 q.2
theorem kbs_of : ∀ {ds : List (D × D)} {us : List (V × V)} {kk : List DKey}, RPs K S ι ds us → keysD (ds.map (·.1)) = some kk → kk.all isT = true →
    ∃ kbs : List KB, us = kbs.map (fun x => (V.ref x.2.1, x.2.2)) ∧ (∀ x ∈ kbs, S x.2.1 = some (.tup (x.1.map kV))) ∧ Paired (fun (p : DKey × D) (x : KB) => p.1 = .inr x.1 ∧ RV K S ι p.2 x.2.2) (kk.zip (ds.map (·.2))) kbs
  | _, _, _, .nil, e, _ => by
    cases e
    exact ⟨[], rfl, (fun x hx => by cases hx), .nil⟩
  | (d, y) :: ds, (u, w) :: us, kk, .cons z t, e, hT => by
    obtain ⟨z1, z2⟩ := z
    have z1 : RV K S ι d u := z1
    have z2 : RV K S ι y w := z2
    rw [List.map_cons] at e
    unfold keysD at e
    split at e
    · rename_i k ks ek eks
      cases e
      rw [List.all_cons, Bool.and_eq_true] at hT
      obtain ⟨kbs, q1, q2, q3⟩ := kbs_of t eks hT.2
      cases k with
      | inl _ => cases hT.1
      | inr kl =>
        cases d with
        | tup xs =>
          cases z1 with
          | @tup b vs _ e1 r1 =>
            have ek : (keysOf xs).map Sum.inr = some (Sum.inr kl : DKey) := ek
            cases eo : keysOf xs with
            | none => rw [eo] at ek; cases ek
            | some kl' =>
              rw [eo] at ek
              cases ek
              have ev := keys_ok r1 eo
              subst ev
              refine ⟨(kl, b, w) :: kbs, by rw [List.map_cons, q1], fun x hx => ?_, .cons ⟨rfl, z2⟩ q3⟩
              rcases List.mem_cons.mp hx with rfl | hx
              · exact e1
              · exact q2 x hx
        | int _ => cases ek
        | str _ => cases ek
        | _ => cases ek
    · cases e
theorem puts_of : ∀ {ps : List (DKey × D)} {kbs : List KB} {kvs : List (DKey × D)} {kv : List (List Key × V)}, Paired (fun (p : DKey × D) (x : KB) => p.1 = .inr x.1 ∧ RV K S ι p.2 x.2.2) ps kbs → PKT K S ι kvs kv → PKT K S ι (ps.foldl (fun m p => dput m p.1 p.2) kvs) (putsT kv kbs)
  | _, _, _, _, .nil, r => r
  | (k, y) :: ps, x :: kbs, kvs, kv, .cons z t, r => by
    obtain ⟨z1, z2⟩ := z
    have z1 : k = .inr x.1 := z1
    subst z1
    have st := dput_t r x.1 z2
    exact puts_of (ps := ps) (kbs := kbs) (kvs := dput kvs (.inr x.1) y) (kv := putK kv x.1 x.2.2) t st
theorem se_dispT {trs : List (TE × TE)} {dp : Env → Hs → R (List (D × D))} (hs : SP K mg W trs dp) : SE K mg W (tDispT trs) (fun ρ h => (dp ρ h).bind fun ds h1 => match keysD (ds.map (·.1)) with
    | some kk => if kk.all isT && decide (ds.length ≤ 15) && decide (0 < ds.length) then .ok (.ref h1.length) (h1 ++ [.dct true ((kk.zip (ds.map (·.2))).foldl (fun m p => dput m p.1 p.2) [])]) else .stuck
    | none => .stuck) := by
  intro ρ h S ι σ H Q r re hp
  replace hp : PostG K mg W S ι H σ (KQ K Q) ((dp ρ h).bind _) := hp
  intro p hn
  have np : p ∉ ι := fun m => r.out p m hn
  refine hs ρ h S ι σ (upd H p (.dT [])) _ (r.plus hn) re ?_
  cases e : dp ρ h with
  | stuck => rw [e] at hp; exact False.elim hp
  | exc x pp h1 =>
    rw [e] at hp
    exact fun cls dd S1 ι1 H1 r1 ex1 xo => hp cls dd S1 ι1 H1 r1 ((Ext.plus hn).trans ex1) xo
  | ok ds h1 =>
    rw [e] at hp
    intro S1 ι1 H1 r1 ex1 us rs
    have there : H1 p = some (.dT []) := ex1.keep p _ upd_same np
    have np1 : p ∉ ι1 := fun m => by
      rcases ex1.new p m with q | q
      · exact np q
      · rw [upd_same] at q; cases q
    have ns1 : S1 p = none := by
      rcases none_or (H := S1) p with q | ⟨o, q⟩
      · exact q
      · rcases ex1.snew p (by rw [q]; exact fun z => nomatch z) with z | z | z
        · exact absurd (Hp.snone r hn) z
        · exact absurd z np
        · rw [upd_same] at z; cases z
    have hp : PostG K mg W S ι H σ (KQ K Q) (match keysD (ds.map (·.1)) with
      | some kk => if kk.all isT && decide (ds.length ≤ 15) && decide (0 < ds.length) then R.ok (.ref h1.length) (h1 ++ [.dct true ((kk.zip (ds.map (·.2))).foldl (fun m p => dput m p.1 p.2) [])]) else .stuck
      | none => .stuck) := hp
    split at hp
    · rename_i kk ek
      split at hp
      · rename_i hc
        rw [Bool.and_eq_true, Bool.and_eq_true, decide_eq_true_eq, decide_eq_true_eq] at hc
        obtain ⟨⟨hT, h15⟩, _⟩ := hc
        obtain ⟨kbs, q1, q2, q3⟩ := kbs_of rs ek hT
        have len : kbs.length ≤ 15 := by
          have e1 := Paired.length rs
          rw [q1, List.length_map] at e1
          omega
        refine ⟨there, kbs, q1, fun x hx => r1.sub _ _ (q2 x hx), len, ?_⟩
        have rm := r1.minus np1 ns1
        have exm : Ext S ι H S1 ι1 (minus H1 p) := Ext.around Ext.refl hn ex1 np
        have nm : (minus H1 p) p = none := minus_at
        have eq : upd H1 p (.dT (putsT [] kbs)) = upd (minus H1 p) p (.dT (putsT [] kbs)) := by
          funext a
          by_cases k : a = p
          · subst k; rw [upd_same, upd_same]
          · rw [upd_ne k, upd_ne k, minus_ne k]
        rw [eq]
        have rn := rm.cellNew (o := .dT (putsT [] kbs)) (c := .dct true ((kk.zip (ds.map (·.2))).foldl (fun m p => dput m p.1 p.2) [])) nm ⟨ns1, _, upd_same, Paired.mapP (puts_of q3 .nil) fun _ _ z => ⟨z.1, z.2.up (fun _ _ e => e) pre_snoc⟩⟩
        exact hp S1 _ _ rn (exm.trans (Ext.cellNew nm)) _ (.ref (by rw [← r1.len]; simp))
      · exact False.elim hp
    · exact False.elim hp
end
end Ev
/-! Ev, part J: the denotation of expressions is sound: the induction. -/
namespace Ev
open PySem PySem.Spec PyProof.Rows L2

theorem room_of {k : Nat} {A : Around} (r : Room k A) : A.units + 65 < cLine := by have := r.un; omega
theorem Good.blk {c : Cfg} {bl : BL} {fl : List Str} {X : Cx} (G : Good c bl fl X) {s : Shared} {H : Hp} {scope : Scope} {C : Addr} {cl : List (Str × Addr)} {fp : List Addr} (hk : scope.kind = .function) :
    Good c bl fl (X.blk s H scope (compEnvC scope cl C X.env) fp) where
  calm := G.calm
  nd := G.nd
  kind := hk
  un := G.un
  gd := G.gd
  blt := G.blt
  gl := G.gl
  fns := G.fns
  ats := G.ats
  mes := G.mes

section
variable {c : Cfg} {bl : BL}
theorem pw_of {X : Cx} {op : BoolOp} {a : Expr} {pos : Pos} {t : TT} (h : PT X a t) : PW X (.BoolOp op [a] pos) t := by
  cases op with
  | And => exact pw_and1 h
  | Or => exact pw_or1 h
/-! iterators -/
section
variable {K : PySem.W.Frag} {mg : Str → Option Value} {W : WX} {ta tb : TE} {da db : Env → Hs → R D} {tl : TA} {dl : Env → Hs → R (List D)}
def seqD (x : D) (h : Hs) : R (List D) := match x with
  | .ref _ => .stuck
  | x => match seqOf h x with
    | some (xs, _) => .ok xs h
    | none => .stuck
theorem seq_fix {S : Hp} {ι : List Addr} {H : Hp} {h : Hs} (r : HRel K S ι h H) {d : D} {v : V} (rv : RV K S ι d v) (nr : ∀ n, d ≠ .ref n) {xs : List D} {b : Bool} (e : seqOf h d = some (xs, b)) :
    ∃ a vs, v = .ref a ∧ RVs K S ι xs vs ∧ (b = true → SqL K S a vs) ∧ (b = false → SqT K S a vs) := by
  cases rv with
  | tup e1 r1 => cases e; exact ⟨_, _, rfl, r1, fun z => (by cases z), fun _ => SqT.of e1⟩
  | lst e1 r1 => cases e; exact ⟨_, _, rfl, r1, fun _ => SqL.of e1, fun z => (by cases z)⟩
  | vw e1 r1 => cases e; exact ⟨_, _, rfl, r1, fun _ => e1, fun z => (by cases z)⟩
  | vt e1 _ r1 => cases e; exact ⟨_, _, rfl, r1, fun z => (by cases z), fun _ => vtT e1⟩
  | ref en => exact absurd rfl (nr _)
  | non => cases e
  | bl _ => cases e
  | int _ => cases e
  | str _ => cases e
  | ob _ _ _ => cases e
  | fn _ => cases e
theorem si_seq (ha : SE K mg W ta da) : SI K mg W (fun σ H R => iList K ta σ H R ∨ iTup K ta σ H R) (fun ρ h => (da ρ h).bind fun x h1 => match x with
    | .ref _ => .stuck
    | x => match seqOf h1 x with
      | some (xs, _) => .ok xs h1
      | none => .stuck) := by
  intro ρ h S ι σ H R' r re hp
  replace hp : PostG K mg W S ι H σ _ ((da ρ h).bind _) := hp
  cases e : da ρ h with
  | stuck => rw [e] at hp; exact False.elim hp
  | exc x p h1 =>
    rw [e] at hp
    exact .inl (ha ρ h S ι σ H _ r re (by rw [e]; exact hp))
  | ok x h1 =>
    rw [e] at hp
    have hp : PostG K mg W S ι H σ (fun xs _ S' ι' H' => ∀ J, Yields K J xs S' ι' → R' J H') (seqD x h1) := hp
    cases x with
    | ref n => exact False.elim hp
    | _ =>
      unfold seqD at hp
      dsimp only at hp
      split at hp
      · rename_i xs b e1
        cases b with
        | true =>
          refine .inl (ha ρ h S ι σ H _ r re ?_)
          rw [e]
          intro S1 ι1 H1 r1 ex1 v rv
          obtain ⟨a, vs, rfl, rs, hl, ht⟩ := seq_fix r1 rv (fun n z => nomatch z) e1
          exact ⟨a, rfl, ⟨vs, SqL.up r1.sub (hl rfl)⟩, hp S1 ι1 H1 r1 ex1 _ (yields_list (hl rfl) rs)⟩
        | false =>
          refine .inr (ha ρ h S ι σ H _ r re ?_)
          rw [e]
          intro S1 ι1 H1 r1 ex1 v rv
          obtain ⟨a, vs, rfl, rs, hl, ht⟩ := seq_fix r1 rv (fun n z => nomatch z) e1
          exact ⟨a, rfl, ⟨vs, SqT.up r1.sub (ht rfl)⟩, hp S1 ι1 H1 r1 ex1 _ (yields_tup (ht rfl) rs)⟩
      · exact False.elim hp
theorem si_range1 (hl : SA K mg W tl dl) : SI K mg W (iRng1 tl) (fun ρ h => (dl ρ h).bind fun ds h1 => match ds with
    | [.int n] => if -(LN : Int) ≤ n ∧ n ≤ (LN : Int) then .ok ((List.range n.toNat).map fun k => .int (k : Nat)) h1 else .stuck
    | _ => .stuck) := by
  intro ρ h S ι σ H R' r re hp
  refine hl ρ h S ι σ H _ r re (hp.bind.imp fun ds h1 S1 ι1 H1 r1 ex1 p1 vs rs => ?_)
  split at p1
  · obtain ⟨v, rfl, rv⟩ := rs.one
    cases rv
    split at p1
    · rename_i hn
      unfold LN at hn
      refine ⟨_, rfl, by omega, by omega, p1 S1 ι1 H1 r1 Ext.refl _ ?_⟩
      have := yields_range (K := K) (S := S1) (ι := ι1) 0 (Int.toNat ‹Int›)
      simpa only [Int.zero_add] using this
    · exact False.elim p1
  · exact False.elim p1
theorem si_range2 (hl : SA K mg W tl dl) : SI K mg W (iRng2 tl) (fun ρ h => (dl ρ h).bind fun ds h1 => match ds with
    | [.int a, .int b] => if -(LN : Int) ≤ a ∧ a ≤ (LN : Int) ∧ -(LN : Int) ≤ b ∧ b ≤ (LN : Int) then .ok ((List.range (b - a).toNat).map fun k => .int (a + (k : Nat))) h1 else .stuck
    | _ => .stuck) := by
  intro ρ h S ι σ H R' r re hp
  refine hl ρ h S ι σ H _ r re (hp.bind.imp fun ds h1 S1 ι1 H1 r1 ex1 p1 vs rs => ?_)
  split at p1
  · obtain ⟨v, u, rfl, rv, ru⟩ := rs.two
    cases rv; cases ru
    split at p1
    · rename_i hn
      unfold LN at hn
      exact ⟨_, _, rfl, ⟨by omega, by omega, by omega, by omega⟩, p1 S1 ι1 H1 r1 Ext.refl _ (yields_range _ _)⟩
    · exact False.elim p1
  · exact False.elim p1
theorem RVs.three {S : Hp} {ι : List Addr} {d e f : D} {vs : List V} (r : RVs K S ι [d, e, f] vs) : ∃ v u w, vs = [v, u, w] ∧ RV K S ι d v ∧ RV K S ι e u ∧ RV K S ι f w := by
  cases r with
  | cons r t => cases t with
    | cons r2 t => cases t with
      | cons r3 t => cases t; exact ⟨_, _, _, rfl, r, r2, r3⟩
theorem si_range3 (hl : SA K mg W tl dl) : SI K mg W (iRng3 tl) (fun ρ h => (dl ρ h).bind fun ds h1 => match ds with
    | [.int a, .int b, .int s] => if s = -1 ∧ -(LN : Int) ≤ a ∧ a ≤ (LN : Int) ∧ -(LN : Int) ≤ b ∧ b ≤ (LN : Int) then .ok ((List.range (a - b).toNat).map fun k => .int (a - (k : Nat))) h1 else .stuck
    | _ => .stuck) := by
  intro ρ h S ι σ H R' r re hp
  refine hl ρ h S ι σ H _ r re (hp.bind.imp fun ds h1 S1 ι1 H1 r1 ex1 p1 vs rs => ?_)
  split at p1
  · obtain ⟨v, u, w, rfl, rv, ru, rw'⟩ := rs.three
    cases rv; cases ru; cases rw'
    split at p1
    · rename_i hn
      unfold LN at hn
      obtain ⟨rfl, h1, h2, h3, h4⟩ := hn
      exact ⟨_, _, _, _, rfl, RgC.neg (by omega) (by omega) (by omega) (by omega), p1 S1 ι1 H1 r1 Ext.refl _ (yields_down _ _)⟩
    · exact False.elim p1
  · exact False.elim p1
theorem si_enum (ha : SE K mg W ta da) : SI K mg W (EnT.iEnumA K (tCons ta tNil)) (fun ρ h => (da ρ h).bind fun x h1 => match x with
    | .ref _ => .stuck
    | x => match seqOf h1 x with
      | some (xs, _) => .ok ((List.range xs.length).zipWith (fun k x => .tup [.int (k : Nat), x]) xs) h1
      | none => .stuck) := by
  intro ρ h S ι σ H R' r re hp
  refine ha ρ h S ι σ H _ r re (hp.bind.imp fun x h1 S1 ι1 H1 r1 ex1 p1 v rv => ?_)
  split at p1
  · exact False.elim p1
  · rename_i nr
    split at p1
    · rename_i xs b e1
      obtain ⟨a, vs, rfl, rs, hl, ht⟩ := seq_fix r1 rv (fun n z => nr n z) e1
      cases b with
      | true => exact ⟨a, vs, rfl, .inl ⟨SqL.up r1.sub (hl rfl), p1 S1 ι1 H1 r1 Ext.refl _ (yields_enum (hl rfl) rs)⟩⟩
      | false => exact ⟨a, vs, rfl, .inr ⟨SqT.up r1.sub (ht rfl), p1 S1 ι1 H1 r1 Ext.refl _ (yields_enumT (ht rfl) rs)⟩⟩
    · exact False.elim p1
theorem si_zip (ha : SE K mg W ta da) (hb : SE K mg W tb db) : SI K mg W (RZ.iZipA K (tCons ta (tCons tb tNil))) (fun ρ h => (da ρ h).bind fun x h1 => (db ρ h1).bind fun y h2 => match x, y with
    | .ref _, _ => .stuck
    | _, .ref _ => .stuck
    | x, y => match seqOf h2 x, seqOf h2 y with
      | some (xs, k), some (ys, k') => if k = k' then .ok (xs.zipWith (fun x y => .tup [x, y]) ys) h2 else .stuck
      | _, _ => .stuck) := by
  intro ρ h S ι σ H R' r re hp
  refine ha ρ h S ι σ H _ r re (hp.bind.imp fun x h1 S1 ι1 H1 r1 ex1 p1 v rv => ?_)
  refine hb ρ h1 S1 ι1 σ H1 _ r1 (re.ext ex1) (p1.bind.imp fun y h2 S2 ι2 H2 r2 ex2 p2 u ru => ?_)
  have rv := rv.ext ex2
  split at p2
  · exact False.elim p2
  · exact False.elim p2
  · rename_i nx ny
    split at p2
    · rename_i xs k ys k' e1 e2
      split at p2
      · rename_i ek
        subst ek
        obtain ⟨a, vs, rfl, rs, hl, ht⟩ := seq_fix r2 rv (fun n z => nx n z) e1
        obtain ⟨b, us, rfl, ts, hl2, ht2⟩ := seq_fix r2 ru (fun n z => ny n z) e2
        refine ⟨a, b, vs, us, rfl, ?_⟩
        cases k with
        | true => exact .inl ⟨SqL.up r2.sub (hl rfl), SqL.up r2.sub (hl2 rfl), p2 S2 ι2 H2 r2 Ext.refl _ (yields_zipL (hl rfl) rs (hl2 rfl) ts)⟩
        | false => exact .inr ⟨SqT.up r2.sub (ht rfl), SqT.up r2.sub (ht2 rfl), p2 S2 ι2 H2 r2 Ext.refl _ (yields_zipT (ht rfl) rs (ht2 rfl) ts)⟩
      · exact False.elim p2
    · exact False.elim p2
theorem tups_ok {S : Hp} {ι : List Addr} : ∀ {xs : List D} {vs : List V} {rows : List (List D)}, RVs K S ι xs vs → tupsOf xs = some rows →
    ∃ ls : List Addr, vs = ls.map .ref ∧ ls.length = rows.length ∧ ∀ (k : Nat) (l : Addr) (r : List D), ls[k]? = some l → rows[k]? = some r → ∃ us, SqT K S l us ∧ RVs K S ι r us
  | _, _, _, .nil, e => by
    cases e
    exact ⟨[], rfl, rfl, fun k l r e => by simp at e⟩
  | _, _, rows, @RVs.cons _ _ _ d v ds vs r1 rs, e => by
    have key : ∀ {ys : List D} {rr : List (List D)} {a : Addr} {us : List V}, tupsOf ds = some rr → rows = ys :: rr → v = .ref a → SqT K S a us → RVs K S ι ys us →
        ∃ ls : List Addr, v :: vs = ls.map .ref ∧ ls.length = rows.length ∧ ∀ (k : Nat) (l : Addr) (r : List D), ls[k]? = some l → rows[k]? = some r → ∃ us, SqT K S l us ∧ RVs K S ι r us := by
      intro ys rr a us e1 e2 e3 h1 h2
      subst e2 e3
      obtain ⟨ls, rfl, q1, q2⟩ := tups_ok rs e1
      refine ⟨a :: ls, rfl, by rw [List.length_cons, List.length_cons, q1], fun k l r el er => ?_⟩
      cases k with
      | zero => simp at el er; subst el er; exact ⟨us, h1, h2⟩
      | succ k => simp at el er; exact q2 k l r el er
    cases r1 with
    | tup e1 r2 =>
      replace e : (tupsOf ds).map (_ :: ·) = some rows := e
      cases q : tupsOf ds with
      | none => rw [q] at e; cases e
      | some rr => rw [q] at e; cases e; exact key q rfl rfl (SqT.of e1) r2
    | vt e1 _ r2 =>
      replace e : (tupsOf ds).map (_ :: ·) = some rows := e
      cases q : tupsOf ds with
      | none => rw [q] at e; cases e
      | some rr => rw [q] at e; cases e; exact key q rfl rfl (vtT e1) r2
    | _ => cases e
theorem _root_.ZSt.SqK.up {κ : Addr → Bool} {K : PySem.W.Frag} {S S' : Hp} (h : Sub S S') {a : Addr} {vs : List V} (e : ZSt.SqK κ K S a vs) : ZSt.SqK κ K S' a vs := by
  unfold ZSt.SqK at *
  by_cases q : κ a = true
  · rw [if_pos q] at *
    exact SqL.up h e
  · rw [if_neg q] at *
    exact SqT.up h e
/-- the columns of rows of one length, as they come -/
theorem col_vals {κ : Addr → Bool} {S : Hp} {ι : List Addr} {i : Nat} : ∀ {ls : List Addr} {rows : List (List D)} {col : List V}, ls.length = rows.length → col.length = ls.length → (∀ r ∈ rows, i < r.length) →
    (∀ (k : Nat) (l : Addr) (r : List D), ls[k]? = some l → rows[k]? = some r → ∃ us, ZSt.SqK κ K S l us ∧ RVs K S ι r us) → (∀ (k : Nat) (l : Addr) (xs : List V), ls[k]? = some l → ZSt.SqK κ K S l xs → ∃ x, col[k]? = some x ∧ xs[i]? = some x) →
    RVs K S ι (rows.map fun x => x.getD i .non) col
  | [], [], [], _, _, _, _, _ => .nil
  | [], [], _ :: _, _, h, _, _, _ => by simp at h
  | [], _ :: _, _, h, _, _, _, _ => by simp at h
  | _ :: _, [], _, h, _, _, _, _ => by simp at h
  | _ :: _, _ :: _, [], _, h, _, _, _ => by simp at h
  | l :: ls, r :: rows, x :: col, h1, h2, h3, h4, h5 => by
    obtain ⟨us, q1, q2⟩ := h4 0 l r rfl rfl
    obtain ⟨x', e1, e2⟩ := h5 0 l us rfl q1
    simp at e1
    subst e1
    have hi := h3 r List.mem_cons_self
    obtain ⟨v, ev, rv⟩ := q2.get (List.getElem?_eq_getElem hi)
    rw [e2] at ev
    cases ev
    rw [List.map_cons]
    refine .cons ?_ (col_vals (by simpa using h1) (by simpa using h2) (fun r hr => h3 r (List.mem_cons_of_mem _ hr)) (fun k l r a b => h4 (k + 1) l r (by simpa using a) (by simpa using b)) fun k l xs a b => ?_)
    · rw [List.getD_eq_getElem?_getD, List.getElem?_eq_getElem hi]; exact rv
    · obtain ⟨x, z1, z2⟩ := h5 (k + 1) l xs (by simpa using a) b
      exact ⟨x, by simpa using z1, z2⟩
theorem cols_at {rows cols : List (List D)} : True := trivial
theorem yields_zipS {κ : Addr → Bool} {S : Hp} {ι : List Addr} {ls : List Addr} {rows : List (List D)} {ys : List D} (hl : ls.length = rows.length) (hr : ∀ (k : Nat) (l : Addr) (r : List D), ls[k]? = some l → rows[k]? = some r → ∃ us, ZSt.SqK κ K S l us ∧ RVs K S ι r us)
    (e : colsD rows = some ys) : Yields K (ZSt.ItS κ K ls) ys S ι ∧ 0 < ls.length ∧ ls.length ≤ 13 := by
  cases rows with
  | nil => cases e
  | cons r0 rs =>
    replace e : (if rs.all (fun x => x.length == r0.length) && decide ((r0 :: rs).length ≤ 13) then some ((List.range r0.length).map fun j => D.tup ((r0 :: rs).map fun x => x.getD j .non)) else none) = some ys := e
    split at e
    · rename_i hc
      cases e
      rw [Bool.and_eq_true, List.all_eq_true, decide_eq_true_eq] at hc
      have hlen : ∀ r ∈ r0 :: rs, r.length = r0.length := fun r hm => by
        rcases List.mem_cons.mp hm with rfl | hm
        · rfl
        · have := hc.1 r hm
          simpa using this
      refine ⟨fun i S1 ι1 h1 H1 hs hi hr1 => ⟨fun z => ?_, fun d ed => ?_⟩, by rw [hl]; simp, by rw [hl]; exact hc.2⟩
      · have hk : 0 < ls.length := by rw [hl]; simp
        obtain ⟨us, q1, q2⟩ := hr 0 ls[0] r0 (List.getElem?_eq_getElem hk) rfl
        refine ⟨ls[0], us, List.getElem?_eq_getElem hk, ZSt.SqK.up hr1.sub (ZSt.SqK.up hs q1), ?_⟩
        rw [← q2.length]
        simpa using z
      · rw [List.getElem?_map] at ed
        have hlt : i < r0.length := by
          by_cases k : i < r0.length
          · exact k
          · rw [List.getElem?_eq_none (by simpa using k)] at ed; cases ed
        rw [List.getElem?_range hlt] at ed
        cases ed
        have ex : ∀ (k : Nat) (l : Addr), ls[k]? = some l → ∃ us v, ZSt.SqK κ K S l us ∧ us[i]? = some v := fun k l hk => by
          have hkl : k < (r0 :: rs).length := by rw [← hl]; exact (List.getElem?_eq_some_iff.mp hk).1
          obtain ⟨us, q1, q2⟩ := hr k l _ hk (List.getElem?_eq_getElem hkl)
          have hi2 : i < ((r0 :: rs)[k]).length := by rw [hlen _ (List.getElem_mem hkl)]; exact hlt
          obtain ⟨v, ev, _⟩ := q2.get (List.getElem?_eq_getElem hi2)
          exact ⟨us, v, q1, ev⟩
        refine ⟨?_, fun x H' yl => ?_⟩
        · have : ∀ (ls : List Addr), (∀ (k : Nat) (l : Addr), ls[k]? = some l → ∃ us v, ZSt.SqK κ K S l us ∧ us[i]? = some v) → ∃ col : List V, col.length = ls.length ∧ ∀ (k : Nat) (l : Addr), ls[k]? = some l → ∃ (xs : List V) (x : V), ZSt.SqK κ K H1 l xs ∧ col[k]? = some x ∧ xs[i]? = some x := by
            intro ls
            induction ls with
            | nil => exact fun _ => ⟨[], rfl, fun k l e => by simp at e⟩
            | cons l ls ih =>
              intro hx
              obtain ⟨col, c1, c2⟩ := ih fun k m e => hx (k + 1) m (by simpa using e)
              obtain ⟨us, v, q1, q2⟩ := hx 0 l rfl
              refine ⟨v :: col, by rw [List.length_cons, List.length_cons, c1], fun k m e => ?_⟩
              cases k with
              | zero => simp at e; subst e; exact ⟨us, v, ZSt.SqK.up hr1.sub (ZSt.SqK.up hs q1), rfl, q2⟩
              | succ k => simp at e; simpa using c2 k m e
          exact this ls ex
        · obtain ⟨T, col, rfl, hT, rfl, hcl, hcol⟩ := yl
          have rc : RVs K S1 ι1 ((r0 :: rs).map fun x => x.getD i .non) col := by
            refine col_vals hl hcl (fun r hm => by rw [hlen r hm]; exact hlt) (fun k l r a b => ?_) fun k l xs a b => hcol k l xs a (ZSt.SqK.up hr1.sub b)
            obtain ⟨us, q1, q2⟩ := hr k l r a b
            exact ⟨us, ZSt.SqK.up hs q1, q2.up hs hi⟩
          have ex1 := Ext.fz (o := .tup col) hr1 hT
          exact ⟨_, hr1.fz hT, ex1, .tup upd_same (rc.ext ex1)⟩
    · cases e
theorem si_zipS (ha : SE K mg W ta da) : SI K mg W (ZSt.iZipS K ta) (fun ρ h => (da ρ h).bind fun x h1 => match x with
    | .ref _ => .stuck
    | x => match seqOf h1 x with
      | some (xs, _) => (match (tupsOf xs).bind colsD with
        | some ys => .ok ys h1
        | none => .stuck)
      | none => .stuck) := by
  intro ρ h S ι σ H R' r re hp
  refine ha ρ h S ι σ H _ r re (hp.bind.imp fun x h1 S1 ι1 H1 r1 ex1 p1 v rv => ?_)
  split at p1
  · exact False.elim p1
  · rename_i nr
    split at p1
    · rename_i xs b e1
      split at p1
      · rename_i ys e2
        obtain ⟨a, vs, rfl, rs, hl, ht⟩ := seq_fix r1 rv (fun n z => nr n z) e1
        cases q : tupsOf xs with
        | none => rw [q] at e2; cases e2
        | some rows =>
          rw [q] at e2
          obtain ⟨ls, rfl, q1, q2⟩ := tups_ok rs q
          obtain ⟨hy, hn, h13⟩ := yields_zipS (κ := fun _ => false) q1 (fun k l r a b => let ⟨us, z1, z2⟩ := q2 k l r a b; ⟨us, z1, z2⟩) e2
          refine ⟨a, ls, rfl, ?_, hn, h13, fun l hm => ?_, p1 S1 ι1 H1 r1 Ext.refl _ hy⟩
          · cases b with
            | true => exact .inr (SqL.up r1.sub (hl rfl))
            | false => exact .inl (SqT.up r1.sub (ht rfl))
          · obtain ⟨k, hk⟩ := List.mem_iff_getElem?.mp hm
            have hkl : k < rows.length := by rw [← q1]; exact (List.getElem?_eq_some_iff.mp hk).1
            obtain ⟨us, z1, _⟩ := q2 k l _ hk (List.getElem?_eq_getElem hkl)
            exact ⟨us, SqT.up r1.sub z1⟩
      · exact False.elim p1
    · exact False.elim p1
theorem si_zipM (ha : SE K mg W ta da) (hb : SE K mg W tb db) : SI K mg W (ZSt.iZipM K (tCons ta (tCons tb tNil))) (fun ρ h => (da ρ h).bind fun x h1 => (db ρ h1).bind fun y h2 => match x, y with
    | .ref _, _ => .stuck
    | _, .ref _ => .stuck
    | x, y => match seqOf h2 x, seqOf h2 y with
      | some (xs, _), some (ys, _) => if xs.length = ys.length then .ok ((List.range xs.length).map fun j => .tup [xs.getD j .non, ys.getD j .non]) h2 else .stuck
      | _, _ => .stuck) := by
  intro ρ h S ι σ H R' r re hp
  refine ha ρ h S ι σ H _ r re (hp.bind.imp fun x h1 S1 ι1 H1 r1 ex1 p1 v rv => ?_)
  refine hb ρ h1 S1 ι1 σ H1 _ r1 (re.ext ex1) (p1.bind.imp fun y h2 S2 ι2 H2 r2 ex2 p2 u ru => ?_)
  have rv := rv.ext ex2
  split at p2
  · exact False.elim p2
  · exact False.elim p2
  · rename_i nx ny
    split at p2
    · rename_i xs k ys k' e1 e2
      split at p2
      · rename_i el
        obtain ⟨a, vs, rfl, rs, hl, ht⟩ := seq_fix r2 rv (fun n z => nx n z) e1
        obtain ⟨b, us, rfl, ts, hl2, ht2⟩ := seq_fix r2 ru (fun n z => ny n z) e2
        refine ⟨a, b, vs, us, k, k', rfl, ?_, ?_, fun κ κa κb => ?_⟩
        · unfold ZSt.Kd
          cases k with
          | true => exact SqL.up r2.sub (hl rfl)
          | false => exact SqT.up r2.sub (ht rfl)
        · unfold ZSt.Kd
          cases k' with
          | true => exact SqL.up r2.sub (hl2 rfl)
          | false => exact SqT.up r2.sub (ht2 rfl)
        · have ka : ZSt.SqK κ K S2 a vs := by
            unfold ZSt.SqK; rw [κa]
            cases k with
            | true => exact hl rfl
            | false => exact ht rfl
          have kb : ZSt.SqK κ K S2 b us := by
            unfold ZSt.SqK; rw [κb]
            cases k' with
            | true => exact hl2 rfl
            | false => exact ht2 rfl
          have ec : colsD [xs, ys] = some ((List.range xs.length).map fun j => .tup [xs.getD j .non, ys.getD j .non]) := by
            show (if [ys].all (fun x => x.length == xs.length) && decide ([xs, ys].length ≤ 13) then some ((List.range xs.length).map fun j => D.tup ([xs, ys].map fun x => x.getD j .non)) else none) = _
            rw [if_pos (by simp [el])]; rfl
          obtain ⟨hy, _, _⟩ := yields_zipS (κ := κ) (K := K) (S := S2) (ι := ι2) (ls := [a, b]) (rows := [xs, ys]) rfl (fun k l r hk hr => by
            match k with
            | 0 => cases hk; cases hr; exact ⟨vs, ka, rs⟩
            | 1 => cases hk; cases hr; exact ⟨us, kb, ts⟩
            | k + 2 => simp at hk) ec
          exact p2 S2 ι2 H2 r2 Ext.refl _ hy
      · exact False.elim p2
    · exact False.elim p2
theorem enumF_at (k : Nat) (xs : List D) (i : Nat) : ((List.range xs.length).zipWith (fun j x => D.tup [.int ((k + j : Nat) : Int), x]) xs)[i]? = (xs[i]?).map fun x => D.tup [.int ((k + i : Nat) : Int), x] := by
  rw [List.getElem?_zipWith]
  by_cases q : i < xs.length
  · rw [List.getElem?_range q, List.getElem?_eq_getElem q]; rfl
  · rw [List.getElem?_eq_none (by simpa using q), List.getElem?_eq_none (l := xs) (by omega)]; rfl
theorem yields_enumF {S : Hp} {ι : List Addr} {a : Addr} {k : Nat} {xs : List D} {vs : List V} (e : SqL K S a vs) (r : RVs K S ι xs vs) : Yields K (EnF.IteF K a k) ((List.range xs.length).zipWith (fun j x => D.tup [.int ((k + j : Nat) : Int), x]) xs) S ι := by
  intro i S1 ι1 h1 H1 hs hi hr
  have e1 : SqL K H1 a vs := SqL.up hr.sub (SqL.up hs e)
  refine ⟨fun z => ⟨vs, e1, by rw [← r.length]; simpa using z⟩, fun d ed => ?_⟩
  rw [enumF_at] at ed
  cases q : xs[i]? with
  | none => rw [q] at ed; cases ed
  | some x =>
    rw [q] at ed; cases ed
    obtain ⟨v, ev, rv⟩ := r.get q
    refine ⟨⟨vs, v, e1, ev⟩, fun y H' yl => ?_⟩
    obtain ⟨T, x', rfl, hT, rfl, y⟩ := yl
    have := y vs e1
    rw [ev] at this; cases this
    have ex := Ext.fz (o := .tup [.int ((k + i : Nat) : Int), v]) hr hT
    exact ⟨_, hr.fz hT, ex, .tup upd_same (.cons (.int _) (.cons ((rv.up hs hi).ext ex) .nil))⟩
theorem si_enumF (k : Nat) (ha : SE K mg W ta da) : SI K mg W (EnF.iEnumF K k (tCons ta (tCons (tC (.int k)) tNil))) (fun ρ h => (da ρ h).bind fun x h1 => match x with
    | .ref _ => .stuck
    | x => match seqOf h1 x with
      | some (xs, true) => .ok ((List.range xs.length).zipWith (fun j x => .tup [.int ((k + j : Nat) : Int), x]) xs) h1
      | _ => .stuck) := by
  intro ρ h S ι σ H R' r re hp
  refine ha ρ h S ι σ H _ r re (hp.bind.imp fun x h1 S1 ι1 H1 r1 ex1 p1 v rv => ?_)
  split at p1
  · exact False.elim p1
  · rename_i nr
    split at p1
    · rename_i xs e1
      obtain ⟨a, vs, rfl, rs, hl, ht⟩ := seq_fix r1 rv (fun n z => nr n z) e1
      exact ⟨a, vs, rfl, SqL.up r1.sub (hl rfl), p1 S1 ι1 H1 r1 Ext.refl _ (yields_enumF (hl rfl) rs)⟩
    · exact False.elim p1
end

theorem PI.weak {T : Type} {F : T → Cx} {tg e : Expr} {K : PySem.W.Frag} {mg : Str → Option Value} {W : WX} {di : Env → Hs → R (List D)} (h : ∀ t, ∃ wi, PI (F t) tg e wi ∧ SI K mg W wi di ∧ ∀ x, foldedSetIterable e (F t).env x = pure x) :
    ∃ wi, (∀ t, PI (F t) tg e wi) ∧ SI K mg W wi di ∧ ∀ t x, foldedSetIterable e (F t).env x = pure x := by
  refine ⟨fun σ H R => ∀ t, ∃ wi, PI (F t) tg e wi ∧ wi σ H R, fun t => ⟨fun pins s σ H R I q => ?_⟩, fun ρ h' S ι σ H R r re hp t => ?_, fun t x => ?_⟩
  · obtain ⟨wi, p, q⟩ := q t
    exact p.run pins s σ H R I q
  · obtain ⟨wi, p, q, _⟩ := h t
    exact ⟨wi, p, q ρ h' S ι σ H R r re hp⟩
  · obtain ⟨_, _, _, q⟩ := h t
    exact q x
/-! ### arity -/
def Exs.n : Exs → Nat
  | .nil => 0
  | .cons _ es => es.n + 1
theorem Exs.den_len (c : Cfg) : ∀ (es : Exs) (ρ : Env) (h : Hs) (ds : List D) (h' : Hs), es.den c ρ h = .ok ds h' → ds.length = es.n
  | .nil, ρ, h, ds, h', e => by
    cases e; rfl
  | .cons a as, ρ, h, ds, h', e => by
    replace e : ((a.den c ρ h).bind fun x h1 => (as.den c ρ h1).bind fun xs h2 => R.ok (x :: xs) h2) = .ok ds h' := e
    cases e1 : a.den c ρ h with
    | ok x h1 =>
      rw [e1] at e
      replace e : ((as.den c ρ h1).bind fun xs h2 => R.ok (x :: xs) h2) = .ok ds h' := e
      cases e2 : as.den c ρ h1 with
      | ok xs h2 =>
        rw [e2] at e
        replace e : R.ok (x :: xs) h2 = .ok ds h' := e
        cases e
        exact congrArg Nat.succ (Exs.den_len c as ρ h1 xs _ e2)
      | exc _ _ _ => rw [e2] at e; cases e
      | stuck => rw [e2] at e; cases e
    | exc _ _ _ => rw [e1] at e; cases e
    | stuck => rw [e1] at e; cases e
theorem Exs.ok_len {N : List Str} {bl : BL} {fl : List Str} {sc : Scope} : ∀ (es : Exs) (xs : List Expr), es.ok N bl fl sc xs = true → xs.length = es.n
  | .nil, xs, h => by
    unfold Exs.ok at h
    cases xs with
    | nil => rfl
    | cons _ _ => cases h
  | .cons a as, xs, h => by
    unfold Exs.ok at h
    cases xs with
    | nil => cases h
    | cons e r =>
      dsimp only at h
      rw [Bool.and_eq_true] at h
      exact congrArg Nat.succ (Exs.ok_len as r h.2)
def rngD (ds : List D) (h1 : Hs) : R (List D) := match ds with
  | [.int n] => if -(LN : Int) ≤ n ∧ n ≤ (LN : Int) then .ok ((List.range n.toNat).map fun k => .int (k : Nat)) h1 else .stuck
  | [.int a, .int b] => if -(LN : Int) ≤ a ∧ a ≤ (LN : Int) ∧ -(LN : Int) ≤ b ∧ b ≤ (LN : Int) then .ok ((List.range (b - a).toNat).map fun k => .int (a + (k : Nat))) h1 else .stuck
  | [.int a, .int b, .int s] => if s = -1 ∧ -(LN : Int) ≤ a ∧ a ≤ (LN : Int) ∧ -(LN : Int) ≤ b ∧ b ≤ (LN : Int) then .ok ((List.range (a - b).toNat).map fun k => .int (a - (k : Nat))) h1 else .stuck
  | _ => .stuck
theorem bind_congr {α β : Type} {x : R α} {f g : α → Hs → R β} (h : ∀ a h', x = .ok a h' → f a h' = g a h') : x.bind f = x.bind g := by
  cases x with
  | ok a h' => exact h a h' rfl
  | exc _ _ _ => rfl
  | stuck => rfl
section
variable {K : PySem.W.Frag} {mg : Str → Option Value} {W : WX} {tl : TA} {dl : Env → Hs → R (List D)}
theorem si_rng1 (hl : SA K mg W tl dl) (hn : ∀ ρ h ds h', dl ρ h = .ok ds h' → ds.length = 1) : SI K mg W (iRng1 tl) (fun ρ h => (dl ρ h).bind rngD) := by
  have e : (fun ρ h => (dl ρ h).bind rngD) = fun ρ h => (dl ρ h).bind fun ds h1 => match ds with
    | [.int n] => if -(LN : Int) ≤ n ∧ n ≤ (LN : Int) then .ok ((List.range n.toNat).map fun k => .int (k : Nat)) h1 else .stuck
    | _ => .stuck := by
    funext ρ h
    refine bind_congr fun ds h' e => ?_
    have := hn ρ h ds h' e
    match ds, this with
    | [d], _ => cases d <;> rfl
  rw [e]; exact si_range1 hl
theorem si_rng2 (hl : SA K mg W tl dl) (hn : ∀ ρ h ds h', dl ρ h = .ok ds h' → ds.length = 2) : SI K mg W (iRng2 tl) (fun ρ h => (dl ρ h).bind rngD) := by
  have e : (fun ρ h => (dl ρ h).bind rngD) = fun ρ h => (dl ρ h).bind fun ds h1 => match ds with
    | [.int a, .int b] => if -(LN : Int) ≤ a ∧ a ≤ (LN : Int) ∧ -(LN : Int) ≤ b ∧ b ≤ (LN : Int) then .ok ((List.range (b - a).toNat).map fun k => .int (a + (k : Nat))) h1 else .stuck
    | _ => .stuck := by
    funext ρ h
    refine bind_congr fun ds h' e => ?_
    have := hn ρ h ds h' e
    match ds, this with
    | [d, e], _ => cases d <;> cases e <;> rfl
  rw [e]; exact si_range2 hl
theorem si_rng3 (hl : SA K mg W tl dl) (hn : ∀ ρ h ds h', dl ρ h = .ok ds h' → ds.length = 3) : SI K mg W (iRng3 tl) (fun ρ h => (dl ρ h).bind rngD) := by
  have e : (fun ρ h => (dl ρ h).bind rngD) = fun ρ h => (dl ρ h).bind fun ds h1 => match ds with
    | [.int a, .int b, .int s] => if s = -1 ∧ -(LN : Int) ≤ a ∧ a ≤ (LN : Int) ∧ -(LN : Int) ≤ b ∧ b ≤ (LN : Int) then .ok ((List.range (a - b).toNat).map fun k => .int (a - (k : Nat))) h1 else .stuck
    | _ => .stuck := by
    funext ρ h
    refine bind_congr fun ds h' e => ?_
    have := hn ρ h ds h' e
    match ds, this with
    | [d, e, f], _ => cases d <;> cases e <;> cases f <;> rfl
  rw [e]; exact si_range3 hl
end
theorem cmpD_bl {o : COp} {x y : D} {h : Hs} {z : D} {h' : Hs} (e : cmpD o x y h = .ok z h') : ∃ b, z = .bl b := by
  unfold cmpD at e
  cases o <;> dsimp only at e
  all_goals first
    | (cases q : cmpD.inD x y h with
       | ok a h1 =>
         rw [q, R.bind_ok] at e
         cases a <;> first | (cases e; exact ⟨_, rfl⟩) | cases e
       | exc _ _ _ => rw [q] at e; cases e
       | stuck => rw [q] at e; cases e)
    | ((repeat' split at e) <;> first | (cases e; exact ⟨_, rfl⟩) | cases e)
theorem bind_ok {α β : Type} {x : R α} {f : α → Hs → R β} {b : β} {h : Hs} (e : x.bind f = .ok b h) : ∃ a h1, x = .ok a h1 ∧ f a h1 = .ok b h := by
  cases x with
  | ok a h1 => exact ⟨a, h1, rfl, e⟩
  | exc _ _ _ => cases e
  | stuck => cases e
end
end Ev
/-! Ev, part Jz: enumerate(zip(a, b)): what it yields. -/
namespace Ev
open PySem PySem.Spec PyProof.Rows L2
section
variable {K : PySem.W.Frag} {mg : Str → Option Value} {W : WX} {ta tb : TE} {da db : Env → Hs → R D}
theorem enumZ_at (xs : List D) (i : Nat) : ((List.range xs.length).zipWith (fun (k : Nat) x => D.tup [.int (k : Nat), x]) xs)[i]? = (xs[i]?).map fun x => D.tup [.int (i : Nat), x] := by
  rw [List.getElem?_zipWith]
  by_cases q : i < xs.length
  · rw [List.getElem?_range q, List.getElem?_eq_getElem q]; rfl
  · rw [List.getElem?_eq_none (by simpa using q), List.getElem?_eq_none (l := xs) (by omega)]; rfl
theorem yields_enumZ {κ : Addr → Bool} {S : Hp} {ι : List Addr} {ls : List Addr} {ys : List D} (y : Yields K (ZSt.ItS κ K ls) ys S ι) :
    Yields K (ZSt.ItE κ K ls) ((List.range ys.length).zipWith (fun (k : Nat) x => D.tup [.int (k : Nat), x]) ys) S ι := by
  intro i S1 ι1 h1 H1 hs hi hr
  obtain ⟨y1, y2⟩ := y i S1 ι1 h1 H1 hs hi hr
  refine ⟨fun z => y1 (by simpa using z), fun d ed => ?_⟩
  rw [enumZ_at] at ed
  cases q : ys[i]? with
  | none => rw [q] at ed; cases ed
  | some x =>
    rw [q] at ed; cases ed
    obtain ⟨g, yy⟩ := y2 x q
    refine ⟨g, fun v H' yl => ?_⟩
    obtain ⟨T, U, col, rfl, hT, hU, ne, rfl, hcl, hcol⟩ := yl
    obtain ⟨S2, hr2, ex, rv⟩ := yy (.ref T) (upd H1 T (.tup col)) ⟨T, col, rfl, hT, rfl, hcl, hcol⟩
    have hU2 : upd H1 T (.tup col) U = none := by rw [upd_ne (Ne.symm ne)]; exact hU
    have ex2 := Ext.fz (o := .tup [.int (i : Nat), .ref T]) hr2 hU2
    exact ⟨_, hr2.fz hU2, ex.trans ex2, .tup upd_same (.cons (.int _) (.cons (rv.ext ex2) .nil))⟩
theorem si_enumZ (ha : SE K mg W ta da) (hb : SE K mg W tb db) : SI K mg W (ZSt.iEnumZ K (tCons ta (tCons tb tNil))) (fun ρ h => (da ρ h).bind fun x h1 => (db ρ h1).bind fun y h2 => match x, y with
    | .ref _, _ => .stuck
    | _, .ref _ => .stuck
    | x, y => match seqOf h2 x, seqOf h2 y with
      | some (xs, _), some (ys, _) => if xs.length = ys.length then .ok ((List.range xs.length).map fun j => .tup [.int (j : Nat), .tup [xs.getD j .non, ys.getD j .non]]) h2 else .stuck
      | _, _ => .stuck) := by
  intro ρ h S ι σ H R' r re hp
  refine ha ρ h S ι σ H _ r re (hp.bind.imp fun x h1 S1 ι1 H1 r1 ex1 p1 v rv => ?_)
  refine hb ρ h1 S1 ι1 σ H1 _ r1 (re.ext ex1) (p1.bind.imp fun y h2 S2 ι2 H2 r2 ex2 p2 u ru => ?_)
  have rv := rv.ext ex2
  split at p2
  · exact False.elim p2
  · exact False.elim p2
  · rename_i nx ny
    split at p2
    · rename_i xs k ys k' e1 e2
      split at p2
      · rename_i el
        obtain ⟨a, vs, rfl, rs, hl, ht⟩ := seq_fix r2 rv (fun n z => nx n z) e1
        obtain ⟨b, us, rfl, ts, hl2, ht2⟩ := seq_fix r2 ru (fun n z => ny n z) e2
        refine ⟨a, b, vs, us, k, k', rfl, ?_, ?_, fun κ κa κb => ?_⟩
        · unfold ZSt.Kd
          cases k with
          | true => exact SqL.up r2.sub (hl rfl)
          | false => exact SqT.up r2.sub (ht rfl)
        · unfold ZSt.Kd
          cases k' with
          | true => exact SqL.up r2.sub (hl2 rfl)
          | false => exact SqT.up r2.sub (ht2 rfl)
        · have ka : ZSt.SqK κ K S2 a vs := by
            unfold ZSt.SqK; rw [κa]
            cases k with
            | true => exact hl rfl
            | false => exact ht rfl
          have kb : ZSt.SqK κ K S2 b us := by
            unfold ZSt.SqK; rw [κb]
            cases k' with
            | true => exact hl2 rfl
            | false => exact ht2 rfl
          have ec : colsD [xs, ys] = some ((List.range xs.length).map fun j => .tup [xs.getD j .non, ys.getD j .non]) := by
            show (if [ys].all (fun x => x.length == xs.length) && decide ([xs, ys].length ≤ 13) then some ((List.range xs.length).map fun j => D.tup ([xs, ys].map fun x => x.getD j .non)) else none) = _
            rw [if_pos (by simp [el])]; rfl
          obtain ⟨hy, _, _⟩ := yields_zipS (κ := κ) (K := K) (S := S2) (ι := ι2) (ls := [a, b]) (rows := [xs, ys]) rfl (fun k l r hk hr => by
            match k with
            | 0 => cases hk; cases hr; exact ⟨vs, ka, rs⟩
            | 1 => cases hk; cases hr; exact ⟨us, kb, ts⟩
            | k + 2 => simp at hk) ec
          have hz := yields_enumZ hy
          have e3 : ((List.range ((List.range xs.length).map fun j => D.tup [xs.getD j .non, ys.getD j .non]).length).zipWith (fun (k : Nat) x => D.tup [.int (k : Nat), x]) ((List.range xs.length).map fun j => D.tup [xs.getD j .non, ys.getD j .non])) =
              (List.range xs.length).map fun j => D.tup [.int (j : Nat), .tup [xs.getD j .non, ys.getD j .non]] := by
            apply List.ext_getElem?
            intro i
            rw [enumZ_at, List.getElem?_map, List.getElem?_map]
            by_cases q : i < xs.length
            · rw [List.getElem?_range q]; rfl
            · rw [List.getElem?_eq_none (by simpa using q)]; rfl
          rw [e3] at hz
          exact p2 S2 ι2 H2 r2 Ext.refl _ hz
      · exact False.elim p2
    · exact False.elim p2
end
end Ev
set_option maxHeartbeats 1000000
/-! Ev, part Jn: zip of several; the tree of a method's call. -/
namespace Ev
open PySem PySem.Spec PyProof.Rows L2
section
variable {K : PySem.W.Frag} {mg : Str → Option Value} {W : WX} {tl : TA} {dl : Env → Hs → R (List D)}
theorem seqs_fix {S : Hp} {ι : List Addr} {H : Hp} {h : Hs} (r : HRel K S ι h H) : ∀ {ds : List D} {vs : List V} {rows : List (List D)}, RVs K S ι ds vs → seqsOf h ds = some rows →
    ∃ ls : List Addr, vs = ls.map .ref ∧ ls.length = rows.length ∧ ∀ (k : Nat) (l : Addr) (x : List D), ls[k]? = some l → rows[k]? = some x → ∃ b us, ZSt.Kd b K S l us ∧ RVs K S ι x us
  | _, _, _, .nil, e => by
    cases e
    exact ⟨[], rfl, rfl, fun k l x z => by simp at z⟩
  | d :: ds, v :: vs, rows, .cons rv t, e => by
    have nr : ∀ n, d ≠ .ref n := fun n z => by subst z; cases e
    have e' : (match seqOf h d, seqsOf h ds with | some (xs, _), some r => some (xs :: r) | _, _ => none) = some rows := by
      cases d with
      | ref n => exact absurd rfl (nr n)
      | _ => exact e
    split at e'
    · rename_i xs b r' e1 e2
      cases e'
      obtain ⟨a, us, rfl, rs, hl, ht⟩ := seq_fix r rv nr e1
      obtain ⟨ls, q1, q2, q3⟩ := seqs_fix r t e2
      refine ⟨a :: ls, by rw [List.map_cons, q1], by rw [List.length_cons, List.length_cons, q2], fun k l x hk hx => ?_⟩
      cases k with
      | zero =>
        simp at hk hx
        subst hk hx
        refine ⟨b, us, ?_, rs⟩
        unfold ZSt.Kd
        cases b with
        | true => exact hl rfl
        | false => exact ht rfl
      | succ k => exact q3 k l x (by simpa using hk) (by simpa using hx)
    · cases e'
theorem Kd_up {S S' : Hp} (hs : Sub S S') {b : Bool} {a : Addr} {us : List V} (k : ZSt.Kd b K S a us) : ZSt.Kd b K S' a us := by
  unfold ZSt.Kd at *
  cases b with
  | true => exact SqL.up hs k
  | false => exact SqT.up hs k
theorem si_zipN (hl : SA K mg W tl dl) : SI K mg W (ZSt.iZipN K tl) (fun ρ h => (dl ρ h).bind fun ds h1 => match (seqsOf h1 ds).bind colsD with
    | some ys => .ok ys h1
    | none => .stuck) := by
  intro ρ h S ι σ H R' r re hp
  refine hl ρ h S ι σ H _ r re (hp.bind.imp fun ds h1 S1 ι1 H1 r1 ex1 p1 vs rs => ?_)
  split at p1
  · rename_i ys e
    obtain ⟨rows, er, ec⟩ := Option.bind_eq_some_iff.mp e
    obtain ⟨ls, rfl, ll, hk⟩ := seqs_fix r1 rs er
    have at' : ∀ l ∈ ls, ∃ b us, ZSt.Kd b K S1 l us := fun l hm => by
      obtain ⟨k, hk1⟩ := List.mem_iff_getElem?.mp hm
      have kl := (List.getElem?_eq_some_iff.mp hk1).1
      obtain ⟨b, us, q, _⟩ := hk k l _ hk1 (List.getElem?_eq_getElem (by omega))
      exact ⟨b, us, q⟩
    have bounds : 0 < rows.length ∧ rows.length ≤ 13 := by
      cases rows with
      | nil => cases ec
      | cons x xs =>
        unfold colsD at ec
        dsimp only at ec
        split at ec
        · rename_i hb
          rw [Bool.and_eq_true, decide_eq_true_eq] at hb
          exact ⟨by simp, hb.2⟩
        · cases ec
    refine ⟨ls, rfl, by omega, by omega, fun l hm => ?_, fun κ hκ => ?_⟩
    · obtain ⟨b, us, q⟩ := at' l hm
      exact ⟨b, us, Kd_up r1.sub q⟩
    · obtain ⟨hy, _, _⟩ := yields_zipS (κ := κ) (K := K) (S := S1) (ι := ι1) (ls := ls) (rows := rows) ll (fun k l x hk1 hx => by
        obtain ⟨b, us, q, ru⟩ := hk k l x hk1 hx
        refine ⟨us, ?_, ru⟩
        have e1 := hκ l (List.mem_of_getElem? hk1) b us (Kd_up r1.sub q)
        unfold ZSt.SqK
        rw [e1]
        exact q) ec
      exact p1 S1 ι1 H1 r1 Ext.refl _ hy
  · exact False.elim p1
end
theorem tree_meth {o : Expr} {m : Str} {apos pos : Pos} {args : List Expr} {env : PySem.Env} (hb : attributeBase o m env (eval o env) = eval o env)
    (hf : ((backTo pos (starEach args env)).all (fun x => !x.1) && (backToKw pos (keywordEach [] env)).all (fun x => x.1.isSome) && decide (args.length + ([] : List Keyword).length + (if ([] : List Keyword).isEmpty then 0 else 1) < 30)) = true) (hl : (apos.endLine == pos.line) = true) :
    eval (.Call (.Attribute o m apos) args [] pos) env = (do
      let ov ← eval o env
      standAt apos.atName
      let (f, first) ← holding [ov] (getMethod ov m (do return (← importBound o env).getD true))
      callWith pos f first (backTo pos (starEach args env)) (backToKw pos (keywordEach [] env))) := by
  have hform : methodCallForm (args.length + ([] : List Keyword).length) (backTo pos (starEach args env)) (backToKw pos (keywordEach [] env)) = true := hf
  have hpos : methodCallPos true o env apos pos = pure pos := by unfold methodCallPos; simp [hl]
  rw [arm_eval_Call, hb]
  unfold methodCall
  rw [hform, hpos]
  unfold calleeOf
  simp only [if_true, pure_bind]
theorem lkp_mem {α : Type} {x : Str} {y : α} : ∀ {l : List (Str × α)}, l.lookup x = some y → (x, y) ∈ l
  | [], h => nomatch h
  | (k, v) :: l, h => by
    rw [List.lookup_cons] at h
    by_cases e : x = k
    · subst e; simp at h; subst h; exact List.mem_cons_self
    · rw [show (x == k) = false from by simpa using e] at h
      exact List.mem_cons_of_mem _ (lkp_mem h)
end Ev
set_option maxHeartbeats 1000000
/-! Ev, part K: the denotation of expressions is sound: the induction. -/
namespace Ev
open PySem PySem.Spec PyProof.Rows L2

theorem prim_boot (p : Prim) : match p.isTy with | some t => p.val = .type t ∧ bootBuiltins p.nm = some (.type t) | none => ∃ id, p.val = .builtin id ∧ bootBuiltins p.nm = some (.builtin id) := by
  cases p <;> first
    | exact ⟨rfl, by decide +kernel⟩
    | exact ⟨_, rfl, by decide +kernel⟩
    | exact ⟨_, rfl, show bootBuiltins "isinstance" = _ by decide +kernel⟩
theorem prim_name (p : Prim) : p.nm ≠ "__name__" := by
  cases p <;> first | decide | exact show ("isinstance" : Str) ≠ "__name__" by decide
theorem prim_dbg (p : Prim) : (p.nm == ("__debug__" : Str)) = false := by
  cases p <;> first | decide | exact show (("isinstance" : Str) == ("__debug__" : Str)) = false by decide
theorem isa_boot {t : String} (h : t = "tuple" ∨ t = "list" ∨ t = "bool" ∨ t = "int" ∨ t = "str") : bootBuiltins (Str.ofString t) = some (.type t) ∧ Str.ofString t ≠ "__name__" := by
  rcases h with rfl | rfl | rfl | rfl | rfl <;> exact ⟨by decide +kernel, by decide⟩
/-- a built-in called -/
theorem pe_prim {X : Cx} {p : Prim} {x : Str} {px pos : Pos} {e : Expr} {es : List Expr} {tl : TA} {r : List V → Hp → VK → Prop} (hr : CallR X p.val r) (hx : x = p.nm) (hg : Gl X x) (hm : X.mg x = none) (ha : PA X (e :: es) tl) (hs : (e :: es).all notStar = true) :
    PE X (.Call (.Name x px) (e :: es) [] pos) (tCB r tl) := by
  subst hx
  rw [List.all_cons, Bool.and_eq_true] at hs
  have hb := prim_boot p
  cases q : p.isTy with
  | some t =>
    rw [q] at hb
    obtain ⟨e1, e2⟩ := hb
    rw [e1] at hr
    exact pe_callTy hr hg hm e2 ha (prim_name p) (prim_dbg p) (starOf hs.1) (back_of pos es hs.2)
  | none =>
    rw [q] at hb
    obtain ⟨id, e1, e2⟩ := hb
    rw [e1] at hr
    exact pe_callB hr hg hm e2 ha (prim_name p) (prim_dbg p) (starOf hs.1) (back_of pos es hs.2)
theorem ok_stars {N : List Str} {bl : BL} {fl : List Str} {sc : Scope} : ∀ (es : Exs) (xs : List Expr), es.ok N bl fl sc xs = true → xs.all notStar = true
  | .nil, xs, h => by
    unfold Exs.ok at h
    cases xs with
    | nil => rfl
    | cons _ _ => cases h
  | .cons a as, xs, h => by
    unfold Exs.ok at h
    cases xs with
    | nil => cases h
    | cons e r =>
      dsimp only at h
      rw [Bool.and_eq_true, Bool.and_eq_true] at h
      rw [List.all_cons, Bool.and_eq_true]
      exact ⟨h.1.2, ok_stars as r h.2⟩

theorem base_of {o : Expr} {nm : Str} {env : PySem.Env} {whole : Sem Value} (h : plainB o = true) : attributeBase o nm env whole = whole := by
  unfold attributeBase
  cases o <;> try rfl
  rename_i f args kws pos
  cases f <;> try rfl
  cases args <;> try rfl
  cases kws <;> try rfl
  cases h
theorem few_of {env : PySem.Env} {cpos : Pos} {xs : List Expr} (hs : xs.all notStar = true) (hl : xs.length < 9) : ((backTo cpos (starEach xs env)).all (fun x => !x.1) && (backToKw cpos (keywordEach [] env)).all (fun x => x.1.isSome)
      && decide (xs.length + ([] : List Keyword).length + (if ([] : List Keyword).isEmpty then 0 else 1) < 30)) = true := by
  have h1 : (backTo cpos (starEach xs env)).all (fun x => !x.1) = true := by
    induction xs with
    | nil => rfl
    | cons e es ih =>
      rw [List.all_cons, Bool.and_eq_true] at hs
      rw [starOf hs.1]
      show ((!false) && (backTo cpos (starEach es env)).all (fun x => !x.1)) = true
      rw [ih hs.2 (by simp at hl; omega)]; rfl
  rw [h1]
  simp [backToKw, keywordEach]
  omega
theorem Itx.fset {N : List Str} {bl : BL} {fl : List Str} {sc : Scope} {tg e : Expr} : ∀ (it : Itx), it.ok N bl fl sc tg e = true → ∀ env x, foldedSetIterable e env x = pure x := by
  intro it h env x
  cases it with
  | seq a =>
    unfold Itx.ok at h
    rw [Bool.and_eq_true] at h
    exact set_of h.2 x
  | _ =>
    unfold Itx.ok at h
    split at h <;> first | rfl | cases h
theorem PE.or {X : Cx} {e : Expr} {t1 t2 : TE} (h1 : PE X e t1) (h2 : PE X e t2) : PE X e (fun σ H Q => t1 σ H Q ∨ t2 σ H Q) :=
  ⟨fun pins s σ H Q I q => q.elim (fun z => h1.run pins s σ H Q I z) (fun z => h2.run pins s σ H Q I z)⟩
theorem ty_or {t : String} (h : (t == "tuple" || t == "list" || t == "bool" || t == "int" || t == "str") = true) : t = "tuple" ∨ t = "list" ∨ t = "bool" ∨ t = "int" ∨ t = "str" := by
  simp only [Bool.or_eq_true, beq_iff_eq] at h
  rcases h with (((k | k) | k) | k) | k
  · exact .inl k
  · exact .inr (.inl k)
  · exact .inr (.inr (.inl k))
  · exact .inr (.inr (.inr (.inl k)))
  · exact .inr (.inr (.inr (.inr k)))
theorem ks_len {N : List Str} {bl : BL} {fl : List Str} {sc : Scope} : ∀ (ps : Pxs) (ks : List (Option Expr)) (vs : List Expr), ps.ok N bl fl sc ks vs = true → ks.all (·.isSome) = true ∧ ks.length = vs.length
  | .nil, ks, vs, h => by
    unfold Pxs.ok at h
    rw [Bool.and_eq_true] at h
    cases ks with
    | nil => cases vs with
      | nil => exact ⟨rfl, rfl⟩
      | cons _ _ => cases h.2
    | cons _ _ => cases h.1
  | .cons k v r, ks, vs, h => by
    unfold Pxs.ok at h
    split at h
    · simp only [Bool.and_eq_true] at h
      obtain ⟨q1, q2⟩ := ks_len r _ _ h.2
      exact ⟨by rw [List.all_cons, q1]; rfl, by rw [List.length_cons, List.length_cons, q2]⟩
    · cases h
mutual
theorem Ex.sound {c : Cfg} {bl : BL} {fl : List Str} : ∀ (ex : Ex) (X : Cx) (W : WX) (G : Good c bl fl X) (tk : Takes X W) (e : Expr), ex.ok X.N bl fl X.env.scope e = true → ∃ t, PE X e t ∧ SE X.K X.mg W t (ex.den c)
  | .var i, X, W, G, tk, e, h => by
    unfold Ex.ok at h
    split at h
    · simp only [Bool.and_eq_true, decide_eq_true_eq] at h
      exact ⟨_, pe_var h.1.1 (vis_of h.1.2) (dbg1 h.2) (dbg2 h.2), se_var i⟩
    · cases h
  | .glob y, X, W, G, tk, e, h => by
    unfold Ex.ok at h
    split at h
    · simp only [Bool.and_eq_true, decide_eq_true_eq] at h
      obtain ⟨⟨rfl, h2⟩, h3⟩ := h
      rename_i x _
      cases q : c.gl x with
      | none =>
        refine ⟨fun _ _ _ => False, ⟨fun _ _ _ _ _ _ z => False.elim z⟩, ?_⟩
        have : (Ex.glob x).den c = fun _ _ => .stuck := by funext ρ h; show (match c.gl x with | some d => R.ok d h | none => R.stuck) = _; rw [q]
        rw [this]; exact se_stuck
      | some d =>
        obtain ⟨v, u, h4, h5, h6⟩ := G.gl x d q
        refine ⟨_, pe_glob (gl_of h2) h4 h5 (dbg1 h3), ?_⟩
        have : (Ex.glob x).den c = fun _ h => .ok d h := by funext ρ h; show (match c.gl x with | some d => R.ok d h | none => R.stuck) = _; rw [q]
        rw [this]; exact se_const h6
    · cases h
  | .cint i, X, W, G, tk, e, h => by
    unfold Ex.ok at h
    split at h
    · have := of_decide_eq_true h; subst this
      exact ⟨_, pe_int, se_const fun _ _ => .int _⟩
    · cases h
  | .cbl b, X, W, G, tk, e, h => by
    unfold Ex.ok at h
    split at h
    · have := of_decide_eq_true h; subst this
      exact ⟨_, pe_bl, se_const fun _ _ => .bl _⟩
    · cases h
  | .cnon, X, W, G, tk, e, h => by
    unfold Ex.ok at h
    split at h
    · exact ⟨_, pe_non, se_const fun _ _ => .non⟩
    · cases h
  | .cstr s, X, W, G, tk, e, h => by
    unfold Ex.ok at h
    split at h
    · have := of_decide_eq_true h; subst this
      exact ⟨_, pe_str, se_const fun _ _ => .str _⟩
    · cases h
  | .bin o fz a b, X, W, G, tk, e, h => by
    unfold Ex.ok at h
    split at h
    · simp only [Bool.and_eq_true, decide_eq_true_eq] at h
      obtain ⟨⟨rfl, h2⟩, h3⟩ := h
      obtain ⟨ta, p1, q1⟩ := Ex.sound a X W G tk _ h2
      obtain ⟨tb, p2, q2⟩ := Ex.sound b X W G tk _ h3
      exact ⟨_, pe_op (bin_op o) p1 p2, se_bin o fz q1 q2⟩
    · cases h
  | .neg a, X, W, G, tk, e, h => by
    unfold Ex.ok at h
    split at h
    · obtain ⟨ta, p1, q1⟩ := Ex.sound a X W G tk _ h
      exact ⟨_, pe_un un_neg p1, se_neg q1⟩
    · cases h
  | .cmp o a b, X, W, G, tk, e, h => by
    unfold Ex.ok at h
    split at h
    · simp only [Bool.and_eq_true, decide_eq_true_eq, Bool.not_eq_true'] at h
      obtain ⟨⟨⟨rfl, h2⟩, h3⟩, h4⟩ := h
      obtain ⟨ta, p1, q1⟩ := Ex.sound a X W G tk _ h2
      obtain ⟨tb, p2, q2⟩ := Ex.sound b X W G tk _ h3
      exact ⟨_, pe_cmpR (cmp_op G.un o) p1 p2 h4, se_cmp o q1 q2⟩
    · cases h
  | .chain o o' a b d, X, W, G, tk, e, h => by
    unfold Ex.ok at h
    split at h
    · simp only [Bool.and_eq_true, decide_eq_true_eq, Bool.not_eq_true'] at h
      obtain ⟨⟨⟨⟨⟨rfl, rfl⟩, h2⟩, h3⟩, h4⟩, h5⟩ := h
      obtain ⟨ta, p1, q1⟩ := Ex.sound a X W G tk _ h2
      obtain ⟨tb, p2, q2⟩ := Ex.sound b X W G tk _ h3
      obtain ⟨td, p3, q3⟩ := Ex.sound d X W G tk _ h4
      exact ⟨_, pe_chain (cmp_op G.un o) (cmp_op G.un o') p1 p2 p3 h5, se_chain o o' q1 q2 q3⟩
    · cases h
  | .and a b, X, W, G, tk, e, h => by
    unfold Ex.ok at h
    split at h
    · rw [Bool.and_eq_true] at h
      obtain ⟨h1, h2⟩ := h
      obtain ⟨ta, p1, q1⟩ := Ex.sound a X W G tk _ h1
      split at h2
      · obtain ⟨tb, p2, q2⟩ := Ex.sound b X W G tk _ h2
        exact ⟨_, pe_and p1 (pe_one p2), se_and q1 q2⟩
      · obtain ⟨tb, p2, q2⟩ := Ex.sound b X W G tk _ h2
        exact ⟨_, pe_and p1 p2, se_and q1 q2⟩
    · cases h
  | .or a b, X, W, G, tk, e, h => by
    unfold Ex.ok at h
    split at h
    · rw [Bool.and_eq_true] at h
      obtain ⟨h1, h2⟩ := h
      obtain ⟨ta, p1, q1⟩ := Ex.sound a X W G tk _ h1
      split at h2
      · obtain ⟨tb, p2, q2⟩ := Ex.sound b X W G tk _ h2
        exact ⟨_, pe_or p1 (pe_one p2), se_or q1 q2⟩
      · obtain ⟨tb, p2, q2⟩ := Ex.sound b X W G tk _ h2
        exact ⟨_, pe_or p1 p2, se_or q1 q2⟩
    · cases h
  | .not a, X, W, G, tk, e, h => by
    unfold Ex.ok at h
    split at h
    · obtain ⟨ta, p1, q1⟩ := Ex.sound a X W G tk _ h
      exact ⟨_, pe_not p1, se_not q1⟩
    · cases h
  | .ite t a b, X, W, G, tk, e, h => by
    unfold Ex.ok at h
    split at h
    · simp only [Bool.and_eq_true] at h
      obtain ⟨⟨h1, h2⟩, h3⟩ := h
      obtain ⟨tt, p0, _, q0⟩ := Ex.soundT t X W G tk _ h1
      obtain ⟨ta, p1, q1⟩ := Ex.sound a X W G tk _ h2
      obtain ⟨tb, p2, q2⟩ := Ex.sound b X W G tk _ h3
      exact ⟨_, pe_ifExp p0 p1 p2, se_ite q0 q1 q2⟩
    · cases h
  | .tup es, X, W, G, tk, e, h => by
    unfold Ex.ok at h
    split at h
    · obtain ⟨tl, p1, q1⟩ := Exs.sound es X W G tk _ h
      exact ⟨_, pe_tup p1, se_tup q1⟩
    · cases h
  | .lst fz es, X, W, G, tk, e, h => by
    unfold Ex.ok at h
    split at h
    · obtain ⟨tl, p1, q1⟩ := Exs.sound es X W G tk _ h
      exact ⟨_, pe_lst p1, se_lst fz q1⟩
    · cases h
  | .idx a i, X, W, G, tk, e, h => by
    unfold Ex.ok at h
    split at h
    · simp only [Bool.and_eq_true] at h
      obtain ⟨⟨h1, h2⟩, h3⟩ := h
      obtain ⟨ta, p1, q1⟩ := Ex.sound a X W G tk _ h1
      obtain ⟨tb, p2, q2⟩ := Ex.sound i X W G tk _ h2
      exact ⟨_, pe_ix (idx_ix (by have := G.un; omega)) p1 p2 (ix_of h3), se_idx q1 q2⟩
    · cases h
  | .slice fz a lo hi, X, W, G, tk, e, h => by
    unfold Ex.ok at h
    split at h
    · simp only [Bool.and_eq_true] at h
      obtain ⟨⟨h1, h2⟩, h3⟩ := h
      obtain ⟨ta, p1, q1⟩ := Ex.sound a X W G tk _ h1
      obtain ⟨tl, p2, q2⟩ := Exs.soundO lo X W G tk _ h2
      obtain ⟨th, p3, q3⟩ := Exs.soundO hi X W G tk _ h3
      exact ⟨_, pe_slice sl_all p1 p2 p3, se_slice fz q1 q2 q3⟩
    · cases h
  | .call f es, X, W, G, tk, e, h => by
    unfold Ex.ok at h
    split at h
    · simp only [Bool.and_eq_true, decide_eq_true_eq] at h
      obtain ⟨⟨⟨⟨⟨h1, h2⟩, h3⟩, h4⟩, h5⟩, h6⟩ := h
      rename_i x _ xs _
      obtain ⟨a, fd, ps, k, F, hst, hr, hm, hk, hb, _⟩ := G.fns f x h1 (by simpa using h6)
      obtain ⟨tl, p1, q1⟩ := Exs.sound es X W G tk _ h4
      have hs := ok_stars es xs h4
      cases xs with
      | nil => cases h5
      | cons e0 r0 =>
        rw [List.all_cons, Bool.and_eq_true] at hs
        exact ⟨_, pe_callG F hr G.gd (gl_of h2) hm hk hb (fun σ => passAt tk σ) p1 (dbg1 h3) (starOf hs.1) (back_of _ r0 hs.2), se_call q1 hst⟩
    · cases h
  | .prim p fz es, X, W, G, tk, e, h => by
    unfold Ex.ok at h
    split at h
    · simp only [Bool.and_eq_true, decide_eq_true_eq] at h
      obtain ⟨⟨⟨⟨h0, h1⟩, h2⟩, h3⟩, h4⟩ := h
      split at h4
      · rename_i t
        split at h4
        · rename_i a y z pz
          simp only [Bool.and_eq_true, decide_eq_true_eq] at h4
          obtain ⟨⟨⟨⟨⟨⟨k0, k1⟩, k2⟩, k3⟩, k4⟩, k5⟩, k6⟩ := h4
          obtain ⟨ta, p1, q1⟩ := Ex.sound a X W G tk _ k1
          have ht : t = "tuple" ∨ t = "list" ∨ t = "bool" ∨ t = "int" ∨ t = "str" := by
            simp only [Bool.or_eq_true, beq_iff_eq] at k0
            rcases k0 with (((k | k) | k) | k) | k
            · exact .inl k
            · exact .inr (.inl k)
            · exact .inr (.inr (.inl k))
            · exact .inr (.inr (.inr (.inl k)))
            · exact .inr (.inr (.inr (.inr k)))
          obtain ⟨b1, b2⟩ := isa_boot ht
          have pz' : PE X (.Name z pz) (tC (.ty t)) := pe_bltn (gl_of k5) (G.blt z k4) (by rw [k3]; exact b1) rfl (by rw [k3]; exact b2) (dbg1 k6)
          have pa : PA X [y, .Name z pz] (tCons ta (tCons (tC (.ty t)) tNil)) := pa_cons p1 (pa_cons pz' pa_nil) (starOf k2)
          exact ⟨_, pe_prim (p := .isinst t) call_isi h0 (gl_of h2) (G.blt _ h1) pa (by rw [List.all_cons, k2]; rfl), se_isinst q1⟩
        · cases h4
      · rename_i np
        simp only [Bool.and_eq_true] at h4
        obtain ⟨tl, p1, q1⟩ := Exs.sound es X W G tk _ h4.1
        rename_i xs _ _
        have hs := ok_stars es _ h4.1
        cases xs with
        | nil => cases h4.2
        | cons e0 r0 => exact ⟨_, pe_prim (prim_call G.calm G.gd G.un p) h0 (gl_of h2) (G.blt _ h1) p1 hs, se_prim (fun t z => np t z) q1⟩
    · cases h
  | .lrange fz a, X, W, G, tk, e, h => by
    unfold Ex.ok at h
    split at h
    · simp only [Bool.and_eq_true, decide_eq_true_eq] at h
      obtain ⟨⟨⟨⟨⟨⟨⟨rfl, rfl⟩, h2⟩, h3⟩, h4⟩, h5⟩, h6⟩, h7⟩ := h
      obtain ⟨ta, p1, q1⟩ := Ex.sound a X W G tk _ h6
      exact ⟨_, pe_listRg G.calm (gl_of h4) (G.blt _ h2) (prg_1 (gl_of h5) (G.blt _ h3) p1 (star1 h7)), se_lrange fz q1⟩
    · cases h
  | .lc fz own tg it cond elt, X, W, G, tk, e, h => by
    unfold Ex.ok at h
    split at h
    · simp only [Bool.and_eq_true, decide_eq_true_eq] at h
      obtain ⟨⟨⟨⟨⟨rfl, h1⟩, h2⟩, h3⟩, h4⟩, h5⟩ := h
      rename_i x t i ifs scope pos
      have hk : BlkOk X.N X.env.scope scope own := blkOk_by h2
      obtain ⟨wi, p1, q1, s1⟩ := Itx.sound it X W G tk t i h1
      have GB : ∀ z : Shared × Hp × Addr × List (Str × Addr) × List Addr, Good c bl fl (X.blk z.1 z.2.1 scope (compEnvC scope z.2.2.2.1 z.2.2.1 X.env) z.2.2.2.2) := fun z => G.blk hk.kind
      obtain ⟨te, p5, q5⟩ := PE.weak (T := Shared × Hp × Addr × List (Str × Addr) × List Addr) (F := fun z => X.blk z.1 z.2.1 scope (compEnvC scope z.2.2.2.1 z.2.2.1 X.env) z.2.2.2.2) (e := x) (K := X.K) (mg := X.mg) (W := fun _ _ _ _ => False) (de := elt.den c)
        fun z => Ex.sound elt _ (fun _ _ _ _ => False) (GB z) takes0 x h5
      obtain ⟨tt, p4, q4⟩ := PTs.weak (T := Shared × Hp × Addr × List (Str × Addr) × List Addr) (F := fun z => X.blk z.1 z.2.1 scope (compEnvC scope z.2.2.2.1 z.2.2.1 X.env) z.2.2.2.2) (es := ifs) (K := X.K) (mg := X.mg) (W := fun _ _ _ _ => False) (de := cond.tsts c)
        fun z => Exs.soundC cond _ (fun _ _ _ _ => False) (GB z) takes0 ifs h4
      refine ⟨_, pe_lc G.calm G.nd p1 hk (g := tg.g X.K) (fun s H C cl fp => ?_) (fun s H C cl fp => p4 (s, H, C, cl, fp)) (fun s H C cl fp => p5 (s, H, C, cl, fp)) s1, ?_⟩
      · exact Tg.pg (X := X.blk s H scope (compEnvC scope cl C X.env) fp) (vs := List.map Prod.snd own) G.calm G.nd tg t h3
      · exact lc_sound q1 (Tg.sg tg (Tg.plain_of tg t h3)) (own_of h3) q4 q5
    · cases h
  | .attr k a f, X, W, G, tk, e, h => by
    unfold Ex.ok at h
    split at h
    · simp only [Bool.and_eq_true, decide_eq_true_eq] at h
      obtain ⟨⟨⟨rfl, h1⟩, h2⟩, h3⟩ := h
      obtain ⟨ta, p1, q1⟩ := Ex.sound a X W G tk _ h2
      obtain ⟨k1, k2⟩ := G.ats k _ h1
      exact ⟨_, pe_fld p1 (base_of h3), se_attr k1 k2 q1⟩
    · cases h
  | .mcall i k m a es, X, W, G, tk, e, h => by
    unfold Ex.ok at h
    split at h
    · rename_i o mm ap xs cp
      simp only [Bool.and_eq_true, decide_eq_true_eq] at h
      obtain ⟨⟨⟨⟨⟨⟨rfl, h0⟩, h1⟩, h2⟩, h3⟩, h4⟩, h5⟩ := h
      obtain ⟨at', fd, ps, lv, F, hst, hr, hb, hc, hm, _⟩ := G.mes i k _ h0
      obtain ⟨ta, p1, q1⟩ := Ex.sound a X W G tk _ h1
      obtain ⟨tl, p2, q2⟩ := Exs.sound es X W G tk _ h2
      have hs := ok_stars es _ h2
      have hn := Exs.ok_len es _ h2
      cases xs with
      | nil =>
        cases es with
        | cons _ _ => cases hn
        | nil => exact ⟨_, pe_methG0 p1 hc hm F hr G.gd hb (fun σ => passAt tk σ) (tree_meth (base_of h4) rfl h3), se_mcall (dl := fun _ h => .ok [] h) hst q1 sa_nil⟩
      | cons x0 r0 =>
        have hs' := hs
        rw [List.all_cons, Bool.and_eq_true] at hs
        exact ⟨_, pe_methG p1 hc hm F hr G.gd hb (fun σ => passAt tk σ) p2 (starOf hs.1) (back_of _ r0 hs.2) (tree_meth (base_of h4) (few_of hs' h5) h3), se_mcall hst q1 q2⟩
    · cases h
  | .make i k es, X, W, G, tk, e, h => by
    unfold Ex.ok at h
    split at h
    · rename_i nx npos xs cpos
      simp only [Bool.and_eq_true, decide_eq_true_eq] at h
      obtain ⟨⟨⟨⟨⟨rfl, h0⟩, h2⟩, h3⟩, h4⟩, h5⟩ := h
      obtain ⟨at', fd, ps, lv, F, hst, _, hb, _, _, hi⟩ := G.mes i _ _ h0
      obtain ⟨M, hm, hr⟩ := hi rfl
      obtain ⟨tl, p1, q1⟩ := Exs.sound es X W G tk _ h4
      have hs := ok_stars es xs h4
      cases xs with
      | nil => cases h5
      | cons e0 r0 =>
        rw [List.all_cons, Bool.and_eq_true] at hs
        exact ⟨_, pe_makeG M F hr G.gd (gl_of h2) hm hb (fun σ => passAt tk σ) p1 (dbg1 h3) (starOf hs.1) (back_of _ r0 hs.2), se_make hst q1⟩
    · cases h
  | .callV i cs es, X, W, G, tk, e, h => by
    unfold Ex.ok at h
    split at h
    · simp only [Bool.and_eq_true, decide_eq_true_eq] at h
      obtain ⟨⟨⟨⟨⟨h1, h2⟩, h3⟩, h4⟩, h5⟩, h6⟩ := h
      obtain ⟨tl, p1, q1⟩ := Exs.sound es X W G tk _ h4
      rename_i x px xs pos
      have hs := ok_stars es xs h4
      refine ⟨fun σ H Q => ∃ te, PE X (.Call (.Name x px) xs [] pos) te ∧ te σ H Q, ⟨fun pins s σ H Q I ⟨te, p, q⟩ => p.run pins s σ H Q I q⟩, ?_⟩
      intro ρ hh S ι σ H Q r re hp
      replace hp : PostG X.K X.mg W S ι H σ (KQ X.K Q) (match ρ[i]? with
        | some (some (.fn x)) => match cs.lookup x with
          | some j => (es.den c ρ hh).bind fun ds h1 => c.Γ j ds h1
          | none => .stuck
        | _ => .stuck) := hp
      split at hp
      · rename_i y ei
        split at hp
        · rename_i j el
          have hj := List.all_eq_true.mp h6 _ (lkp_mem el)
          rw [Bool.and_eq_true, decide_eq_true_eq] at hj
          obtain ⟨a, fd, ps, k, F, hst, hr, hm, hk, hb, ha⟩ := G.fns j y hj.1 (by simpa using hj.2)
          subst ha
          cases xs with
          | nil => cases h5
          | cons e0 r0 =>
            rw [List.all_cons, Bool.and_eq_true] at hs
            exact ⟨_, pe_callVG F hr G.gd h1 (vis_of h2) hk hb (fun σ => passAt tk σ) p1 (dbg1 h3) (dbg2 h3) (starOf hs.1) (back_of _ r0 hs.2), se_callV hst q1 r re ei hp⟩
        · exact False.elim hp
      · exact False.elim hp
    · cases h
  | .fnv y, X, W, G, tk, e, h => by
    unfold Ex.ok at h
    split at h
    · simp only [Bool.and_eq_true, decide_eq_true_eq] at h
      obtain ⟨⟨⟨rfl, h2⟩, h3⟩, h4⟩ := h
      obtain ⟨j, _, hj⟩ := List.any_eq_true.mp h4
      rw [Bool.and_eq_true, decide_eq_true_eq] at hj
      obtain ⟨a, fd, ps, k, F, hst, hr, hm, hk, hb, ha⟩ := G.fns j _ hj.1 (by simpa using hj.2)
      subst ha
      exact ⟨_, pe_glob (gl_of h2) hm (show RelV (.ref _) (.ref _) from rfl) (dbg1 h3), se_const fun _ _ => .fn _⟩
    · cases h
  | .lrange2 fz a b, X, W, G, tk, e, h => by
    unfold Ex.ok at h
    split at h
    · simp only [Bool.and_eq_true, decide_eq_true_eq] at h
      obtain ⟨⟨⟨⟨⟨⟨⟨⟨⟨rfl, rfl⟩, h2⟩, h3⟩, h4⟩, h5⟩, h6⟩, h7⟩, h8⟩, h9⟩ := h
      obtain ⟨ta, p1, q1⟩ := Ex.sound a X W G tk _ h6
      obtain ⟨tb, p2, q2⟩ := Ex.sound b X W G tk _ h8
      exact ⟨_, pe_listRg G.calm (gl_of h4) (G.blt _ h2) (prg_2 (gl_of h5) (G.blt _ h3) p1 p2 (starOf h7) (starOf h9) (back_of _ [_] (by rw [List.all_cons, h9]; rfl))), se_lrange2 fz q1 q2⟩
    · cases h
  | .isin2 t u a, X, W, G, tk, e, h => by
    unfold Ex.ok at h
    split at h
    · simp only [Bool.and_eq_true, decide_eq_true_eq] at h
      obtain ⟨⟨⟨⟨⟨⟨⟨⟨⟨⟨⟨⟨⟨⟨h0, h1⟩, h2⟩, kt⟩, ku⟩, k1⟩, k2⟩, k3⟩, k4⟩, k5⟩, k6⟩, k7⟩, k8⟩, k9⟩, k10⟩ := h
      obtain ⟨ta, p1, q1⟩ := Ex.sound a X W G tk _ k1
      rename_i x px y z pz z' pz' kk tpos pos
      obtain ⟨b1, b2⟩ := isa_boot (ty_or kt)
      obtain ⟨b3, b4⟩ := isa_boot (ty_or ku)
      have e1 : PE X (.Name z pz) (tC (.ty t)) := pe_bltn (gl_of k5) (G.blt z k4) (by rw [k3]; exact b1) rfl (by rw [k3]; exact b2) (dbg1 k6)
      have e2 : PE X (.Name z' pz') (tC (.ty u)) := pe_bltn (gl_of k9) (G.blt z' k8) (by rw [k7]; exact b3) rfl (by rw [k7]; exact b4) (dbg1 k10)
      have e3 : PE X (.Tuple [.Name z pz, .Name z' pz'] kk tpos) (tTup (tCons (tC (.ty t)) (tCons (tC (.ty u)) tNil))) := pe_tup (pa_cons e1 (pa_cons e2 pa_nil))
      have pa : PA X [y, .Tuple [.Name z pz, .Name z' pz'] kk tpos] (tCons ta (tCons (tTup (tCons (tC (.ty t)) (tCons (tC (.ty u)) tNil))) tNil)) := pa_cons p1 (pa_cons e3 pa_nil) (starOf k2)
      exact ⟨_, pe_prim (p := .isinst t) call_isiT h0 (gl_of h2) (G.blt _ h1) pa (by rw [List.all_cons, k2]; rfl), se_isin2 q1⟩
    · cases h
  | .dcT own tg it k v, X, W, G, tk, e, h => by
    unfold Ex.ok at h
    cases h
  | .dget a k d, X, W, G, tk, e, h => by
    unfold Ex.ok at h
    split at h
    · simp only [Bool.and_eq_true, decide_eq_true_eq] at h
      obtain ⟨⟨⟨⟨⟨⟨⟨rfl, h1⟩, h2⟩, h3⟩, h4⟩, h5⟩, h6⟩, h7⟩ := h
      obtain ⟨ta, p1, q1⟩ := Ex.sound a X W G tk _ h1
      obtain ⟨tb, p2, q2⟩ := Ex.sound k X W G tk _ h2
      obtain ⟨td, p3, q3⟩ := Ex.sound d X W G tk _ h4
      rename_i o ap y z cp
      have hs : [y, z].all notStar = true := by rw [List.all_cons, List.all_cons, h3, h5]; rfl
      have m2 : M2 X o "get" ap y z cp := ⟨base_of h7, few_of hs (by simp), h6, by rw [starOf h3, star1 h5]; rfl⟩
      exact ⟨_, pe_dget2 (by have := G.un; omega) p1 p2 p3 m2, se_dget q1 q2 q3⟩
    · cases h
  | .dispT ps, X, W, G, tk, e, h => by
    unfold Ex.ok at h
    split at h
    · simp only [Bool.and_eq_true, decide_eq_true_eq] at h
      obtain ⟨⟨h1, h2⟩, h3⟩ := h
      rename_i ks vs pos
      obtain ⟨trs, p1, q1⟩ := Pxs.sound ps X W G tk ks vs pos h1
      obtain ⟨l1, l2⟩ := ks_len ps ks vs h1
      exact ⟨_, pe_dispT (by have := G.un; omega) p1 l1 l2 (fun z => by subst z; cases h3) h2, se_dispT q1⟩
    · cases h
  | .lcC fz own tg i elt, X, W, G, tk, e, h => by
    unfold Ex.ok at h
    split at h
    · simp only [Bool.and_eq_true, decide_eq_true_eq] at h
      obtain ⟨⟨⟨⟨⟨⟨rfl, h1⟩, hv⟩, hd⟩, h2⟩, h3⟩, h5⟩ := h
      rename_i x t y py scope pos
      have hk : BlkOk X.N X.env.scope scope own := blkOk_by h2
      have GB : ∀ z : Shared × Hp × Addr × List (Str × Addr) × List Addr, Good c bl fl (X.blk z.1 z.2.1 scope (compEnvC scope z.2.2.2.1 z.2.2.1 X.env) z.2.2.2.2) := fun z => G.blk hk.kind
      obtain ⟨te, p5, q5⟩ := PE.weak (T := Shared × Hp × Addr × List (Str × Addr) × List Addr) (F := fun z => X.blk z.1 z.2.1 scope (compEnvC scope z.2.2.2.1 z.2.2.1 X.env) z.2.2.2.2) (e := x) (K := X.K) (mg := X.mg) (W := fun _ _ _ _ => False) (de := elt.den c)
        fun z => Ex.sound elt _ (fun _ _ _ _ => False) (GB z) takes0 x h5
      have p1 : PI X t (.Name y py) (iList X.K (tVar i)) := pi_list (pe_var h1 (vis_of hv) (dbg1 hd) (dbg2 hd))
      refine ⟨_, pe_lc G.calm G.nd p1 hk (g := tg.g X.K) (fun s H C cl fp => ?_) (fun s H C cl fp => pts_nil) (fun s H C cl fp => p5 (s, H, C, cl, fp)) (fun _ => rfl), ?_⟩
      · exact Tg.pg (X := X.blk s H scope (compEnvC scope cl C X.env) fp) (vs := List.map Prod.snd own) G.calm G.nd tg t h3
      · exact lcC_sound (Tg.sg tg (Tg.plain_of tg t h3)) (own_of h3) q5
    · cases h
  | .freeze a, X, W, G, tk, e, h => by
    unfold Ex.ok at h
    obtain ⟨ta, p1, q1⟩ := Ex.sound a X W G tk _ h
    exact ⟨_, p1, se_freeze q1⟩
  | .rev fz a, X, W, G, tk, e, h => by
    unfold Ex.ok at h
    split at h
    · obtain ⟨ta, p1, q1⟩ := Ex.sound a X W G tk _ h
      exact ⟨_, PE.or (pe_revL p1) (pe_revT p1), se_rev fz q1⟩
    · cases h
  | .dnew t, X, W, G, tk, e, h => by
    unfold Ex.ok at h
    split at h
    · cases t with
      | true => exact ⟨_, pe_dnewT, se_dnew true⟩
      | false => exact ⟨_, pe_dnewK, se_dnew false⟩
    · cases h
  | .meth m a es, X, W, G, tk, e, h => by
    unfold Ex.ok at h
    split at h
    · simp only [Bool.and_eq_true, decide_eq_true_eq] at h
      obtain ⟨⟨⟨⟨⟨⟨rfl, h0⟩, h1⟩, h2⟩, h3⟩, h4⟩, h5⟩ := h
      obtain ⟨ta, p1, q1⟩ := Ex.sound a X W G tk _ h1
      obtain ⟨tl, p2, q2⟩ := Exs.sound es X W G tk _ h2
      have hs := ok_stars es _ h2
      have hn := Exs.ok_len es _ h2
      rename_i o ap xs cp
      cases xs with
      | nil =>
        cases es with
        | cons _ _ => cases hn
        | nil =>
          cases m with
          | pop => exact ⟨_, pe_bm0 PySem.F.plainAttrs_list PySem.F.slot_list_pop PySem.F.type_list_pop mt_pop p1 (base_of h4) h3, se_meth0 .pop rfl q1⟩
          | _ => cases h0
      | cons x0 r0 =>
        have hs' := hs
        rw [List.all_cons, Bool.and_eq_true] at hs
        cases m with
        | append => exact ⟨_, pe_bm PySem.F.plainAttrs_list PySem.F.slot_list_append PySem.F.type_list_append mt_append p1 p2 (base_of h4) (few_of hs' h5) h3 (starOf hs.1) (back_of _ r0 hs.2), se_meth .append rfl q1 q2⟩
        | popAt => exact ⟨_, pe_bm PySem.F.plainAttrs_list PySem.F.slot_list_pop PySem.F.type_list_pop mt_popAt p1 p2 (base_of h4) (few_of hs' h5) h3 (starOf hs.1) (back_of _ r0 hs.2), se_meth .popAt rfl q1 q2⟩
        | index => exact ⟨_, pe_bm PySem.F.plainAttrs_list PySem.F.slot_list_index PySem.F.type_list_index mt_index p1 p2 (base_of h4) (few_of hs' h5) h3 (starOf hs.1) (back_of _ r0 hs.2), se_meth .index rfl q1 q2⟩
        | insert => exact ⟨_, pe_bm PySem.F.plainAttrs_list PySem.F.slot_list_insert PySem.F.type_list_insert mt_insert p1 p2 (base_of h4) (few_of hs' h5) h3 (starOf hs.1) (back_of _ r0 hs.2), se_meth .insert rfl q1 q2⟩
        | tindex => exact ⟨_, EnF.pe_tindex p1 p2 (base_of h4) (few_of hs' h5) h3 (starOf hs.1) (back_of _ r0 hs.2), se_methT q1 q2⟩
        | pop => cases h0
    · cases h
  | .tupS es, X, W, G, tk, e, h => by
    unfold Ex.ok at h
    split at h
    · obtain ⟨tl, p1, q1⟩ := Sxs.sound es X W G tk _ h
      exact ⟨_, pe_tup p1, se_tup q1⟩
    · cases h
  | .ctup es, X, W, G, tk, e, h => by
    unfold Ex.ok at h
    split at h
    · obtain ⟨tl, p1, q1⟩ := Exs.sound es X W G tk _ h
      exact ⟨_, EnF.pe_ctup p1, se_ctup q1⟩
    · cases h
  | .fzd a, X, W, G, tk, e, h => by
    unfold Ex.ok at h
    obtain ⟨ta, p1, q1⟩ := Ex.sound a X W G tk _ h
    exact ⟨_, p1, se_fzd q1⟩
  | .lc2 fz own vs1 tg it tg1 it1 cond elt, X, W, G, tk, e, h => by
    unfold Ex.ok at h
    split at h
    · simp only [Bool.and_eq_true, decide_eq_true_eq] at h
      obtain ⟨⟨⟨⟨⟨⟨⟨⟨⟨⟨rfl, rfl⟩, k0⟩, h1⟩, h2⟩, k1⟩, h3⟩, k2⟩, k3⟩, h4⟩, h5⟩ := h
      rename_i x t i ifs t1 i1 ifs1 scope pos
      have ei : ifs = [] := by cases ifs with | nil => rfl | cons _ _ => cases k0
      subst ei
      have hk : BlkOk X.N X.env.scope scope own := blkOk_by h2
      obtain ⟨wi, p1, q1, s1⟩ := Itx.sound it X W G tk t i h1
      have GB : ∀ z : Shared × Hp × Addr × List (Str × Addr) × List Addr, Good c bl fl (X.blk z.1 z.2.1 scope (compEnvC scope z.2.2.2.1 z.2.2.1 X.env) z.2.2.2.2) := fun z => G.blk hk.kind
      obtain ⟨te, p5, q5⟩ := PE.weak (T := Shared × Hp × Addr × List (Str × Addr) × List Addr) (F := fun z => X.blk z.1 z.2.1 scope (compEnvC scope z.2.2.2.1 z.2.2.1 X.env) z.2.2.2.2) (e := x) (K := X.K) (mg := X.mg) (W := fun _ _ _ _ => False) (de := elt.den c)
        fun z => Ex.sound elt _ (fun _ _ _ _ => False) (GB z) takes0 x h5
      obtain ⟨tt, p4, q4⟩ := PTs.weak (T := Shared × Hp × Addr × List (Str × Addr) × List Addr) (F := fun z => X.blk z.1 z.2.1 scope (compEnvC scope z.2.2.2.1 z.2.2.1 X.env) z.2.2.2.2) (es := ifs1) (K := X.K) (mg := X.mg) (W := fun _ _ _ _ => False) (de := cond.tsts c)
        fun z => Exs.soundC cond _ (fun _ _ _ _ => False) (GB z) takes0 ifs1 h4
      obtain ⟨wi1, p6, q6, s6⟩ := PI.weak (T := Shared × Hp × Addr × List (Str × Addr) × List Addr) (F := fun z => X.blk z.1 z.2.1 scope (compEnvC scope z.2.2.2.1 z.2.2.1 X.env) z.2.2.2.2) (tg := t1) (e := i1) (K := X.K) (mg := X.mg) (W := fun _ _ _ _ => False) (di := it1.den c)
        fun z => Itx.sound it1 _ (fun _ _ _ _ => False) (GB z) takes0 t1 i1 k2
      refine ⟨_, pe_lc2 G.calm G.nd p1 hk (g := tg.g X.K) (g1 := tg1.g X.K) (vs1 := vs1) (fun v hv => ?_) (fun s H C cl fp => ?_) (fun s H C cl fp => pts_nil) (fun s H C cl fp => p6 (s, H, C, cl, fp)) (fun s H C cl fp => ?_) (fun s H C cl fp => p4 (s, H, C, cl, fp)) (fun s H C cl fp => p5 (s, H, C, cl, fp)) s1 (Itx.fset it1 k2), ?_⟩
      · have := List.all_eq_true.mp k1 v hv
        simpa using this
      · exact Tg.pg (X := X.blk s H scope (compEnvC scope cl C X.env) fp) (vs := List.map Prod.snd own) G.calm G.nd tg t h3
      · exact Tg.pg (X := X.blk s H scope (compEnvC scope cl C X.env) fp) (vs := vs1) G.calm G.nd tg1 t1 k3
      · exact lc2_sound q1 (Tg.sg tg (Tg.plain_of tg t h3)) (own_of h3) q6 (Tg.sg tg1 (Tg.plain_of tg1 t1 k3)) (own_of k3) q4 q5
    · cases h
theorem Ex.soundT {c : Cfg} {bl : BL} {fl : List Str} : ∀ (ex : Ex) (X : Cx) (W : WX) (G : Good c bl fl X) (tk : Takes X W) (e : Expr), ex.ok X.N bl fl X.env.scope e = true → ∃ t, PT X e t ∧ ((∃ o es pos, e = .BoolOp o es pos) → PW X e t) ∧ ST X.K X.mg W t (ex.tst c)
  | .and a b, X, W, G, tk, e, h => by
    unfold Ex.ok at h
    split at h
    · rw [Bool.and_eq_true] at h
      obtain ⟨h1, h2⟩ := h
      obtain ⟨ta, p1, _, q1⟩ := Ex.soundT a X W G tk _ h1
      split at h2
      · obtain ⟨tb, p2, _, q2⟩ := Ex.soundT b X W G tk _ h2
        exact ⟨_, (pw_and p1 (pw_of p2)).pt, fun _ => pw_and p1 (pw_of p2), st_and q1 q2⟩
      · obtain ⟨tb, p2, w2, q2⟩ := Ex.soundT b X W G tk _ h2
        exact ⟨_, (pw_and p1 (w2 ⟨_, _, _, rfl⟩)).pt, fun _ => pw_and p1 (w2 ⟨_, _, _, rfl⟩), st_and q1 q2⟩
    · cases h
  | .or a b, X, W, G, tk, e, h => by
    unfold Ex.ok at h
    split at h
    · rw [Bool.and_eq_true] at h
      obtain ⟨h1, h2⟩ := h
      obtain ⟨ta, p1, _, q1⟩ := Ex.soundT a X W G tk _ h1
      split at h2
      · obtain ⟨tb, p2, _, q2⟩ := Ex.soundT b X W G tk _ h2
        exact ⟨_, (pw_or p1 (pw_of p2)).pt, fun _ => pw_or p1 (pw_of p2), st_or q1 q2⟩
      · obtain ⟨tb, p2, w2, q2⟩ := Ex.soundT b X W G tk _ h2
        exact ⟨_, (pw_or p1 (w2 ⟨_, _, _, rfl⟩)).pt, fun _ => pw_or p1 (w2 ⟨_, _, _, rfl⟩), st_or q1 q2⟩
    · cases h
  | .not a, X, W, G, tk, e, h => by
    unfold Ex.ok at h
    split at h
    · obtain ⟨ta, p1, _, q1⟩ := Ex.soundT a X W G tk _ h
      exact ⟨_, pt_not p1, (fun ⟨_, _, _, z⟩ => (by cases z)), st_not q1⟩
    · cases h
  | .cmp o a b, X, W, G, tk, e, h => by
    have q := Ex.sound (.cmp o a b) X W G tk e h
    unfold Ex.ok at h
    split at h
    · simp only [Bool.and_eq_true, decide_eq_true_eq, Bool.not_eq_true'] at h
      obtain ⟨⟨⟨rfl, h2⟩, h3⟩, h4⟩ := h
      obtain ⟨ta, p1, q1⟩ := Ex.sound a X W G tk _ h2
      obtain ⟨tb, p2, q2⟩ := Ex.sound b X W G tk _ h3
      refine ⟨_, pt_cmpR (cmp_op G.un o) p1 p2 h4, (fun ⟨_, _, _, z⟩ => (by cases z)), st_test (se_cmp o q1 q2) fun ρ h x h1 e => ?_⟩
      obtain ⟨_, _, _, e⟩ := bind_ok e
      obtain ⟨_, _, _, e⟩ := bind_ok e
      exact cmpD_bl e
    · cases h
  | .chain o o' a b d, X, W, G, tk, e, h => by
    unfold Ex.ok at h
    split at h
    · simp only [Bool.and_eq_true, decide_eq_true_eq, Bool.not_eq_true'] at h
      obtain ⟨⟨⟨⟨⟨rfl, rfl⟩, h2⟩, h3⟩, h4⟩, h5⟩ := h
      obtain ⟨ta, p1, q1⟩ := Ex.sound a X W G tk _ h2
      obtain ⟨tb, p2, q2⟩ := Ex.sound b X W G tk _ h3
      obtain ⟨td, p3, q3⟩ := Ex.sound d X W G tk _ h4
      refine ⟨_, pt_chain (cmp_op G.un o) (cmp_op G.un o') p1 p2 p3 h5, (fun ⟨_, _, _, z⟩ => (by cases z)), st_test (se_chain o o' q1 q2 q3) fun ρ h x h1 e => ?_⟩
      obtain ⟨_, _, _, e⟩ := bind_ok e
      obtain ⟨_, _, _, e⟩ := bind_ok e
      obtain ⟨z, _, e1, e⟩ := bind_ok e
      obtain ⟨b, rfl⟩ := cmpD_bl e1
      cases b with
      | true =>
        obtain ⟨_, _, _, e⟩ := bind_ok e
        exact cmpD_bl e
      | false => cases e; exact ⟨_, rfl⟩
    · cases h
  | .meth m a es, X, W, G, tk, e, h => by
    have hp : plainT e = true := by
      unfold Ex.ok at h
      split at h <;> first | rfl | cases h
    obtain ⟨ta, p1, q1⟩ := Ex.sound (.meth m a es) X W G tk e h
    exact ⟨_, pt_truth p1 (truth_of hp), fun ⟨_, _, _, z⟩ => (by rw [z] at hp; cases hp), st_tru q1⟩
  | .ite t a b, X, W, G, tk, e, h => ⟨fun _ _ _ => False, ⟨fun _ _ _ _ _ _ z => False.elim z⟩, fun _ => ⟨fun _ _ _ _ _ _ _ z => False.elim z⟩, st_stuck⟩
  | .freeze a, X, W, G, tk, e, h => ⟨fun _ _ _ => False, ⟨fun _ _ _ _ _ _ z => False.elim z⟩, fun _ => ⟨fun _ _ _ _ _ _ _ z => False.elim z⟩, st_stuck⟩
  | .attr k a f, X, W, G, tk, e, h => by
    have hp : plainT e = true := by
      unfold Ex.ok at h
      split at h <;> first | rfl | cases h
    obtain ⟨ta, p1, q1⟩ := Ex.sound (.attr k a f) X W G tk e h
    exact ⟨_, pt_truth p1 (truth_of hp), fun ⟨_, _, _, z⟩ => (by rw [z] at hp; cases hp), st_tru q1⟩
  | .mcall i k m a es, X, W, G, tk, e, h => by
    have hp : plainT e = true := by
      unfold Ex.ok at h
      split at h <;> first | rfl | cases h
    obtain ⟨ta, p1, q1⟩ := Ex.sound (.mcall i k m a es) X W G tk e h
    exact ⟨_, pt_truth p1 (truth_of hp), fun ⟨_, _, _, z⟩ => (by rw [z] at hp; cases hp), st_tru q1⟩
  | .make i k es, X, W, G, tk, e, h => by
    have hp : plainT e = true := by
      unfold Ex.ok at h
      split at h <;> first | rfl | cases h
    obtain ⟨ta, p1, q1⟩ := Ex.sound (.make i k es) X W G tk e h
    exact ⟨_, pt_truth p1 (truth_of hp), fun ⟨_, _, _, z⟩ => (by rw [z] at hp; cases hp), st_tru q1⟩
  | .callV i cs es, X, W, G, tk, e, h => by
    have hp : plainT e = true := by
      unfold Ex.ok at h
      split at h <;> first | rfl | cases h
    obtain ⟨ta, p1, q1⟩ := Ex.sound (.callV i cs es) X W G tk e h
    exact ⟨_, pt_truth p1 (truth_of hp), fun ⟨_, _, _, z⟩ => (by rw [z] at hp; cases hp), st_tru q1⟩
  | .fnv y, X, W, G, tk, e, h => by
    have hp : plainT e = true := by
      unfold Ex.ok at h
      split at h <;> first | rfl | cases h
    obtain ⟨ta, p1, q1⟩ := Ex.sound (.fnv y) X W G tk e h
    exact ⟨_, pt_truth p1 (truth_of hp), fun ⟨_, _, _, z⟩ => (by rw [z] at hp; cases hp), st_tru q1⟩
  | .lrange2 fz a b, X, W, G, tk, e, h => by
    have hp : plainT e = true := by
      unfold Ex.ok at h
      split at h <;> first | rfl | cases h
    obtain ⟨ta, p1, q1⟩ := Ex.sound (.lrange2 fz a b) X W G tk e h
    exact ⟨_, pt_truth p1 (truth_of hp), fun ⟨_, _, _, z⟩ => (by rw [z] at hp; cases hp), st_tru q1⟩
  | .isin2 t u a, X, W, G, tk, e, h => by
    have hp : plainT e = true := by
      unfold Ex.ok at h
      split at h <;> first | rfl | cases h
    obtain ⟨ta, p1, q1⟩ := Ex.sound (.isin2 t u a) X W G tk e h
    exact ⟨_, pt_truth p1 (truth_of hp), fun ⟨_, _, _, z⟩ => (by rw [z] at hp; cases hp), st_tru q1⟩
  | .dget a k d, X, W, G, tk, e, h => by
    have hp : plainT e = true := by
      unfold Ex.ok at h
      split at h <;> first | rfl | cases h
    obtain ⟨ta, p1, q1⟩ := Ex.sound (.dget a k d) X W G tk e h
    exact ⟨_, pt_truth p1 (truth_of hp), fun ⟨_, _, _, z⟩ => (by rw [z] at hp; cases hp), st_tru q1⟩
  | .dispT ps, X, W, G, tk, e, h => by
    have hp : plainT e = true := by
      unfold Ex.ok at h
      split at h <;> first | rfl | cases h
    obtain ⟨ta, p1, q1⟩ := Ex.sound (.dispT ps) X W G tk e h
    exact ⟨_, pt_truth p1 (truth_of hp), fun ⟨_, _, _, z⟩ => (by rw [z] at hp; cases hp), st_tru q1⟩
  | .lcC fz own tg i elt, X, W, G, tk, e, h => by
    have hp : plainT e = true := by
      unfold Ex.ok at h
      split at h <;> first | rfl | cases h
    obtain ⟨ta, p1, q1⟩ := Ex.sound (.lcC fz own tg i elt) X W G tk e h
    exact ⟨_, pt_truth p1 (truth_of hp), fun ⟨_, _, _, z⟩ => (by rw [z] at hp; cases hp), st_tru q1⟩
  | .dcT own tg it k v, X, W, G, tk, e, h => by
    unfold Ex.ok at h
    cases h
  | .var i, X, W, G, tk, e, h => by
    have hp : plainT e = true := by
      unfold Ex.ok at h
      split at h <;> first | rfl | cases h
    obtain ⟨ta, p1, q1⟩ := Ex.sound (.var i) X W G tk e h
    exact ⟨_, pt_truth p1 (truth_of hp), fun ⟨_, _, _, z⟩ => (by rw [z] at hp; cases hp), st_tru q1⟩
  | .glob y, X, W, G, tk, e, h => by
    have hp : plainT e = true := by
      unfold Ex.ok at h
      split at h <;> first | rfl | cases h
    obtain ⟨ta, p1, q1⟩ := Ex.sound (.glob y) X W G tk e h
    exact ⟨_, pt_truth p1 (truth_of hp), fun ⟨_, _, _, z⟩ => (by rw [z] at hp; cases hp), st_tru q1⟩
  | .cint i, X, W, G, tk, e, h => by
    have hp : plainT e = true := by
      unfold Ex.ok at h
      split at h <;> first | rfl | cases h
    obtain ⟨ta, p1, q1⟩ := Ex.sound (.cint i) X W G tk e h
    exact ⟨_, pt_truth p1 (truth_of hp), fun ⟨_, _, _, z⟩ => (by rw [z] at hp; cases hp), st_tru q1⟩
  | .cbl b, X, W, G, tk, e, h => by
    have hp : plainT e = true := by
      unfold Ex.ok at h
      split at h <;> first | rfl | cases h
    obtain ⟨ta, p1, q1⟩ := Ex.sound (.cbl b) X W G tk e h
    exact ⟨_, pt_truth p1 (truth_of hp), fun ⟨_, _, _, z⟩ => (by rw [z] at hp; cases hp), st_tru q1⟩
  | .cnon, X, W, G, tk, e, h => by
    have hp : plainT e = true := by
      unfold Ex.ok at h
      split at h <;> first | rfl | cases h
    obtain ⟨ta, p1, q1⟩ := Ex.sound (.cnon) X W G tk e h
    exact ⟨_, pt_truth p1 (truth_of hp), fun ⟨_, _, _, z⟩ => (by rw [z] at hp; cases hp), st_tru q1⟩
  | .cstr s, X, W, G, tk, e, h => by
    have hp : plainT e = true := by
      unfold Ex.ok at h
      split at h <;> first | rfl | cases h
    obtain ⟨ta, p1, q1⟩ := Ex.sound (.cstr s) X W G tk e h
    exact ⟨_, pt_truth p1 (truth_of hp), fun ⟨_, _, _, z⟩ => (by rw [z] at hp; cases hp), st_tru q1⟩
  | .bin o fz a b, X, W, G, tk, e, h => by
    have hp : plainT e = true := by
      unfold Ex.ok at h
      split at h <;> first | rfl | cases h
    obtain ⟨ta, p1, q1⟩ := Ex.sound (.bin o fz a b) X W G tk e h
    exact ⟨_, pt_truth p1 (truth_of hp), fun ⟨_, _, _, z⟩ => (by rw [z] at hp; cases hp), st_tru q1⟩
  | .neg a, X, W, G, tk, e, h => by
    have hp : plainT e = true := by
      unfold Ex.ok at h
      split at h <;> first | rfl | cases h
    obtain ⟨ta, p1, q1⟩ := Ex.sound (.neg a) X W G tk e h
    exact ⟨_, pt_truth p1 (truth_of hp), fun ⟨_, _, _, z⟩ => (by rw [z] at hp; cases hp), st_tru q1⟩
  | .tup es, X, W, G, tk, e, h => by
    have hp : plainT e = true := by
      unfold Ex.ok at h
      split at h <;> first | rfl | cases h
    obtain ⟨ta, p1, q1⟩ := Ex.sound (.tup es) X W G tk e h
    exact ⟨_, pt_truth p1 (truth_of hp), fun ⟨_, _, _, z⟩ => (by rw [z] at hp; cases hp), st_tru q1⟩
  | .lst fz es, X, W, G, tk, e, h => by
    have hp : plainT e = true := by
      unfold Ex.ok at h
      split at h <;> first | rfl | cases h
    obtain ⟨ta, p1, q1⟩ := Ex.sound (.lst fz es) X W G tk e h
    exact ⟨_, pt_truth p1 (truth_of hp), fun ⟨_, _, _, z⟩ => (by rw [z] at hp; cases hp), st_tru q1⟩
  | .idx a i, X, W, G, tk, e, h => by
    have hp : plainT e = true := by
      unfold Ex.ok at h
      split at h <;> first | rfl | cases h
    obtain ⟨ta, p1, q1⟩ := Ex.sound (.idx a i) X W G tk e h
    exact ⟨_, pt_truth p1 (truth_of hp), fun ⟨_, _, _, z⟩ => (by rw [z] at hp; cases hp), st_tru q1⟩
  | .slice fz a lo hi, X, W, G, tk, e, h => by
    have hp : plainT e = true := by
      unfold Ex.ok at h
      split at h <;> first | rfl | cases h
    obtain ⟨ta, p1, q1⟩ := Ex.sound (.slice fz a lo hi) X W G tk e h
    exact ⟨_, pt_truth p1 (truth_of hp), fun ⟨_, _, _, z⟩ => (by rw [z] at hp; cases hp), st_tru q1⟩
  | .call f es, X, W, G, tk, e, h => by
    have hp : plainT e = true := by
      unfold Ex.ok at h
      split at h <;> first | rfl | cases h
    obtain ⟨ta, p1, q1⟩ := Ex.sound (.call f es) X W G tk e h
    exact ⟨_, pt_truth p1 (truth_of hp), fun ⟨_, _, _, z⟩ => (by rw [z] at hp; cases hp), st_tru q1⟩
  | .prim p fz es, X, W, G, tk, e, h => by
    have hp : plainT e = true := by
      unfold Ex.ok at h
      split at h <;> first | rfl | cases h
    obtain ⟨ta, p1, q1⟩ := Ex.sound (.prim p fz es) X W G tk e h
    exact ⟨_, pt_truth p1 (truth_of hp), fun ⟨_, _, _, z⟩ => (by rw [z] at hp; cases hp), st_tru q1⟩
  | .lrange fz a, X, W, G, tk, e, h => by
    have hp : plainT e = true := by
      unfold Ex.ok at h
      split at h <;> first | rfl | cases h
    obtain ⟨ta, p1, q1⟩ := Ex.sound (.lrange fz a) X W G tk e h
    exact ⟨_, pt_truth p1 (truth_of hp), fun ⟨_, _, _, z⟩ => (by rw [z] at hp; cases hp), st_tru q1⟩
  | .lc fz own tg it cond elt, X, W, G, tk, e, h => by
    have hp : plainT e = true := by
      unfold Ex.ok at h
      split at h <;> first | rfl | cases h
    obtain ⟨ta, p1, q1⟩ := Ex.sound (.lc fz own tg it cond elt) X W G tk e h
    exact ⟨_, pt_truth p1 (truth_of hp), fun ⟨_, _, _, z⟩ => (by rw [z] at hp; cases hp), st_tru q1⟩
  | .rev fz a, X, W, G, tk, e, h => by
    have hp : plainT e = true := by
      unfold Ex.ok at h
      split at h <;> first | rfl | cases h
    obtain ⟨ta, p1, q1⟩ := Ex.sound (.rev fz a) X W G tk e h
    exact ⟨_, pt_truth p1 (truth_of hp), fun ⟨_, _, _, z⟩ => (by rw [z] at hp; cases hp), st_tru q1⟩
  | .dnew t, X, W, G, tk, e, h => by
    have hp : plainT e = true := by
      unfold Ex.ok at h
      split at h <;> first | rfl | cases h
    obtain ⟨ta, p1, q1⟩ := Ex.sound (.dnew t) X W G tk e h
    exact ⟨_, pt_truth p1 (truth_of hp), fun ⟨_, _, _, z⟩ => (by rw [z] at hp; cases hp), st_tru q1⟩
  | .tupS es, X, W, G, tk, e, h => by
    have hp : plainT e = true := by
      unfold Ex.ok at h
      split at h <;> first | rfl | cases h
    obtain ⟨ta, p1, q1⟩ := Ex.sound (.tupS es) X W G tk e h
    exact ⟨_, pt_truth p1 (truth_of hp), fun ⟨_, _, _, z⟩ => (by rw [z] at hp; cases hp), st_tru q1⟩
  | .ctup es, X, W, G, tk, e, h => by
    have hp : plainT e = true := by
      unfold Ex.ok at h
      split at h <;> first | rfl | cases h
    obtain ⟨ta, p1, q1⟩ := Ex.sound (.ctup es) X W G tk e h
    exact ⟨_, pt_truth p1 (truth_of hp), fun ⟨_, _, _, z⟩ => (by rw [z] at hp; cases hp), st_tru q1⟩
  | .lc2 fz own vs1 tg it tg1 it1 cond elt, X, W, G, tk, e, h => by
    have hp : plainT e = true := by
      unfold Ex.ok at h
      split at h <;> first | rfl | cases h
    obtain ⟨ta, p1, q1⟩ := Ex.sound (.lc2 fz own vs1 tg it tg1 it1 cond elt) X W G tk e h
    exact ⟨_, pt_truth p1 (truth_of hp), fun ⟨_, _, _, z⟩ => (by rw [z] at hp; cases hp), st_tru q1⟩
  | .fzd a, X, W, G, tk, e, h => ⟨fun _ _ _ => False, ⟨fun _ _ _ _ _ _ z => False.elim z⟩, fun _ => ⟨fun _ _ _ _ _ _ _ z => False.elim z⟩, st_stuck⟩
theorem Pxs.sound {c : Cfg} {bl : BL} {fl : List Str} : ∀ (ps : Pxs) (X : Cx) (W : WX) (G : Good c bl fl X) (tk : Takes X W) (ks : List (Option Expr)) (vs : List Expr) (pos : Pos), ps.ok X.N bl fl X.env.scope ks vs = true → ∃ trs, PPs X pos ks vs trs ∧ SP X.K X.mg W trs (ps.den c)
  | .nil, X, W, G, tk, ks, vs, pos, h => by
    unfold Pxs.ok at h
    rw [Bool.and_eq_true] at h
    cases ks with
    | nil => cases vs with
      | nil => exact ⟨_, pps_nil, sp_nil⟩
      | cons _ _ => cases h.2
    | cons _ _ => cases h.1
  | .cons k v r, X, W, G, tk, ks, vs, pos, h => by
    unfold Pxs.ok at h
    split at h
    · simp only [Bool.and_eq_true] at h
      obtain ⟨ta, p1, q1⟩ := Ex.sound k X W G tk _ h.1.1
      obtain ⟨tb, p2, q2⟩ := Ex.sound v X W G tk _ h.1.2
      obtain ⟨trs, p3, q3⟩ := Pxs.sound r X W G tk _ _ pos h.2
      exact ⟨_, pps_cons p1 p2 p3, sp_cons q1 q2 q3⟩
    · cases h
theorem Sxs.sound {c : Cfg} {bl : BL} {fl : List Str} : ∀ (es : Sxs) (X : Cx) (W : WX) (G : Good c bl fl X) (tk : Takes X W) (xs : List Expr), es.ok X.N bl fl X.env.scope xs = true → ∃ t, PA X xs t ∧ SA X.K X.mg W t (es.den c)
  | .nil, X, W, G, tk, xs, h => by
    unfold Sxs.ok at h
    cases xs with
    | nil => exact ⟨_, pa_nil, sa_nil⟩
    | cons _ _ => cases h
  | .cons a as, X, W, G, tk, xs, h => by
    unfold Sxs.ok at h
    cases xs with
    | nil => cases h
    | cons e r =>
      dsimp only at h
      rw [Bool.and_eq_true, Bool.and_eq_true] at h
      obtain ⟨ta, p1, q1⟩ := Ex.sound a X W G tk _ h.1.1
      obtain ⟨tl, p2, q2⟩ := Sxs.sound as X W G tk _ h.2
      exact ⟨_, pa_cons p1 p2 (starOf h.1.2), sa_cons q1 q2⟩
  | .star a as, X, W, G, tk, xs, h => by
    unfold Sxs.ok at h
    split at h
    · rw [Bool.and_eq_true] at h
      obtain ⟨ta, p1, q1⟩ := Ex.sound a X W G tk _ h.1
      obtain ⟨tl, p2, q2⟩ := Sxs.sound as X W G tk _ h.2
      exact ⟨_, StX.pa_star p1 p2, sa_star q1 q2⟩
    · cases h
theorem Exs.sound {c : Cfg} {bl : BL} {fl : List Str} : ∀ (es : Exs) (X : Cx) (W : WX) (G : Good c bl fl X) (tk : Takes X W) (xs : List Expr), es.ok X.N bl fl X.env.scope xs = true → ∃ t, PA X xs t ∧ SA X.K X.mg W t (es.den c)
  | .nil, X, W, G, tk, xs, h => by
    unfold Exs.ok at h
    cases xs with
    | nil => exact ⟨_, pa_nil, sa_nil⟩
    | cons _ _ => cases h
  | .cons a as, X, W, G, tk, xs, h => by
    unfold Exs.ok at h
    cases xs with
    | nil => cases h
    | cons e r =>
      dsimp only at h
      rw [Bool.and_eq_true, Bool.and_eq_true] at h
      obtain ⟨ta, p1, q1⟩ := Ex.sound a X W G tk _ h.1.1
      obtain ⟨tl, p2, q2⟩ := Exs.sound as X W G tk _ h.2
      exact ⟨_, pa_cons p1 p2 (starOf h.1.2), sa_cons q1 q2⟩
theorem Exs.soundO {c : Cfg} {bl : BL} {fl : List Str} : ∀ (es : Exs) (X : Cx) (W : WX) (G : Good c bl fl X) (tk : Takes X W) (e : Option Expr), es.okO X.N bl fl X.env.scope e = true → ∃ t, PO X e t ∧ SO X.K X.mg W t (es.part c)
  | .nil, X, W, G, tk, e, h => by
    unfold Exs.okO at h
    cases e with
    | none => exact ⟨_, po_none, so_none⟩
    | some _ => cases h
  | .cons a as, X, W, G, tk, e, h => by
    unfold Exs.okO at h
    cases e with
    | none => cases h
    | some e =>
      cases as with
      | nil =>
        obtain ⟨ta, p1, q1⟩ := Ex.sound a X W G tk _ h
        exact ⟨_, po_some p1, so_some q1⟩
      | cons _ _ => cases h
theorem Exs.soundC {c : Cfg} {bl : BL} {fl : List Str} : ∀ (es : Exs) (X : Cx) (W : WX) (G : Good c bl fl X) (tk : Takes X W) (xs : List Expr), es.okC X.N bl fl X.env.scope xs = true → ∃ t, PTs X xs t ∧ ST X.K X.mg W t (es.tsts c)
  | .nil, X, W, G, tk, xs, h => by
    unfold Exs.okC at h
    cases xs with
    | nil => exact ⟨_, pts_nil, st_yes⟩
    | cons _ _ => cases h
  | .cons a as, X, W, G, tk, xs, h => by
    unfold Exs.okC at h
    split at h
    · obtain ⟨tt, p0, _, q0⟩ := Ex.soundT a X W G tk _ h
      exact ⟨_, pts_one p0, q0⟩
    · cases h
theorem Itx.sound {c : Cfg} {bl : BL} {fl : List Str} : ∀ (it : Itx) (X : Cx) (W : WX) (G : Good c bl fl X) (tk : Takes X W) (tg e : Expr), it.ok X.N bl fl X.env.scope tg e = true → ∃ wi, PI X tg e wi ∧ SI X.K X.mg W wi (it.den c) ∧ ∀ x, foldedSetIterable e X.env x = pure x
  | .seq a, X, W, G, tk, tg, e, h => by
    unfold Itx.ok at h
    rw [Bool.and_eq_true] at h
    obtain ⟨ta, p1, q1⟩ := Ex.sound a X W G tk _ h.1
    exact ⟨_, PI.or (pi_list p1) (pi_tup p1), si_seq q1, set_of h.2⟩
  | .range es, X, W, G, tk, tg, e, h => by
    unfold Itx.ok at h
    split at h
    · simp only [Bool.and_eq_true, decide_eq_true_eq] at h
      obtain ⟨⟨⟨⟨⟨rfl, h1⟩, h2⟩, h3⟩, h4⟩, h5⟩ := h
      obtain ⟨tl, p1, q1⟩ := Exs.sound es X W G tk _ h3
      have hn := Exs.ok_len es _ h3
      have hs := ok_stars es _ h3
      rename_i xs _
      match xs, hn, hs, p1, h4, h5 with
      | [x], hn, hs, p1, _, _ =>
        rw [List.all_cons, Bool.and_eq_true] at hs
        exact ⟨_, pi_range1 (gl_of h2) (G.blt _ h1) p1 (star1 hs.1), si_rng1 q1 (fun ρ h ds h' e => by rw [Exs.den_len c es ρ h ds h' e, ← hn]; rfl), fun _ => rfl⟩
      | [x, y], hn, hs, p1, _, _ =>
        rw [List.all_cons, List.all_cons, Bool.and_eq_true, Bool.and_eq_true] at hs
        exact ⟨_, pi_range2 (gl_of h2) (G.blt _ h1) p1 (by rw [starOf hs.1, star1 hs.2.1]) (star1 hs.2.1), si_rng2 q1 (fun ρ h ds h' e => by rw [Exs.den_len c es ρ h ds h' e, ← hn]; rfl), fun _ => rfl⟩
      | [x, y, z], hn, hs, p1, _, _ =>
        rw [List.all_cons, Bool.and_eq_true] at hs
        exact ⟨_, pi_range3 (gl_of h2) (G.blt _ h1) p1 (starOf hs.1) (back_of _ _ hs.2), si_rng3 q1 (fun ρ h ds h' e => by rw [Exs.den_len c es ρ h ds h' e, ← hn]; rfl), fun _ => rfl⟩
    · cases h
  | .enum a, X, W, G, tk, tg, e, h => by
    unfold Itx.ok at h
    split at h
    · simp only [Bool.and_eq_true, decide_eq_true_eq] at h
      obtain ⟨⟨⟨⟨⟨rfl, h1⟩, h2⟩, h3⟩, h4⟩, h5⟩ := h
      obtain ⟨ta, p1, q1⟩ := Ex.sound a X W G tk _ h3
      cases tg with
      | Tuple ts k pos => exact ⟨_, EnT.pi_enumA (gl_of h2) (G.blt _ h1) (pa_cons p1 pa_nil (starOf h4)) (star1 h4), si_enum q1, fun _ => rfl⟩
      | _ => cases h5
    · cases h
  | .zip a b, X, W, G, tk, tg, e, h => by
    unfold Itx.ok at h
    split at h
    · simp only [Bool.and_eq_true, decide_eq_true_eq] at h
      obtain ⟨⟨⟨⟨⟨⟨⟨rfl, h1⟩, h2⟩, h3⟩, h4⟩, h5⟩, h6⟩, h7⟩ := h
      obtain ⟨ta, p1, q1⟩ := Ex.sound a X W G tk _ h3
      obtain ⟨tb, p2, q2⟩ := Ex.sound b X W G tk _ h5
      cases tg with
      | Tuple ts k pos => exact ⟨_, RZ.pi_zipA (gl_of h2) (G.blt _ h1) (pa_cons p1 (pa_cons p2 pa_nil (starOf h6)) (starOf h4)) (starOf h4) (back_of _ _ (by rw [List.all_cons, h6]; rfl)), si_zip q1 q2, fun _ => rfl⟩
      | _ => cases h7
    · cases h
  | .zipN es, X, W, G, tk, tg, e, h => by
    unfold Itx.ok at h
    split at h
    · simp only [Bool.and_eq_true, decide_eq_true_eq] at h
      obtain ⟨⟨⟨⟨⟨rfl, h1⟩, h2⟩, h3⟩, h4⟩, h5⟩ := h
      obtain ⟨tl, p1, q1⟩ := Exs.sound es X W G tk _ h3
      rename_i xs _
      have hs := ok_stars es xs h3
      cases xs with
      | nil => cases h4
      | cons e0 r0 =>
        rw [List.all_cons, Bool.and_eq_true] at hs
        cases tg with
        | Tuple ts k pos => exact ⟨_, ZSt.pi_zipN (gl_of h2) (G.blt _ h1) p1 (starOf hs.1) (back_of _ r0 hs.2), si_zipN q1, fun _ => rfl⟩
        | _ => cases h5
    · cases h
  | .zipM a b, X, W, G, tk, tg, e, h => by
    unfold Itx.ok at h
    split at h
    · simp only [Bool.and_eq_true, decide_eq_true_eq] at h
      obtain ⟨⟨⟨⟨⟨⟨⟨rfl, h1⟩, h2⟩, h3⟩, h4⟩, h5⟩, h6⟩, h7⟩ := h
      obtain ⟨ta, p1, q1⟩ := Ex.sound a X W G tk _ h3
      obtain ⟨tb, p2, q2⟩ := Ex.sound b X W G tk _ h5
      cases tg with
      | Tuple ts k pos => exact ⟨_, ZSt.pi_zipM (gl_of h2) (G.blt _ h1) (pa_cons p1 (pa_cons p2 pa_nil (starOf h6)) (starOf h4)) (starOf h4) (back_of _ _ (by rw [List.all_cons, h6]; rfl)), si_zipM q1 q2, fun _ => rfl⟩
      | _ => cases h7
    · cases h
  | .enumZ a b, X, W, G, tk, tg, e, h => by
    unfold Itx.ok at h
    split at h
    · simp only [Bool.and_eq_true, decide_eq_true_eq] at h
      obtain ⟨⟨⟨⟨⟨⟨⟨⟨⟨⟨rfl, h1⟩, h2⟩, rfl⟩, g1⟩, g2⟩, h3⟩, h4⟩, h5⟩, h6⟩, h7⟩ := h
      obtain ⟨ta, p1, q1⟩ := Ex.sound a X W G tk _ h3
      obtain ⟨tb, p2, q2⟩ := Ex.sound b X W G tk _ h5
      cases tg with
      | Tuple ts k pos => exact ⟨_, ZSt.pi_enumZ (gl_of h2) (G.blt _ h1) (gl_of g2) (G.blt _ g1) (pa_cons p1 (pa_cons p2 pa_nil (starOf h6)) (starOf h4)) (starOf h4) (back_of _ _ (by rw [List.all_cons, h6]; rfl)), si_enumZ q1 q2, fun _ => rfl⟩
      | _ => cases h7
    · cases h
  | .zipS a, X, W, G, tk, tg, e, h => by
    unfold Itx.ok at h
    split at h
    · simp only [Bool.and_eq_true, decide_eq_true_eq] at h
      obtain ⟨⟨⟨⟨rfl, h1⟩, h2⟩, h3⟩, h4⟩ := h
      obtain ⟨ta, p1, q1⟩ := Ex.sound a X W G tk _ h3
      cases tg with
      | Name x px => exact ⟨_, ZSt.pi_zipS (gl_of h2) (G.blt _ h1) p1, si_zipS q1, fun _ => rfl⟩
      | _ => cases h4
    · cases h
  | .enumF a k, X, W, G, tk, tg, e, h => by
    unfold Itx.ok at h
    split at h
    · simp only [Bool.and_eq_true, decide_eq_true_eq] at h
      obtain ⟨⟨⟨⟨⟨⟨⟨rfl, h1⟩, h2⟩, h3⟩, h4⟩, h5⟩, rfl⟩, h7⟩ := h
      obtain ⟨ta, p1, q1⟩ := Ex.sound a X W G tk _ h3
      cases tg with
      | Tuple ts kk pos => exact ⟨_, EnF.pi_enumF h7 (gl_of h2) (G.blt _ h1) (pa_cons p1 (pa_cons pe_int pa_nil) (starOf h4)) (starOf h4) rfl, si_enumF k q1, fun _ => rfl⟩
      | _ => cases h5
    · cases h
end
end Ev
set_option maxHeartbeats 1000000
/-! Ev, part L: statements. -/
namespace Ev
open PySem PySem.Spec PyProof.Rows L2

/-! ### a, b = x, y: in which order it is stored -/
def isStarE : Expr → Bool
  | .Starred .. => true
  | _ => false
def swapNm (sc : Scope) (line : Nat) : Expr → Option Str
  | .Name id pos => if sc.names.lookup id == some .local && pos.line == line then some id else none
  | _ => none
def swapR (sc : Scope) (ts vs : List Expr) : Option (Option (List Str)) :=
  if !(ts.length == 2 || ts.length == 3) || vs.length != ts.length then some none
  else if vs.any isStarE then some none
  else
    let names := ts.filterMap (swapNm sc ((ts.head?.map (·.pos.line)).getD 0))
    if names.length != ts.length || names.eraseDups.length != names.length then some none
    else if vs.all (foldedForSure 8) then some none
    else if vs.all (constantsAlone 8) then none
    else some (some names)
theorem block_fn {env : PySem.Env} (hk : env.scope.kind = .function) : env.blockKind = .function := by
  unfold PySem.Env.blockKind; rw [hk]; rfl
theorem loc_beq (o : Option NameKind) : (o == some NameKind.local) = (match o with | some .local => true | _ => false) := by
  cases o with
  | none => rfl
  | some k => cases k <;> rfl
theorem swapped_of {env : PySem.Env} (hk : env.scope.kind = .function) {ts vs : List Expr} {k k2 : Nat} {p p2 : Pos} {r : Option (List Str)} (h : swapR env.scope ts vs = some r) :
    swappedStores [.Tuple ts k p] (.Tuple vs k2 p2) env = pure r := by
  unfold swapR at h
  have hb : env.blockKind = .function := block_fn hk
  unfold swappedStores
  dsimp only
  by_cases c1 : (!(ts.length == 2 || ts.length == 3) || vs.length != ts.length) = true
  · rw [if_pos c1] at h; cases h
    exact if_pos (by rw [c1]; rfl)
  · rw [if_neg c1] at h
    have c1' := Bool.eq_false_iff.mpr c1
    refine Eq.trans (if_neg (by rw [c1', hb]; decide)) ?_
    by_cases c2 : vs.any isStarE = true
    · rw [if_pos c2] at h; cases h; exact if_pos c2
    · rw [if_neg c2] at h
      refine Eq.trans (if_neg c2) ?_
      dsimp only at h
      by_cases c3 : ((ts.filterMap (swapNm env.scope ((ts.head?.map (·.pos.line)).getD 0))).length != ts.length || (ts.filterMap (swapNm env.scope ((ts.head?.map (·.pos.line)).getD 0))).eraseDups.length != (ts.filterMap (swapNm env.scope ((ts.head?.map (·.pos.line)).getD 0))).length) = true
      · rw [if_pos c3] at h; cases h
        exact if_pos c3
      · rw [if_neg c3] at h
        refine Eq.trans (if_neg c3) ?_
        by_cases c4 : vs.all (foldedForSure 8) = true
        · rw [if_pos c4] at h; cases h; exact if_pos c4
        · rw [if_neg c4] at h
          refine Eq.trans (if_neg c4) ?_
          by_cases c5 : vs.all (constantsAlone 8) = true
          · rw [if_pos c5] at h; cases h
          · rw [if_neg c5] at h; cases h
            exact if_neg c5
/-- is the comprehension's value stored within its frame -/
def swB (sc : Scope) (x : Str) (p vp : Pos) (scope : Scope) : Bool := isLocal sc x && p.line == vp.line && !(scope.names.any fun (n, k) => n == x && (k == .local || k == .cell))
theorem swaps_lc {env : PySem.Env} (hk : env.scope.kind = .function) {elt : Expr} {gs : List Comprehension} {scope : Scope} {vp p : Pos} {x : Str} {l : Nat} :
    swapsWith (.ListComp elt gs scope vp) (some (.Name x p)) l env = pure (swB env.scope x p vp scope) := by
  unfold swapsWith swB isLocal
  dsimp only
  rw [block_fn hk]
  show pure _ = pure _
  congr 1
  show ((ScopeKind.function == ScopeKind.function) && (env.scope.names.lookup x == some NameKind.local) && _ && _) = _
  rw [loc_beq]
  rfl

/-- three names at once -/
def tPar3 (i j k : Nat) (ta : TA) : TS := fun D σ H => ta σ H fun vs H1 => ∃ v w u, vs = [v, w, u] ∧ D.nx (((σ.set i (some v)).set j (some w)).set k (some u)) H1
theorem ps_par3 {X : Cx} {pos : Pos} {i j k : Nat} {x y z : Str} {a b d : Expr} {ta : TA} {px py pz pt : Pos} {kt k2 : Nat} {pt2 : Pos} (hc : X.calm = true) (hN : X.N.Nodup) (hi : X.N[i]? = some x) (hj : X.N[j]? = some y) (hk : X.N[k]? = some z) (hij : i ≠ j) (hik : i ≠ k) (hjk : j ≠ k)
    (hx : X.env.scope.names.lookup x = some .local) (hy : X.env.scope.names.lookup y = some .local) (hz : X.env.scope.names.lookup z = some .local) (ha : PA X [a, b, d] ta)
    (hw : swappedStores [.Tuple [.Name x px, .Name y py, .Name z pz] kt pt] (.Tuple [a, b, d] k2 pt2) X.env = pure (some [x, y, z])) :
    PS X (.Assign [.Tuple [.Name x px, .Name y py, .Name z pz] kt pt] (.Tuple [a, b, d] k2 pt2) pos) (tPar3 i j k ta) := by
  refine ⟨fun pins s σ H D I h => ?_⟩
  rw [exec_Assign_arm]
  refine wpAny_bind (wpAny_standAt ?_)
  rw [show swapsWithSole [.Tuple [.Name x px, .Name y py, .Name z pz] kt pt] (.Tuple [a, b, d] k2 pt2) pos.line X.env = pure false from rfl]
  refine wpAny_bind (wpAny_pure ?_)
  rw [if_neg (by decide)]
  refine wpAny_bind (Tuple_ (thn (ha.run _ pins s σ H _ I h) fun us s1 ⟨vs, H1, I1, r1, q1⟩ => ?_))
  obtain ⟨v, w, u, e1, q1⟩ := q1
  subst e1
  obtain ⟨u1, u2, u3, rfl, rv, rw', ru⟩ : ∃ u1 u2 u3, us = [u1, u2, u3] ∧ RelV v u1 ∧ RelV w u2 ∧ RelV u u3 := by
    cases r1 with
    | cons p q =>
      cases q with
      | cons p' q' =>
        cases q' with
        | cons p2 q2 =>
          cases q2
          exact ⟨_, _, _, rfl, p, p', p2⟩
  refine wpAny_newObj_type ?_ (by show 3 ≤ sizeLine; decide)
  have I2 : Inv X pins σ H1 { s1 with heap := s1.heap.push { cls := .type "tuple", data := .seq [u1, u2, u3].toArray } } := I1.kept (t' := s1.toks) fun b o e => Heap.get?_push_of_some _ e
  rw [hw]
  refine wpAny_bind (wpAny_pure ?_)
  show wpAny (model X.prog X.w) X.A (do rule "assign.swapped-stores"; let items ← unpackItems (.ref s1.heap.objs.size) 3 none; assignInOrder [fun v => bindName X.env z v, fun v => bindName X.env y v, fun v => bindName X.env x v] items.reverse; pure Flow.next) _ _ _
  refine wpAny_bind (wpAny_rule (wpAny_bind (unpackItems_tuple (items := #[u1, u2, u3]) (I.ok.hd hc) (IsTup.new s1.heap _) fun h' hx' => ?_)))
  have I3 := I2.kept (h' := h') (t' := s1.toks) fun b o e => hx' b o (Nat.ne_of_lt (Heap.lt_size e)) e
  show wpAny _ _ (assignInOrder [fun v => bindName X.env z v, fun v => bindName X.env y v, fun v => bindName X.env x v] [u3, u2, u1] >>= fun _ => pure Flow.next) _ _ _
  refine wpAny_bind (assignInOrder_cons (wpAny_bindName (store_ok I3 hN hk (.inl hz) ru (fun s2 I4 => ?_) (.inr hz))))
  refine assignInOrder_cons (wpAny_bindName (store_ok I4 hN hj (.inl hy) rw' (fun s3 I5 => ?_) (.inr hy)))
  refine assignInOrder_cons (wpAny_bindName (store_ok I5 hN hi (.inl hx) rv (fun s4 I6 => assignInOrder_nil (wpAny_pure ?_)) (.inr hx)))
  rw [List.set_comm _ _ (Ne.symm hjk), List.set_comm _ _ (Ne.symm hik), List.set_comm _ _ (Ne.symm hij)] at I6
  exact ⟨_, H1, I6, q1⟩

/-! ### stores at places -/
def rSetAll : V → V → V → Hp → (Hp → Prop) → Prop := fun o i v H Q => rSetL o i v H Q ∨ ∃ a H', o = .ref a ∧ DPut H a i v H' ∧ Q H'
theorem set_all {X : Cx} (hu : X.A.units + 1 < cLine) : PSet X rSetAll := by
  intro pins s σ H o i v ov iv u Q I ro ri rv h
  rcases h with h | ⟨a, H', rfl, g, q⟩
  · exact set_list pins s σ H o i v ov iv u Q I ro ri rv h
  · cases ro
    exact d_setItem hu I g ri rv fun s' I' => ⟨H', I', q⟩
section
variable {K : PySem.W.Frag} {mg : Str → Option Value} {W : WX} {c : Cfg} {S : Hp} {ι : List Addr} {h : Hs} {H : Hp}
theorem set_sound (r : HRel K S ι h H) {o i d : D} {ov iv v : V} (ro : RV K S ι o ov) (ri : RV K S ι i iv) (rv : RV K S ι d v) {h3 : Hs} (e : setD o i d h = some h3) {Q : Hp → Prop} (hQ : ∀ H', HRel K S ι h3 H' → Ext S ι H S ι H' → Q H') : rSetAll ov iv v H Q := by
  cases o with
  | ref n =>
    cases ro with
    | @ref _ a en =>
      replace e : (match h[n]? with
        | some (Cell.lst xs) => setLst n xs i d h
        | some (.dct t kvs) => setDct n t kvs i d h
        | _ => none) = some h3 := e
      cases q : h[n]? with
      | none => rw [q] at e; cases e
      | some c =>
        rw [q] at e
        have hc := r.cell n a c en q
        cases c with
        | dead => cases e
        | obj _ _ => cases e
        | lst xs =>
          obtain ⟨h1, vs, h2, rs⟩ := hc
          cases i with
          | int k =>
            cases ri
            replace e : (ixN xs.length k).map (fun j => h.set n (.lst (xs.set j d))) = some h3 := e
            cases q2 : ixN xs.length k with
            | none => rw [q2] at e; cases e
            | some j =>
              rw [q2] at e
              cases e
              exact .inl ⟨a, vs, k, j, rfl, rfl, h2, by rw [← rs.length]; exact q2, hQ _ (r.write en h1 ⟨h1, _, upd_same, RVs.set rv j rs⟩) (Ext.write en)⟩
          | _ => cases e
        | dct t kvs =>
          replace e : setDct n t kvs i d h = some h3 := e
          unfold setDct at e
          cases q2 : keyOf i with
          | none => rw [q2] at e; cases e
          | some k =>
            rw [q2] at e
            dsimp only at e
            split at e
            · rename_i hk
              cases e
              have hl := Nat.lt_of_lt_of_le hk.2 LN_le
              cases t with
              | false =>
                obtain ⟨h1, kv, h2, rs⟩ := hc
                cases k with
                | inr _ => cases hk.1
                | inl k =>
                  rw [Paired.length rs] at hl
                  have hp : DPut H a iv v (upd H a (.dK (putK kv k v))) := by
                    cases i with
                    | int i => cases q2; cases ri; exact DPut.k (k := Sum.inl i) h2 hl
                    | str i => cases q2; cases ri; exact DPut.k (k := Sum.inr i) h2 hl
                    | tup xs =>
                      replace q2 : (keysOf xs).map Sum.inr = some _ := q2
                      cases q3 : keysOf xs with
                      | none => rw [q3] at q2; cases q2
                      | some _ => rw [q3] at q2; cases q2
                    | _ => cases q2
                  exact .inr ⟨a, _, rfl, hp, hQ _ (r.write en h1 ⟨h1, _, upd_same, dput_k rs k rv⟩) (Ext.write en)⟩
              | true =>
                obtain ⟨h1, kv, h2, rs⟩ := hc
                cases k with
                | inl _ => cases hk.1
                | inr k =>
                  rw [Paired.length rs] at hl
                  have hp : DPut H a iv v (upd H a (.dT (putK kv k v))) := by
                    cases i with
                    | tup xs =>
                      replace q2 : (keysOf xs).map Sum.inr = some _ := q2
                      cases q3 : keysOf xs with
                      | none => rw [q3] at q2; cases q2
                      | some ks =>
                        rw [q3] at q2; cases q2
                        cases ri with
                        | tup e1 r1 =>
                          have e2 := keys_ok r1 q3
                          subst e2
                          exact DPut.t h2 (r.sub _ _ e1) hl
                    | _ => cases q2
                  exact .inr ⟨a, _, rfl, hp, hQ _ (r.write en h1 ⟨h1, _, upd_same, dput_t rs k rv⟩) (Ext.write en)⟩
            · cases e
  | _ => cases e
end
end Ev
set_option maxHeartbeats 1000000
/-! Ev, part M: statements: checker, the induction, defs. -/
namespace Ev
open PySem PySem.Spec PyProof.Rows L2

/-! ### targets, any -/
mutual
def Tg.okG (N : List Str) (bl : BL) (fl : List Str) (fn : Str → Bool) (sc : Scope) : Tg → Expr → Bool
  | .name i, e => match e with
    | .Name x _ => decide (N[i]? = some x) && loc sc x && (fn x || isLocal sc x)
    | _ => false
  | .tup ts, e => match e with
    | .Tuple es _ _ => ts.okG N bl fl fn sc es
    | _ => false
  | .idx a i, e => match e with
    | .Subscript x y _ => a.ok N bl fl sc x && i.ok N bl fl sc y && notSlice y
    | _ => false
def Tgs.okG (N : List Str) (bl : BL) (fl : List Str) (fn : Str → Bool) (sc : Scope) : Tgs → List Expr → Bool
  | .nil, es => es.isEmpty
  | .cons t ts, es => match es with
    | e :: r => notStar e && t.okG N bl fl fn sc e && ts.okG N bl fl fn sc r
    | [] => false
end
section
variable {K : PySem.W.Frag} {mg : Str → Option Value} {W : WX} {c : Cfg}
theorem sg_name (i : Nat) : SG K mg W (gName i) ((Tg.name i).den c) := Tg.sg (.name i) rfl
theorem post_of {S : Hp} {ι : List Addr} {H : Hp} {Q : L2.St → Hp → Prop} {o : Out} (hp : match o with
    | .nx ρ' h' => ∀ S' ι' σ' H', HRel K S' ι' h' H' → ERel K S' ι' ρ' σ' → Ext S ι H S' ι' H' → Q σ' H'
    | .exc c p ρ' h' => ∀ cls dd S' ι' σ' H', HRel K S' ι' h' H' → ERel K S' ι' ρ' σ' → Ext S ι H S' ι' H' → XOk K mg c p cls dd S' ι' → W cls dd σ' H'
    | _ => False) : Post K mg W { nx := Q, rt := fun _ _ => False } S ι H o := by
  cases o with
  | nx _ _ => exact hp
  | exc _ _ _ _ => exact hp
  | _ => exact hp.elim
theorem sg_idx {ta tb : TE} {da db : Env → Hs → R D} (ha : SE K mg W ta da) (hb : SE K mg W tb db) : SG K mg W (gSub ta tb rSetAll) (fun d ρ h => (da ρ h).go ρ fun x h1 => (db ρ h1).go ρ fun y h2 => match setD x y d h2 with
    | some h3 => .nx ρ h3
    | none => .stuck) := by
  intro d v ρ h S ι σ H Q r re rv hp
  have hp' := post_of hp
  refine ha ρ h S ι σ H _ r re ((Post.go re hp').imp fun x h1 S1 ι1 H1 r1 ex1 p1 o ro => ?_)
  refine hb ρ h1 S1 ι1 σ H1 _ r1 (re.ext ex1) ((Post.go (re.ext ex1) p1).imp fun y h2 S2 ι2 H2 r2 ex2 p2 i ri => ?_)
  cases e : setD x y d h2 with
  | none => rw [e] at p2; exact False.elim p2
  | some h3 =>
    rw [e] at p2
    exact set_sound r2 (ro.ext ex2) ri ((rv.ext ex1).ext ex2) e fun H' r3 ex3 => p2 S2 ι2 σ H' r3 (((re.ext ex1).ext ex2).ext ex3) ex3
theorem sgs_cons {g : TG} {gs : TGs} {dg : D → Env → Hs → Out} {dgs : List D → Env → Hs → Out} (hg : SG K mg W g dg) (hgs : SGs K mg W gs dgs) : SGs K mg W (gCons g gs) (fun ds ρ h => match ds with
    | d :: r => (dg d ρ h).andThen fun ρ1 h1 => dgs r ρ1 h1
    | [] => .stuck) := by
  intro ds vs ρ h S ι σ H Q r re rv hp
  cases rv with
  | nil => exact hp.elim
  | @cons d v ds vs r1 rs =>
    refine ⟨v, vs, rfl, hg d v ρ h S ι σ H _ r re r1 ?_⟩
    dsimp only at hp
    cases e : dg d ρ h with
    | nx ρ1 h1 =>
      rw [e, Out.nx_then] at hp
      intro S1 ι1 σ1 H1 hr1 re1 ex1
      refine hgs ds vs ρ1 h1 S1 ι1 σ1 H1 Q hr1 re1 (rs.ext ex1) ?_
      cases e2 : dgs ds ρ1 h1 with
      | nx ρ2 h2 => rw [e2] at hp; exact fun S' ι' σ' H' a b x => hp S' ι' σ' H' a b (ex1.trans x)
      | exc x p ρ2 h2 => rw [e2] at hp; exact fun cls dd S' ι' σ' H' a b x xo => hp cls dd S' ι' σ' H' a b (ex1.trans x) xo
      | ret _ _ => rw [e2] at hp; exact hp
      | brk _ _ => rw [e2] at hp; exact hp
      | cnt _ _ => rw [e2] at hp; exact hp
      | stuck => rw [e2] at hp; exact hp
    | exc x p ρ1 h1 => rw [e] at hp; exact hp
    | ret _ _ => rw [e] at hp; exact hp.elim
    | brk _ _ => rw [e] at hp; exact hp.elim
    | cnt _ _ => rw [e] at hp; exact hp.elim
    | stuck => rw [e] at hp; exact hp.elim
/-- a tuple of targets, of as many members -/
theorem sg_tup {n : Nat} {gs : TGs} {dgs : List D → Env → Hs → Out} (hgs : SGs K mg W gs dgs) : SG K mg W (gTL K n gs) (fun d ρ h => match d with
    | .tup xs => if xs.length = n then dgs xs ρ h else .stuck
    | .vt xs => if xs.length = n then dgs xs ρ h else .stuck
    | .lst xs => if xs.length = n then dgs xs ρ h else .stuck
    | _ => .stuck) := by
  intro d v ρ h S ι σ H Q r re rv hp
  cases d with
  | tup xs =>
    cases rv with
    | @tup a vs _ e1 r1 =>
      dsimp only at hp
      by_cases hl : xs.length = n
      · rw [if_pos hl] at hp
        exact .inl ⟨a, vs, rfl, SqT.of (r.sub _ _ e1), by rw [← r1.length]; exact hl, hgs xs vs ρ h S ι σ H Q r re r1 hp⟩
      · rw [if_neg hl] at hp; exact hp.elim
  | vt xs =>
    cases rv with
    | @vt a o vs _ e1 _ r1 =>
      dsimp only at hp
      by_cases hl : xs.length = n
      · rw [if_pos hl] at hp
        exact .inl ⟨a, vs, rfl, SqT.up r.sub (vtT e1), by rw [← r1.length]; exact hl, hgs xs vs ρ h S ι σ H Q r re r1 hp⟩
      · rw [if_neg hl] at hp; exact hp.elim
  | lst xs =>
    cases rv with
    | @lst a vs _ e1 r1 =>
      dsimp only at hp
      by_cases hl : xs.length = n
      · rw [if_pos hl] at hp
        exact .inr ⟨a, vs, rfl, SqL.of (r.sub _ _ e1), by rw [← r1.length]; exact hl, hgs xs vs ρ h S ι σ H Q r re r1 hp⟩
      · rw [if_neg hl] at hp; exact hp.elim
  | _ => exact hp.elim
end

theorem tgs_pg {X : Cx} {es : List Expr} {g : TGs} {n : Nat} (p : PGs X es g) (h1 : (assignEach es X.env).length = n) (h2 : (assignEach es X.env).findIdx? (·.1) = none) (hc : X.calm = true) {k : Nat} {pos : Pos} : PG X (.Tuple es k pos) (gTL X.K n g) := pg_tl hc p h1 h2
theorem asub_of {o i : Expr} {pos : Pos} {env : PySem.Env} (h : notSlice i = true) : ∀ v, assign (.Subscript o i pos) env v = (do
      let ov ← holding [v] (eval o env)
      let iv ← holding [v, ov] (eval i env)
      standAt pos
      holding [v, ov, iv] (setItem ov iv v)
      release [v, ov, iv] []) := by
  intro v
  cases i <;> first | rfl | cases h
mutual
theorem Tg.soundG {c : Cfg} {bl : BL} {fl : List Str} {X : Cx} {W : WX} (G : Good c bl fl X) (tk : Takes X W) : ∀ (t : Tg) (e : Expr), t.okG X.N bl fl X.fn X.env.scope e = true → ∃ g, PG X e g ∧ SG X.K X.mg W g (t.den c)
  | .name i, e, h => by
    unfold Tg.okG at h
    split at h
    · simp only [Bool.and_eq_true, decide_eq_true_eq, Bool.or_eq_true] at h
      exact ⟨_, pg_name G.nd h.1.1 (loc_of h.1.2) (h.2.imp id local_of), sg_name i⟩
    · cases h
  | .tup ts, e, h => by
    unfold Tg.okG at h
    split at h
    · obtain ⟨g, p, h1, h2, q⟩ := Tgs.soundG G tk ts _ h
      exact ⟨_, tgs_pg p h1 h2 G.calm, sg_tup q⟩
    · cases h
  | .idx a i, e, h => by
    unfold Tg.okG at h
    split at h
    · simp only [Bool.and_eq_true] at h
      obtain ⟨⟨h1, h2⟩, h3⟩ := h
      obtain ⟨ta, p1, q1⟩ := Ex.sound a X W G tk _ h1
      obtain ⟨tb, p2, q2⟩ := Ex.sound i X W G tk _ h2
      exact ⟨_, pg_sub p1 p2 (set_all (by have := G.un; omega)) (asub_of h3), sg_idx q1 q2⟩
    · cases h
theorem Tgs.soundG {c : Cfg} {bl : BL} {fl : List Str} {X : Cx} {W : WX} (G : Good c bl fl X) (tk : Takes X W) : ∀ (ts : Tgs) (es : List Expr), ts.okG X.N bl fl X.fn X.env.scope es = true →
    ∃ g, PGs X es g ∧ (assignEach es X.env).length = ts.n ∧ (assignEach es X.env).findIdx? (·.1) = none ∧ SGs X.K X.mg W g (ts.den c)
  | .nil, es, h => by
    unfold Tgs.okG at h
    cases es with
    | nil => exact ⟨_, pgs_nil, rfl, rfl, Tgs.sg .nil rfl⟩
    | cons _ _ => cases h
  | .cons t ts, es, h => by
    unfold Tgs.okG at h
    cases es with
    | nil => cases h
    | cons e es =>
      dsimp only at h
      simp only [Bool.and_eq_true] at h
      obtain ⟨g1, p1, q1⟩ := Tg.soundG G tk t e h.1.2
      obtain ⟨g, p, k2, k3, q⟩ := Tgs.soundG G tk ts es h.2
      have hs : assignEach (e :: es) X.env = (false, assign e X.env) :: assignEach es X.env := by
        cases e <;> first | rfl | (have := h.1.1; cases this)
      refine ⟨_, pgs_cons p1 p (assign1 h.1.1), by rw [hs]; exact congrArg Nat.succ k2, ?_, sgs_cons q1 q⟩
      rw [hs, List.findIdx?_cons, k3]; rfl
end

/-! ### statements -/
def noSwap (sc : Scope) (t v : Expr) : Bool := match t, v with
  | .Tuple ts _ _, .Tuple vs _ _ => (match swapR sc ts vs with | some none => true | _ => false)
  | .List _ _, .Tuple _ _ _ => false
  | _, _ => true
theorem noswap_of {env : PySem.Env} (hk : env.scope.kind = .function) {t v : Expr} (h : noSwap env.scope t v = true) : swappedStores [t] v env = pure none := by
  cases t with
  | Tuple ts k p =>
    cases v with
    | Tuple vs k2 p2 =>
      unfold noSwap at h
      dsimp only at h
      split at h
      · rename_i e; exact swapped_of hk e
      · cases h
    | _ => rfl
  | List ts p =>
    cases v with
    | Tuple vs k2 p2 => cases h
    | _ => rfl
  | _ => cases v <;> rfl
def isTupE : Expr → Bool
  | .Tuple _ _ _ => true
  | _ => false
theorem swaps_tup {e t : Expr} {l : Nat} {env : PySem.Env} (h : isTupE t = true) : swapsWith e (some t) l env = pure false := by
  cases t <;> first | (cases e <;> rfl) | cases h
def isCst : Ex → Bool
  | .cint _ => true
  | .cbl _ => true
  | .cnon => true
  | .cstr _ => true
  | _ => false
def isLc : Ex → Bool
  | .lc .. => true
  | _ => false
/-- what an except suite hands back; n: the error's name -/
def Hx.ok (bl : BL) (xl : List Str) (sc : Scope) (n : Str) : Hx → Expr → Bool
  | .cint i, e => match e with
    | .Constant (.int j) _ _ => decide (i = j)
    | _ => false
  | .cbl i, e => match e with
    | .Constant (.bool j) _ _ => decide (i = j)
    | _ => false
  | .cnon, e => match e with
    | .Constant .none _ _ => true
    | _ => false
  | .cstr i, e => match e with
    | .Constant (.str j) _ _ => decide (i = j)
    | _ => false
  | .isi x, e => match e with
    | .Call (.Name f _) [.Name m _, .Name y _] [] _ => decide (f = ("isinstance" : Str)) && bl.contains f && glb sc f && nodbg m && decide (m = n) && decide (y = x) && xl.contains y && glb sc y && nodbg y
    | _ => false
  | .isv, e => match e with
    | .Call (.Name f _) [.Name m _, .Name y _] [] _ => decide (f = ("isinstance" : Str)) && bl.contains f && glb sc f && nodbg m && decide (m = n) && decide (y = ("ValueError" : Str)) && bl.contains y && glb sc y
    | _ => false
  | .and a b, e => match e with
    | .BoolOp .And (x :: y :: r) pos => a.ok bl xl sc n x && (match r with | [] => b.ok bl xl sc n y | z :: r => b.ok bl xl sc n (.BoolOp .And (y :: z :: r) pos))
    | _ => false
  | .not a, e => match e with
    | .UnaryOp .Not x _ => a.ok bl xl sc n x
    | _ => false
  | .pick a b i, e => match e with
    | .Subscript (.List [x, y] _) (.Call (.Name f _) [z] [] _) _ => decide (f = ("int" : Str)) && bl.contains f && glb sc f && a.ok bl xl sc n x && notStar x && b.ok bl xl sc n y && notStar y && i.ok bl xl sc n z && notStar z
    | _ => false
def isFz : Sm → Bool
  | .fz _ => true
  | _ => false
mutual
def Sm.ok (N : List Str) (bl : BL) (fl xl : List Str) (sc : Scope) : Sm → Stmt → Bool
  | .set i e, s => match s with
    | .Assign [.Name x p] v _ => decide (N[i]? = some x) && loc sc x && e.ok N bl fl sc v && (notComp v || isLc e)
    | _ => false
  | .asg tg e, s => match s with
    | .Assign [t] v _ => e.ok N bl fl sc v && (notComp v || isTupE t) && notStar t && tg.okG N bl fl (fun _ => true) sc t && noSwap sc t v
    | _ => false
  | .par is es, s => match s with
    | .Assign [.Tuple [.Name x px, .Name y py] _ _] (.Tuple [a, b] _ _) _ => (match is with
      | [i, j] => decide (N[i]? = some x) && decide (N[j]? = some y) && decide (i ≠ j) && isLocal sc x && isLocal sc y && es.ok N bl fl sc [a, b] &&
        decide (swapR sc [.Name x px, .Name y py] [a, b] = some (some [x, y]))
      | _ => false)
    | .Assign [.Tuple [.Name x px, .Name y py, .Name z pz] _ _] (.Tuple [a, b, d] _ _) _ => (match is with
      | [i, j, k] => decide (N[i]? = some x) && decide (N[j]? = some y) && decide (N[k]? = some z) && decide (i ≠ j) && decide (i ≠ k) && decide (j ≠ k) && isLocal sc x && isLocal sc y && isLocal sc z && es.ok N bl fl sc [a, b, d] &&
        decide (swapR sc [.Name x px, .Name y py, .Name z pz] [a, b, d] = some (some [x, y, z]))
      | _ => false)
    | _ => false
  | .aug i o e, s => match s with
    | .AugAssign (.Name x _) p v _ => decide (o.op = p) && decide (N[i]? = some x) && loc sc x && e.ok N bl fl sc v
    | _ => false
  | .expr e, s => match s with
    | .Expr v _ => e.ok N bl fl sc v && notComp v
    | _ => false
  | .ret e, s => match s with
    | .Return (some v) _ => e.ok N bl fl sc v
    | _ => false
  | .retN, s => match s with
    | .Return none _ => true
    | _ => false
  | .ite t a b, s => match s with
    | .If c x y _ => t.ok N bl fl sc c && a.ok N bl fl xl sc x && b.ok N bl fl xl sc y
    | _ => false
  | .while t b, s => match s with
    | .While c x [] _ => t.ok N bl fl sc c && b.ok N bl fl xl sc x
    | _ => false
  | .for tg it b, s => match s with
    | .For t i x [] _ => it.ok N bl fl sc t i && tg.okG N bl fl (fun _ => true) sc t && b.ok N bl fl xl sc x
    | _ => false
  | .pass, s => match s with
    | .Pass _ => true
    | _ => false
  | .brk, s => match s with
    | .Break _ => true
    | _ => false
  | .cnt, s => match s with
    | .Continue _ => true
    | _ => false
  | .raise x, s => match s with
    | .Raise (some (.Call (.Name y _) [.Constant (.str _) _ _] [] _)) none _ => decide (y = x) && xl.contains x && glb sc y && nodbg y
    | _ => false
  | .tryR b x e, s => match s with
    | .Try bd [.ExceptHandler (some (.Name y _)) none [.Return (some v) _] _] [] [] _ => decide (y = x) && xl.contains x && glb sc y && nodbg y && b.ok N bl fl xl sc bd && isCst e && e.ok N bl fl sc v
    | _ => false
  | .tryA b x i e, s => match s with
    | .Try bd [.ExceptHandler (some (.Name y _)) (some n) [.Return (some v) _] _] [] [] _ => decide (y = x) && xl.contains x && glb sc y && nodbg y && b.ok N bl fl xl sc bd && decide (N[i]? = some n) && isLocal sc n && nodbg n && e.ok bl xl sc n v
    | _ => false
  | .fz _, _ => false
  | .setA k a f e, s => match s with
    | .Assign [.Attribute o y _] v _ => decide (y = f) && bl.ats.contains (k, f) && e.ok N bl fl sc v && a.ok N bl fl sc o && notComp v
    | _ => false
def Sms.ok (N : List Str) (bl : BL) (fl xl : List Str) (sc : Scope) : Sms → List Stmt → Bool
  | .nil, ss => ss.isEmpty
  | .cons a as, ss => if isFz a then as.ok N bl fl xl sc ss else match ss with
    | s :: r => a.ok N bl fl xl sc s && as.ok N bl fl xl sc r
    | [] => false
end
abbrev veBm : List Value := [.type "ValueError", .type "Exception", .type "BaseException", .type "object"]
def XFact (X : Cx) (x : Str) : Prop := ∃ C : Addr, X.mg x = some (.ref C) ∧ PySem.W.excIn X.K C veBm "ValueError.__new__" = true ∧ PySem.W.keepIn X.K (.ref C) = true ∧
  PySem.W.subIn X.K (.ref C) (.type "BaseException") = some true ∧ PySem.W.typeIn X.K (.ref C) = some (.type "type")
structure GoodS (c : Cfg) (bl : BL) (fl xl : List Str) (X : Cx) : Prop extends Good c bl fl X where
  fnT : ∀ x, X.fn x = true
  po : PassesOwn (model X.prog X.w) X.A X.env X.xe
  xf : ∀ x, xl.contains x = true → XFact X x
  xm : ∀ k x, xl.contains k = true → xl.contains x = true → ∃ C E : Addr, X.mg k = some (.ref C) ∧ X.mg x = some (.ref E) ∧ PySem.W.exmOne X.K (.ref C) (.ref E) = some (supOf k x)
  xi : ∀ k x, xl.contains k = true → xl.contains x = true → ∃ C E : Addr, X.mg k = some (.ref C) ∧ X.mg x = some (.ref E) ∧ ExcC X.K C ∧ PySem.W.kitOne X.K (.ref C) (.type "ValueError") = some true ∧ PySem.W.kitOne X.K (.ref C) (.ref E) = some (supOf k x)
  stk : X.stack = X.env :: X.outer
  frm : X.env.frame = some X.env.locals
section
variable {K : PySem.W.Frag} {mg : Str → Option Value} {W : WX} {c : Cfg} {ta tb : TE} {da db : Env → Hs → R D} {tt : TT} {dt : Env → Hs → R Bool} {t u : TS} {dt' du : Env → Hs → Out}
theorem ss_seq (h1 : SS K mg W t dt') (h2 : SS K mg W u du) : SS K mg W (tSeq t u) (fun ρ h => (dt' ρ h).andThen du) := by
  intro ρ h S ι σ H D' r re hp
  refine h1 ρ h S ι σ H _ r re ?_
  replace hp : Post K mg W D' S ι H ((dt' ρ h).andThen du) := hp
  cases e : dt' ρ h with
  | nx ρ1 h1 =>
    rw [e] at hp
    exact fun S1 ι1 σ1 H1 r1 re1 ex1 => h2 ρ1 h1 S1 ι1 σ1 H1 D' r1 re1 (Post.ext (show Post K mg W D' S ι H (du ρ1 h1) from hp) ex1)
  | ret d h1 => rw [e] at hp; exact hp
  | brk ρ1 h1 => rw [e] at hp; exact hp
  | cnt ρ1 h1 => rw [e] at hp; exact hp
  | exc x p ρ1 h1 => rw [e] at hp; exact hp
  | stuck => rw [e] at hp; exact hp
theorem ss_next : SS K mg W tNext (fun ρ h => .nx ρ h) := fun ρ h S ι σ H D' r re hp => hp S ι σ H r re Ext.refl
/-- a target's wish out of a statement's -/
def straight : Out → Prop
  | .nx _ _ => True
  | .exc _ _ _ _ => True
  | .stuck => True
  | _ => False
theorem straight_go {α : Type} {x : R α} {ρ : Env} {f : α → Hs → Out} (h : ∀ a h', straight (f a h')) : straight (x.go ρ f) := by
  cases x with
  | ok a h' => exact h a h'
  | exc _ _ _ => trivial
  | stuck => trivial
theorem straight_then {o : Out} {f : Env → Hs → Out} (h1 : straight o) (h2 : ∀ ρ h, straight (f ρ h)) : straight (o.andThen f) := by
  cases o with
  | nx ρ h => exact h2 ρ h
  | exc _ _ _ _ => trivial
  | stuck => trivial
  | _ => exact h1.elim
theorem g_of {S : Hp} {ι : List Addr} {H : Hp} {D' : Ends} {o : Out} : Post K mg W D' S ι H o → straight o → match o with
    | .nx ρ' h' => ∀ S' ι' σ' H', HRel K S' ι' h' H' → ERel K S' ι' ρ' σ' → Ext S ι H S' ι' H' → D'.nx σ' H'
    | .exc c p ρ' h' => ∀ cls dd S' ι' σ' H', HRel K S' ι' h' H' → ERel K S' ι' ρ' σ' → Ext S ι H S' ι' H' → XOk K mg c p cls dd S' ι' → W cls dd σ' H'
    | _ => False := by
  intro hp ho
  cases o with
  | nx _ _ => exact hp
  | exc _ _ _ _ => exact hp
  | stuck => exact hp
  | _ => exact ho.elim
mutual
theorem Tg.straight (c : Cfg) : ∀ (t : Tg) (d : D) (ρ : Env) (h : Hs), straight (t.den c d ρ h)
  | .name i, d, ρ, h => by
    show Ev.straight (if i < ρ.length then _ else _)
    split <;> trivial
  | .tup ts, d, ρ, h => by
    cases d with
    | tup xs =>
      show Ev.straight (if xs.length = ts.n then _ else _)
      split
      · exact Tgs.straight c ts xs ρ h
      · trivial
    | vt xs =>
      show Ev.straight (if xs.length = ts.n then _ else _)
      split
      · exact Tgs.straight c ts xs ρ h
      · trivial
    | lst xs =>
      show Ev.straight (if xs.length = ts.n then _ else _)
      split
      · exact Tgs.straight c ts xs ρ h
      · trivial
    | _ => trivial
  | .idx a i, d, ρ, h => by
    refine straight_go fun x h1 => straight_go fun y h2 => ?_
    split <;> trivial
theorem Tgs.straight (c : Cfg) : ∀ (ts : Tgs) (ds : List D) (ρ : Env) (h : Hs), straight (ts.den c ds ρ h)
  | .nil, ds, ρ, h => by
    cases ds <;> trivial
  | .cons t ts, ds, ρ, h => by
    cases ds with
    | nil => trivial
    | cons d ds => exact straight_then (Tg.straight c t d ρ h) fun ρ1 h1 => Tgs.straight c ts ds ρ1 h1
end
theorem ss_asg {g : TG} {dg : D → Env → Hs → Out} (ha : SE K mg W ta da) (hg : SG K mg W g dg) (hst : ∀ d ρ h, straight (dg d ρ h)) : SS K mg W (tAsg ta g) (fun ρ h => (da ρ h).go ρ fun d h1 => dg d ρ h1) := by
  intro ρ h S ι σ H D' r re hp
  refine ha ρ h S ι σ H _ r re ((Post.go re hp).imp fun x h1 S1 ι1 H1 r1 ex1 p1 v rv => ?_)
  exact hg x v ρ h1 S1 ι1 σ H1 _ r1 (re.ext ex1) rv (g_of p1 (hst x ρ h1))
theorem ss_set (i : Nat) (ha : SE K mg W ta da) : SS K mg W (tAsg ta (gName i)) (fun ρ h => (da ρ h).go ρ fun d h1 => setS ρ i d h1) := by
  have := ss_asg (W := W) ha (sg_name (c := ⟨fun _ _ _ => .stuck, fun _ => none, [], 0⟩) i) (Tg.straight _ (.name i))
  exact this
theorem ss_expr (ha : SE K mg W ta da) : SS K mg W (tDrop ta) (fun ρ h => (da ρ h).go ρ fun _ h1 => .nx ρ h1) := by
  intro ρ h S ι σ H D' r re hp
  exact ha ρ h S ι σ H _ r re ((Post.go re hp).imp fun x h1 S1 ι1 H1 r1 ex1 p1 v rv => p1 S1 ι1 σ H1 r1 (re.ext ex1) Ext.refl)
theorem ss_ret (ha : SE K mg W ta da) : SS K mg W (tRet ta) (fun ρ h => (da ρ h).go ρ fun d h1 => .ret d h1) := by
  intro ρ h S ι σ H D' r re hp
  exact ha ρ h S ι σ H _ r re ((Post.go re hp).imp fun x h1 S1 ι1 H1 r1 ex1 p1 v rv => p1 v S1 ι1 H1 r1 Ext.refl rv)
theorem ss_retN : SS K mg W tRetN (fun _ h => .ret .non h) := fun ρ h S ι σ H D' r re hp => hp .non S ι H r Ext.refl .non
theorem ss_ite (hc : ST K mg W tt dt) (h1 : SS K mg W t dt') (h2 : SS K mg W u du) : SS K mg W (tIfS tt t u) (fun ρ h => (dt ρ h).go ρ fun k h1 => if k = true then dt' ρ h1 else du ρ h1) := by
  intro ρ h S ι σ H D' r re hp
  refine hc ρ h S ι σ H _ r re ((Post.go re hp).imp fun k h1' S1 ι1 H1 r1 ex1 p1 => ?_)
  cases k with
  | true => rw [if_pos rfl] at p1 ⊢; exact h1 ρ h1' S1 ι1 σ H1 D' r1 (re.ext ex1) p1
  | false => rw [if_neg Bool.false_ne_true] at p1 ⊢; exact h2 ρ h1' S1 ι1 σ H1 D' r1 (re.ext ex1) p1
theorem ss_while {F : Nat} (hc : ST K mg W tt dt) (hb : SS K mg W t dt') : SS K mg W (tWhile tt t) (fun ρ h => whileD dt dt' F ρ h) := fun ρ h S ι σ H D' r re hp => while_sound hc hb r re hp
theorem ss_for {wi : TI} {di : Env → Hs → R (List D)} {g : TG} {dg : D → Env → Hs → Out} (hi : SI K mg W wi di) (hg : SG K mg W g dg) (hb : SS K mg W t dt') : SS K mg W (tFor wi g t) (fun ρ h => (di ρ h).go ρ fun xs h1 => forD dg dt' xs ρ h1) := by
  intro ρ h S ι σ H D' r re hp
  exact hi ρ h S ι σ H _ r re ((Post.go re hp).imp fun xs h1 S1 ι1 H1 r1 ex1 p1 J hJ => for_sound hg hb hJ r1 (re.ext ex1) p1)
def rAug (o : BOp) : R2 := match o with
  | .add => fun x y H Q => rI0 (fun i j => .int (i + j)) x y H Q ∨ rAddS x y H Q
  | .sub => rI0 fun i j => .int (i - j)
  | .mul => rI CMul fun i j => .int (i * j)
  | .fdiv => rI CDiv fun i j => .int (i / j)
  | .mod => rI (fun _ j => 0 < j) fun i j => .int (i % j)
  | .pow => fun _ _ _ _ => False
theorem aug_ok {o : BOp} {x y : D} {z : D} {S : Hp} {ι : List Addr} {v u : V} (rx : RV K S ι x v) (ry : RV K S ι y u) (e : augD o x y = some z) {H : Hp} {Q : VK} (hQ : ∀ w, RV K S ι z w → Q w H) : rAug o v u H Q := by
  cases rx with
  | int i =>
    cases ry with
    | int j =>
      cases o with
      | add => cases e; exact .inl ⟨_, _, rfl, rfl, hQ _ (.int _)⟩
      | sub => cases e; exact ⟨_, _, rfl, rfl, hQ _ (.int _)⟩
      | mul =>
        replace e : (if (-(2 ^ 64) < i ∧ i < 2 ^ 64) ∨ (-(2 ^ 64) < j ∧ j < 2 ^ 64) then some (D.int (i * j)) else none) = some z := e
        split at e
        · rename_i hc; cases e; exact ⟨_, _, rfl, rfl, hc, hQ _ (.int _)⟩
        · cases e
      | fdiv =>
        replace e : (if 0 < j ∧ j < 1073741824 then some (D.int (i / j)) else none) = some z := e
        split at e
        · rename_i hc; cases e; exact ⟨_, _, rfl, rfl, hc, hQ _ (.int _)⟩
        · cases e
      | mod =>
        replace e : (if 0 < j then some (D.int (i % j)) else none) = some z := e
        split at e
        · rename_i hc; cases e; exact ⟨_, _, rfl, rfl, hc, hQ _ (.int _)⟩
        · cases e
      | pow => cases e
    | _ => cases o <;> cases e
  | str i =>
    cases ry with
    | str j =>
      cases o with
      | add =>
        replace e : (if i.length + j.length ≤ LN then some (D.str (i ++ j)) else none) = some z := e
        split at e
        · rename_i hc; cases e; exact .inr ⟨_, _, rfl, rfl, line_of hc, hQ _ (.str _)⟩
        · cases e
      | _ => cases e
    | _ => cases o <;> cases e
  | _ => cases o <;> cases e
theorem aug_op {X : Cx} (o : BOp) : OpR X (inplaceOp o.op) (rAug o) := by
  cases o with
  | add => exact iop_add.or iop_add_str
  | sub => exact iop_sub
  | mul => exact iop_mul
  | fdiv => exact iop_fdiv
  | mod => exact iop_mod
  | pow => exact fun _ _ _ _ _ _ _ _ _ _ _ _ z => z.elim
theorem ss_aug (i : Nat) (o : BOp) (ha : SE K mg W ta da) : SS K mg W (tAug i ta (rAug o)) (fun ρ h => match ρ[i]? with
    | some (some x) => (da ρ h).go ρ fun y h1 => match augD o x y with
      | some z => setS ρ i z h1
      | none => .stuck
    | _ => .stuck) := by
  intro ρ h S ι σ H D' r re hp
  dsimp only at hp
  split at hp
  · rename_i x e
    obtain ⟨v, ev, rv⟩ := re.2 i x e
    refine ⟨v, ev, ?_⟩
    refine ha ρ h S ι σ H _ r re ((Post.go re hp).imp fun y h1 S1 ι1 H1 r1 ex1 p1 u ru => ?_)
    cases q : augD o x y with
    | none => rw [q] at p1; exact False.elim p1
    | some z =>
      rw [q] at p1
      refine aug_ok (rv.ext ex1) ru q fun w rw' => ?_
      replace p1 : Post K mg W D' S1 ι1 H1 (if i < ρ.length then Out.nx (ρ.set i (some z)) h1 else .stuck) := p1
      split at p1
      · exact p1 S1 ι1 _ H1 r1 (erel_set (re.ext ex1) rw') Ext.refl
      · exact p1.elim
  · exact hp.elim
theorem erel_len {S : Hp} {ι : List Addr} {ρ : Env} {σ : L2.St} (re : ERel K S ι ρ σ) : ρ.length = σ.length := re.1
theorem ss_par2 {i j : Nat} {tl : TA} {dl : Env → Hs → R (List D)} (hl : SA K mg W tl dl) : SS K mg W (tPar i j tl) (fun ρ h => (dl ρ h).go ρ fun ds h1 => match ds with
    | [x, y] => if i < ρ.length ∧ j < ρ.length then .nx ((ρ.set i (some x)).set j (some y)) h1 else .stuck
    | _ => .stuck) := by
  intro ρ h S ι σ H D' r re hp
  refine hl ρ h S ι σ H _ r re ((Post.go re hp).imp fun ds h1 S1 ι1 H1 r1 ex1 p1 vs rs => ?_)
  split at p1
  · obtain ⟨v, u, rfl, rv, ru⟩ := rs.two
    split at p1
    · exact ⟨v, u, rfl, p1 S1 ι1 _ H1 r1 (erel_set (erel_set (re.ext ex1) rv) ru) Ext.refl⟩
    · exact p1.elim
  · exact p1.elim
theorem ss_par3 {i j k : Nat} {tl : TA} {dl : Env → Hs → R (List D)} (hl : SA K mg W tl dl) : SS K mg W (tPar3 i j k tl) (fun ρ h => (dl ρ h).go ρ fun ds h1 => match ds with
    | [x, y, z] => if i < ρ.length ∧ j < ρ.length ∧ k < ρ.length then .nx (((ρ.set i (some x)).set j (some y)).set k (some z)) h1 else .stuck
    | _ => .stuck) := by
  intro ρ h S ι σ H D' r re hp
  refine hl ρ h S ι σ H _ r re ((Post.go re hp).imp fun ds h1 S1 ι1 H1 r1 ex1 p1 vs rs => ?_)
  split at p1
  · obtain ⟨v, u, w, rfl, rv, ru, rw'⟩ := rs.three
    split at p1
    · exact ⟨v, u, w, rfl, p1 S1 ι1 _ H1 r1 (erel_set (erel_set (erel_set (re.ext ex1) rv) ru) rw') Ext.refl⟩
    · exact p1.elim
  · exact p1.elim
end
end Ev
set_option maxHeartbeats 1000000
/-! Ev, part N: statements are sound; defs. -/
namespace Ev
open PySem PySem.Spec PyProof.Rows L2

theorem den_par2 {c : Cfg} {i j : Nat} {es : Exs} : Sm.den c (.par [i, j] es) = fun ρ h => (es.den c ρ h).go ρ fun ds h1 => match ds with
    | [x, y] => if i < ρ.length ∧ j < ρ.length then .nx ((ρ.set i (some x)).set j (some y)) h1 else .stuck
    | _ => .stuck := by
  funext ρ h
  refine congrArg (fun f => (es.den c ρ h).go ρ f) (funext fun ds => funext fun h1 => ?_)
  match ds with
  | [] => rfl
  | [x] => rfl
  | [x, y] => rfl
  | x :: y :: z :: r => rfl
theorem den_par3 {c : Cfg} {i j k : Nat} {es : Exs} : Sm.den c (.par [i, j, k] es) = fun ρ h => (es.den c ρ h).go ρ fun ds h1 => match ds with
    | [x, y, z] => if i < ρ.length ∧ j < ρ.length ∧ k < ρ.length then .nx (((ρ.set i (some x)).set j (some y)).set k (some z)) h1 else .stuck
    | _ => .stuck := by
  funext ρ h
  refine congrArg (fun f => (es.den c ρ h).go ρ f) (funext fun ds => funext fun h1 => ?_)
  match ds with
  | [] => rfl
  | [x] => rfl
  | [x, y] => rfl
  | [x, y, z] => rfl
  | x :: y :: z :: w :: r => rfl
/-- constants, wherever they stand -/
theorem cst_sound {c : Cfg} {N : List Str} {bl : BL} {fl : List Str} {sc : Scope} (e : Ex) (v : Expr) (hc : isCst e = true) (h : e.ok N bl fl sc v = true) : ∃ (te : TE) (d : D), (∀ X : Cx, PE X v te) ∧ (∀ ρ h, (e.dt c).1 ρ h = .ok d h) ∧ ∀ (σ : L2.St) (H : Hp) (Q : VK) (K : PySem.W.Frag) (S : Hp) (ι : List Addr), (∀ u, RV K S ι d u → Q u H) → te σ H Q := by
  cases e with
  | cint i =>
    unfold Ex.ok at h
    split at h
    · have := of_decide_eq_true h; subst this
      exact ⟨_, .int i, fun _ => pe_int, fun _ _ => rfl, fun σ H Q K S ι q => q _ (.int i)⟩
    · cases h
  | cbl b =>
    unfold Ex.ok at h
    split at h
    · have := of_decide_eq_true h; subst this
      exact ⟨_, .bl b, fun _ => pe_bl, fun _ _ => rfl, fun σ H Q K S ι q => q _ (.bl b)⟩
    · cases h
  | cnon =>
    unfold Ex.ok at h
    split at h
    · exact ⟨_, .non, fun _ => pe_non, fun _ _ => rfl, fun σ H Q K S ι q => q _ .non⟩
    · cases h
  | cstr s =>
    unfold Ex.ok at h
    split at h
    · have := of_decide_eq_true h; subst this
      exact ⟨_, .str s, fun _ => pe_str, fun _ _ => rfl, fun σ H Q K S ι q => q _ (.str s)⟩
    · cases h
  | _ => cases hc
theorem GoodS.tr {c : Cfg} {bl : BL} {fl xl : List Str} {X : Cx} (G : GoodS c bl fl xl X) (pn : List (Addr × Obj)) (xe : Value → Shared → Prop) (po : PassesOwn (model X.prog X.w) X.A X.env xe) : GoodS c bl fl xl (X.tr pn xe) :=
  { calm := G.calm, nd := G.nd, kind := G.kind, un := G.un, gd := G.gd, blt := G.blt, gl := G.gl, fns := G.fns, ats := G.ats, mes := G.mes, fnT := G.fnT, po := po, xf := G.xf, xm := G.xm, xi := G.xi, stk := G.stk, frm := G.frm }
/-- what an except suite hands back, told of the class alone -/
theorem hx_sound {c : Cfg} {bl : BL} {fl xl : List Str} {X : Cx} (G : GoodS c bl fl xl X) {n : Str} {i : Nat} (hn : X.N[i]? = some n) (hloc : X.env.scope.names.lookup n = some .local) (hnd : nodbg n = true) {k : Str} (hk : xl.contains k = true) {C : Addr} (mk : X.mg k = some (.ref C))
    {a : Addr} {oe : Obj} {pn : List (Addr × Obj)} (hz : Zc (.ref C) none oe) (hf : ∃ vs, oe.data = .fields vs) : ∀ (e : Hx) (v : Expr), e.ok bl xl X.env.scope n v = true →
    ∃ te, PE (X.suite a ((a, oe) :: pn)) v te ∧ ∀ d, e.val k = some d → ∀ (S : Hp) (ι : List Addr) (h : Hs) (σ : L2.St) (H : Hp) (Q : VK), σ[i]? = some (some (.ref a)) → HRel X.K S ι h H →
      (∀ u S' H', HRel X.K S' ι h H' → Ext S ι H S' ι H' → RV X.K S' ι d u → Q u H') → te σ H Q
  | .cint j, v, ho => by
    unfold Hx.ok at ho
    split at ho
    · have := of_decide_eq_true ho; subst this
      exact ⟨_, pe_int, fun d e S ι h σ H Q _ r q => by cases e; exact q _ S H r Ext.refl (.int _)⟩
    · cases ho
  | .cbl j, v, ho => by
    unfold Hx.ok at ho
    split at ho
    · have := of_decide_eq_true ho; subst this
      exact ⟨_, pe_bl, fun d e S ι h σ H Q _ r q => by cases e; exact q _ S H r Ext.refl (.bl _)⟩
    · cases ho
  | .cnon, v, ho => by
    unfold Hx.ok at ho
    split at ho
    · exact ⟨_, pe_non, fun d e S ι h σ H Q _ r q => by cases e; exact q _ S H r Ext.refl .non⟩
    · cases ho
  | .cstr j, v, ho => by
    unfold Hx.ok at ho
    split at ho
    · have := of_decide_eq_true ho; subst this
      exact ⟨_, pe_str, fun d e S ι h σ H Q _ r q => by cases e; exact q _ S H r Ext.refl (.str _)⟩
    · cases ho
  | .isi x, v, ho => by
    unfold Hx.ok at ho
    split at ho
    · simp only [Bool.and_eq_true, decide_eq_true_eq] at ho
      obtain ⟨⟨⟨⟨⟨⟨⟨⟨rfl, h1⟩, h2⟩, h3⟩, rfl⟩, rfl⟩, h4⟩, h5⟩, h6⟩ := ho
      obtain ⟨C', E, m1, m2, hC, _, ki⟩ := G.xi k _ hk h4
      rw [mk] at m1
      cases m1
      refine ⟨_, pe_callB (call_isE hC hz hf) (gl_of (X := X.suite a ((a, oe) :: pn)) h2) (G.blt _ h1) (show bootBuiltins "isinstance" = _ by decide +kernel) (pa_cons (pe_var (X := X.suite a ((a, oe) :: pn)) (i := i) hn (vis_of (by unfold vis; rw [hloc])) (dbg1 hnd) (dbg2 hnd)) (pa_cons (pe_glob (X := X.suite a ((a, oe) :: pn)) (gl_of (X := X.suite a ((a, oe) :: pn)) h5) m2 (show L2.RelV (.ref E) (.ref E) from rfl) (dbg1 h6)) pa_nil)), fun d e S ι h σ H Q hs r q => ?_⟩
      cases e
      refine ⟨_, hs, .ref E, .ref E, _, rfl, fun u ru => (by cases ru; rfl), ki, q _ S H r Ext.refl (.bl _)⟩
    · cases ho
  | .isv, v, ho => by
    unfold Hx.ok at ho
    split at ho
    · simp only [Bool.and_eq_true, decide_eq_true_eq] at ho
      obtain ⟨⟨⟨⟨⟨⟨⟨rfl, h1⟩, h2⟩, h3⟩, rfl⟩, rfl⟩, h4⟩, h5⟩ := ho
      obtain ⟨C', E, m1, m2, hC, kv, _⟩ := G.xi k k hk hk
      rw [mk] at m1
      cases m1
      refine ⟨_, pe_callB (call_isE hC hz hf) (gl_of (X := X.suite a ((a, oe) :: pn)) h2) (G.blt _ h1) (show bootBuiltins "isinstance" = _ by decide +kernel) (pa_cons (pe_var (X := X.suite a ((a, oe) :: pn)) (i := i) hn (vis_of (by unfold vis; rw [hloc])) (dbg1 hnd) (dbg2 hnd)) (pa_cons (pe_bltn (X := X.suite a ((a, oe) :: pn)) (gl_of (X := X.suite a ((a, oe) :: pn)) h5) (G.blt _ h4) (show bootBuiltins "ValueError" = some (.type "ValueError") by decide +kernel) (show L2.RelV (.ty "ValueError") (.type "ValueError") from rfl) (by decide) (by decide)) pa_nil)), fun d e S ι h σ H Q hs r q => ?_⟩
      cases e
      refine ⟨_, hs, .ty "ValueError", .type "ValueError", true, rfl, fun u ru => ?_, kv, q _ S H r Ext.refl (.bl _)⟩
      cases u <;> first | cases ru; rfl | cases ru
    · cases ho
  | .and x y, v, ho => by
    unfold Hx.ok at ho
    split at ho
    · rw [Bool.and_eq_true] at ho
      obtain ⟨h1, h2⟩ := ho
      obtain ⟨ta, p1, q1⟩ := hx_sound G hn hloc hnd hk mk (pn := pn) hz hf x _ h1
      have key : ∀ (tb : TE), (∀ d, y.val k = some d → ∀ (S : Hp) (ι : List Addr) (h : Hs) (σ : L2.St) (H : Hp) (Q : VK), σ[i]? = some (some (.ref a)) → HRel X.K S ι h H →
          (∀ u S' H', HRel X.K S' ι h H' → Ext S ι H S' ι H' → RV X.K S' ι d u → Q u H') → tb σ H Q) → ∀ d, (Hx.and x y).val k = some d → ∀ (S : Hp) (ι : List Addr) (h : Hs) (σ : L2.St) (H : Hp) (Q : VK), σ[i]? = some (some (.ref a)) → HRel X.K S ι h H →
          (∀ u S' H', HRel X.K S' ι h H' → Ext S ι H S' ι H' → RV X.K S' ι d u → Q u H') → tAndV ta tb σ H Q := by
        intro tb q2 d e S ι h σ H Q hs r q
        replace e : (match x.val k with
          | some (.bl true) => y.val k
          | some (.bl false) => some (.bl false)
          | _ => none) = some d := e
        cases ex : x.val k with
        | none => rw [ex] at e; cases e
        | some dx =>
          rw [ex] at e
          refine q1 dx ex S ι h σ H _ hs r fun u S' H' r' x' ru => ?_
          cases ru with
          | bl b =>
            refine ⟨b, rfl, ?_⟩
            cases b with
            | true => rw [if_pos rfl]; exact q2 d e S' ι h σ H' Q hs r' fun u S2 H2 r2 x2 ru => q u S2 H2 r2 (x'.trans x2) ru
            | false => rw [if_neg Bool.false_ne_true]; cases e; exact q _ S' H' r' x' (.bl _)
          | _ => cases e
      split at h2
      · obtain ⟨tb, p2, q2⟩ := hx_sound G hn hloc hnd hk mk (pn := pn) hz hf y _ h2
        exact ⟨_, pe_and p1 (pe_one p2), key tb q2⟩
      · obtain ⟨tb, p2, q2⟩ := hx_sound G hn hloc hnd hk mk (pn := pn) hz hf y _ h2
        exact ⟨_, pe_and p1 p2, key tb q2⟩
    · cases ho
  | .not x, v, ho => by
    unfold Hx.ok at ho
    split at ho
    · obtain ⟨ta, p1, q1⟩ := hx_sound G hn hloc hnd hk mk (pn := pn) hz hf x _ ho
      refine ⟨_, pe_not p1, fun d e S ι h σ H Q hs r q => ?_⟩
      replace e : (match x.val k with
          | some (.bl b) => some (D.bl (!b))
          | _ => none) = some d := e
      cases ex : x.val k with
      | none => rw [ex] at e; cases e
      | some dx =>
        rw [ex] at e
        refine q1 dx ex S ι h σ H _ hs r fun u S' H' r' x' ru => ?_
        cases ru with
        | bl b => cases e; exact ⟨b, rfl, q _ S' H' r' x' (.bl _)⟩
        | _ => cases e
    · cases ho
  | .pick x y z, v, ho => by
    unfold Hx.ok at ho
    split at ho
    · simp only [Bool.and_eq_true, decide_eq_true_eq] at ho
      obtain ⟨⟨⟨⟨⟨⟨⟨⟨rfl, h1⟩, h2⟩, h3⟩, h4⟩, h5⟩, h6⟩, h7⟩, h8⟩ := ho
      obtain ⟨ta, p1, q1⟩ := hx_sound G hn hloc hnd hk mk (pn := pn) hz hf x _ h3
      obtain ⟨tb, p2, q2⟩ := hx_sound G hn hloc hnd hk mk (pn := pn) hz hf y _ h5
      obtain ⟨tc, p3, q3⟩ := hx_sound G hn hloc hnd hk mk (pn := pn) hz hf z _ h7
      refine ⟨_, pe_ix ix_list (pe_lst (pa_cons p1 (pa_cons p2 pa_nil (starOf h6)) (starOf h4))) (pe_callTy call_int1 (gl_of (X := X.suite a ((a, oe) :: pn)) h2) (G.blt _ h1) (show bootBuiltins "int" = _ by decide +kernel) (pa_cons p3 pa_nil (starOf h8)) (by decide) (by decide) (starOf h8) rfl) (fun _ _ => rfl), fun d e S ι h σ H Q hs r q => ?_⟩
      replace e : (match x.val k, y.val k, z.val k with
        | some x, some y, some (.bl j) => some (if j then y else x)
        | _, _, _ => none) = some d := e
      cases ex : x.val k with
      | none => rw [ex] at e; cases e
      | some dx =>
        cases ey : y.val k with
        | none => rw [ex, ey] at e; cases e
        | some dy =>
          cases ez : z.val k with
          | none => rw [ex, ey, ez] at e; cases e
          | some dz =>
            rw [ex, ey, ez] at e
            cases dz with
            | bl j =>
              cases e
              refine q1 dx ex S ι h σ H _ hs r fun u1 S1 H1 r1 x1 ru1 => ?_
              refine q2 dy ey S1 ι h σ H1 _ hs r1 fun u2 S2 H2 r2 x2 ru2 => ?_
              refine ⟨by show 2 ≤ sizeLine; rw [sizeLine_eq]; decide, fun p hp => ?_⟩
              have e3 := Ext.fz (o := .lst [u1, u2]) r2 hp
              refine q3 (.bl j) ez _ ι h σ _ _ hs (r2.fz hp) fun u3 S3 H3 r3 x3 ru3 => ?_
              cases ru3
              refine .inr ⟨j, rfl, ?_⟩
              have hL : SqL X.K H3 p [u1, u2] := SqL.of (r3.sub _ _ (x3.sub _ _ upd_same))
              have ru1' := ((ru1.ext x2).ext e3).ext x3
              have ru2' := (ru2.ext e3).ext x3
              have xx := ((x1.trans x2).trans e3).trans x3
              cases j with
              | true => exact ⟨p, [u1, u2], 1, u2, rfl, rfl, hL, rfl, q _ S3 H3 r3 xx ru2'⟩
              | false => exact ⟨p, [u1, u2], 0, u1, rfl, rfl, hL, rfl, q _ S3 H3 r3 xx ru1'⟩
            | _ => cases e
    · cases ho
mutual
theorem Sm.sound {c : Cfg} {bl : BL} {fl xl : List Str} {X : Cx} {W : WX} (G : GoodS c bl fl xl X) (hx : ∀ x, c.xs.contains x = true → xl.contains x = true) (tk : Takes X W) : ∀ (sm : Sm) (s : Stmt), sm.ok X.N bl fl xl X.env.scope s = true → ∃ t, PS X s t ∧ SS X.K X.mg W t (sm.den c)
  | .set i e, s, h => by
    unfold Sm.ok at h
    split at h
    · simp only [Bool.and_eq_true, decide_eq_true_eq, Bool.or_eq_true] at h
      obtain ⟨⟨⟨h1, h2⟩, h3⟩, h4⟩ := h
      rename_i y py v pos
      have hf : X.fn y = true ∨ X.env.scope.names.lookup y = some .local := .inl (G.fnT y)
      by_cases hn : notComp v = true
      · obtain ⟨ta, p1, q1⟩ := Ex.sound e X W G.toGood tk _ h3
        exact ⟨_, ps_set G.nd h1 (loc_of h2) p1 (swaps_no _ _ hn) hf, ss_set i q1⟩
      · have hl : isLc e = true := h4.resolve_left hn
        cases e with
        | lc fz own tg it cond elt =>
          have h3' := h3
          unfold Ex.ok at h3'
          split at h3'
          · simp only [Bool.and_eq_true, decide_eq_true_eq] at h3'
            obtain ⟨⟨⟨⟨⟨rfl, k1⟩, k2⟩, k3⟩, k4⟩, k5⟩ := h3'
            rename_i x t it' ifs scope vp
            by_cases hs : swB X.env.scope y py vp scope = true
            · have hyl : X.env.scope.names.lookup y = some .local := by
                unfold swB at hs
                simp only [Bool.and_eq_true] at hs
                exact local_of hs.1.1
              have hk : BlkOk X.N X.env.scope scope own := blkOk_by k2
              obtain ⟨wi, p1, q1, s1⟩ := Itx.sound it X W G.toGood tk t it' k1
              have GB : ∀ z : Shared × Hp × Addr × List (Str × Addr) × List Addr, Good c bl fl (X.blk z.1 z.2.1 scope (compEnvC scope z.2.2.2.1 z.2.2.1 X.env) z.2.2.2.2) := fun z => G.toGood.blk hk.kind
              obtain ⟨te, p5, q5⟩ := PE.weak (T := Shared × Hp × Addr × List (Str × Addr) × List Addr) (F := fun z => X.blk z.1 z.2.1 scope (compEnvC scope z.2.2.2.1 z.2.2.1 X.env) z.2.2.2.2) (e := x) (K := X.K) (mg := X.mg) (W := fun _ _ _ _ => False) (de := elt.den c)
                fun z => Ex.sound elt _ (fun _ _ _ _ => False) (GB z) takes0 x k5
              obtain ⟨tt, p4, q4⟩ := PTs.weak (T := Shared × Hp × Addr × List (Str × Addr) × List Addr) (F := fun z => X.blk z.1 z.2.1 scope (compEnvC scope z.2.2.2.1 z.2.2.1 X.env) z.2.2.2.2) (es := ifs) (K := X.K) (mg := X.mg) (W := fun _ _ _ _ => False) (de := cond.tsts c)
                fun z => Exs.soundC cond _ (fun _ _ _ _ => False) (GB z) takes0 ifs k4
              refine ⟨_, ps_setLc G.calm G.nd h1 hyl ((swaps_lc G.kind).trans (by rw [hs])) p1 hk (g := tg.g X.K) (fun s H C cl fp => ?_) (fun s H C cl fp => p4 (s, H, C, cl, fp)) (fun s H C cl fp => p5 (s, H, C, cl, fp)) s1, ?_⟩
              · exact Tg.pg (X := X.blk s H scope (compEnvC scope cl C X.env) fp) (vs := List.map Prod.snd own) G.calm G.nd tg t k3
              · exact ss_set i (lc_sound q1 (Tg.sg tg (Tg.plain_of tg t k3)) (own_of k3) q4 q5)
            · obtain ⟨ta, p1, q1⟩ := Ex.sound _ X W G.toGood tk _ h3
              exact ⟨_, ps_set G.nd h1 (loc_of h2) p1 ((swaps_lc G.kind).trans (by rw [Bool.eq_false_iff.mpr hs])) hf, ss_set i q1⟩
          · cases h3'
        | _ => cases hl
    · cases h
  | .asg tg e, s, h => by
    unfold Sm.ok at h
    split at h
    · simp only [Bool.and_eq_true] at h
      obtain ⟨⟨⟨⟨h1, h2⟩, h3⟩, h4⟩, h5⟩ := h
      rename_i t v pos
      obtain ⟨ta, p1, q1⟩ := Ex.sound e X W G.toGood tk _ h1
      have hfn : (fun _ => true) = X.fn := funext fun x => (G.fnT x).symm
      rw [hfn] at h4
      obtain ⟨g, pg, sg⟩ := Tg.soundG G.toGood tk tg t h4
      have hs : swapsWithSole [t] v pos.line X.env = pure false := by
        rw [Bool.or_eq_true] at h2
        unfold swapsWithSole
        rcases h2 with h2 | h2
        · split <;> exact swaps_no _ _ h2
        · exact swaps_tup h2
      exact ⟨_, ps_asg p1 pg hs (noswap_of G.kind h5) (by rw [assign1 h3]; rfl), ss_asg q1 sg (Tg.straight c tg)⟩
    · cases h
  | .par is es, s, h => by
    unfold Sm.ok at h
    split at h
    · split at h
      · simp only [Bool.and_eq_true, decide_eq_true_eq] at h
        obtain ⟨⟨⟨⟨⟨⟨h1, h2⟩, h3⟩, h4⟩, h5⟩, h6⟩, h7⟩ := h
        obtain ⟨tl, p, q⟩ := Exs.sound es X W G.toGood tk _ h6
        exact ⟨_, ps_par G.calm G.nd h1 h2 h3 (local_of h4) (local_of h5) p (swapped_of G.kind h7), den_par2 ▸ ss_par2 q⟩
      · cases h
    · split at h
      · simp only [Bool.and_eq_true, decide_eq_true_eq] at h
        obtain ⟨⟨⟨⟨⟨⟨⟨⟨⟨⟨h1, h2⟩, h3⟩, h4⟩, h5⟩, h6⟩, h7⟩, h8⟩, h9⟩, h10⟩, h11⟩ := h
        obtain ⟨tl, p, q⟩ := Exs.sound es X W G.toGood tk _ h10
        exact ⟨_, Ev.ps_par3 G.calm G.nd h1 h2 h3 h4 h5 h6 (local_of h7) (local_of h8) (local_of h9) p (swapped_of G.kind h11), den_par3 ▸ ss_par3 q⟩
      · cases h
    · cases h
  | .aug i o e, s, h => by
    unfold Sm.ok at h
    split at h
    · simp only [Bool.and_eq_true, decide_eq_true_eq] at h
      obtain ⟨⟨⟨rfl, h1⟩, h2⟩, h3⟩ := h
      rename_i y _ _ _
      have hf : X.fn y = true ∨ X.env.scope.names.lookup y = some .local := .inl (G.fnT y)
      obtain ⟨ta, p1, q1⟩ := Ex.sound e X W G.toGood tk _ h3
      exact ⟨_, ps_aug G.nd h1 (loc_of h2) p1 (aug_op o) hf, ss_aug i o q1⟩
    · cases h
  | .expr e, s, h => by
    unfold Sm.ok at h
    split at h
    · simp only [Bool.and_eq_true] at h
      obtain ⟨ta, p1, q1⟩ := Ex.sound e X W G.toGood tk _ h.1
      exact ⟨_, ps_expr p1 (swaps_no _ _ h.2), ss_expr q1⟩
    · cases h
  | .ret e, s, h => by
    unfold Sm.ok at h
    split at h
    · obtain ⟨ta, p1, q1⟩ := Ex.sound e X W G.toGood tk _ h
      exact ⟨_, ps_ret p1, ss_ret q1⟩
    · cases h
  | .retN, s, h => by
    unfold Sm.ok at h
    split at h
    · exact ⟨_, ps_retN, ss_retN⟩
    · cases h
  | .ite t a b, s, h => by
    unfold Sm.ok at h
    split at h
    · simp only [Bool.and_eq_true] at h
      obtain ⟨tc, p0, _, q0⟩ := Ex.soundT t X W G.toGood tk _ h.1.1
      obtain ⟨ta, p1, q1⟩ := Sms.sound G hx tk a _ h.1.2
      obtain ⟨tb, p2, q2⟩ := Sms.sound G hx tk b _ h.2
      exact ⟨_, ps_if p0 p1 p2, ss_ite q0 q1 q2⟩
    · cases h
  | .while t b, s, h => by
    unfold Sm.ok at h
    split at h
    · simp only [Bool.and_eq_true] at h
      obtain ⟨tc, p0, _, q0⟩ := Ex.soundT t X W G.toGood tk _ h.1
      obtain ⟨ta, p1, q1⟩ := Sms.sound G hx tk b _ h.2
      exact ⟨_, ps_while G.po p0 p1, ss_while q0 q1⟩
    · cases h
  | .for tg it b, s, h => by
    unfold Sm.ok at h
    split at h
    · simp only [Bool.and_eq_true] at h
      have hfn : (fun _ => true) = X.fn := funext fun x => (G.fnT x).symm
      rw [hfn] at h
      obtain ⟨wi, p1, q1, s1⟩ := Itx.sound it X W G.toGood tk _ _ h.1.1
      obtain ⟨g, pg, sg⟩ := Tg.soundG G.toGood tk tg _ h.1.2
      obtain ⟨ta, p2, q2⟩ := Sms.sound G hx tk b _ h.2
      exact ⟨_, ps_for G.po G.calm p1 pg p2 s1, ss_for q1 sg q2⟩
    · cases h
  | .pass, s, h => by
    unfold Sm.ok at h
    split at h
    · exact ⟨_, ps_pass, ss_next⟩
    · cases h
  | .brk, s, h => by
    unfold Sm.ok at h
    split at h
    · exact ⟨_, ps_break, fun ρ h S ι σ H D' r re hp => hp S ι σ H r re Ext.refl⟩
    · cases h
  | .cnt, s, h => by
    unfold Sm.ok at h
    split at h
    · exact ⟨_, ps_continue, fun ρ h S ι σ H D' r re hp => hp S ι σ H r re Ext.refl⟩
    · cases h
  | .raise x, s, h => by
    unfold Sm.ok at h
    split at h
    · simp only [Bool.and_eq_true, decide_eq_true_eq] at h
      obtain ⟨⟨⟨rfl, h1⟩, h2⟩, h3⟩ := h
      rename_i y _ _ _ _ _ _
      obtain ⟨C, e1, e2, e3, e4, e5⟩ := G.xf y h1
      refine ⟨_, ps_raise G.calm tk (pmk_own PySem.F.excBase_ValueError e2 e1 e3 (raises_own e4 e5) (gl_of h2) (dbg1 h3)), ?_⟩
      intro ρ h S ι σ H D' r re hp
      replace hp : Post X.K X.mg W D' S ι H (if c.xs.contains y then Out.exc y none ρ h else .stuck) := hp
      split at hp
      · exact hp _ none S ι σ H r re Ext.refl ⟨⟨C, e1, rfl⟩, rfl⟩
      · exact hp.elim
    · cases h
  | .tryR b x e, s, h => by
    unfold Sm.ok at h
    split at h
    · simp only [Bool.and_eq_true, decide_eq_true_eq] at h
      obtain ⟨⟨⟨⟨⟨⟨rfl, h1⟩, h2⟩, h3⟩, h4⟩, h5⟩, h6⟩ := h
      rename_i bd y _ v _ _ _
      obtain ⟨C, e1, _⟩ := G.xf y h1
      obtain ⟨te, d, pe, ed, sd⟩ := cst_sound (c := c) e v h5 h6
      have IH := fun (W' : WX) (pn : List (Addr × Obj)) (xe : Value → Shared → Prop) (tk' : Takes (X.tr pn xe) W') (po : PassesOwn (model X.prog X.w) X.A X.env xe) => Sms.sound (X := X.tr pn xe) (W := W') (G.tr pn xe po) hx tk' b bd h4
      let tb : WX → TS := fun W' D σ H => ∀ (pn : List (Addr × Obj)) (xe : Value → Shared → Prop), Takes (X.tr pn xe) W' → PassesOwn (model X.prog X.w) X.A X.env xe → ∃ t, PSs (X.tr pn xe) bd t ∧ t D σ H
      refine ⟨_, ps_try_only (c := .ref C) (tb := tb) (ts := fun _ _ _ => tRet te) (Wout := W) G.stk G.frm ⟨gl_of h2, dbg1 h3, .inl e1⟩ tk (fun W' pn xe tk' po => ⟨fun pins s σ H D I q => ?_⟩) (fun a oe cls dd pn _ _ => pss_one (ps_ret (pe _))), ?_⟩
      · obtain ⟨t, p, q⟩ := q pn xe tk' po
        exact p.run pins s σ H D I q
      · intro ρ h S ι σ H D r re hp
        intro pn xe tk' po
        obtain ⟨t, p, q⟩ := IH _ pn xe tk' po
        refine ⟨t, p, q ρ h S ι σ H D r re ?_⟩
        replace hp : Post X.K X.mg W D S ι H (match b.den c ρ h with
          | .exc k p ρ' h' => if c.xs.contains k && c.xs.contains y then (if supOf k y then (e.den c ρ' h').go ρ' fun d h1 => .ret d h1 else .exc k p ρ' h') else .stuck
          | o => o) := hp
        show Post X.K X.mg (wOnly X.K (.ref C) (fun _ _ _ => tRet te) W D) D S ι H (b.den c ρ h)
        cases eb : b.den c ρ h with
        | nx _ _ => rw [eb] at hp; exact hp
        | ret _ _ => rw [eb] at hp; exact hp
        | brk _ _ => rw [eb] at hp; exact hp
        | cnt _ _ => rw [eb] at hp; exact hp
        | stuck => rw [eb] at hp; exact hp
        | exc k pp ρ' h' =>
          rw [eb] at hp
          dsimp only at hp
          intro cls dd S' ι' σ' H' r' re' ex xo
          by_cases hk : (c.xs.contains k && c.xs.contains y) = true
          · rw [if_pos hk] at hp
            rw [Bool.and_eq_true] at hk
            obtain ⟨C1, E1, m1, m2, m3⟩ := G.xm k y (hx k hk.1) (hx y hk.2)
            obtain ⟨⟨C2, n1, rfl⟩, _⟩ := id xo
            rw [m1] at n1
            cases n1
            rw [m2] at e1
            cases e1
            refine ⟨supOf k y, m3, fun hb a ha => ?_, fun hb => ?_⟩
            · rw [if_pos hb] at hp
              replace hp : Post X.K X.mg W D S ι H (((e.dt c).1 ρ' h').go ρ' fun d h1 => .ret d h1) := hp
              rw [ed] at hp
              exact sd σ' H' D.rt X.K S' ι' fun u ru => hp u S' ι' H' r' ex ru
            · rw [if_neg (by rw [hb]; exact fun z => nomatch z)] at hp
              exact hp _ dd S' ι' σ' H' r' re' ex xo
          · rw [if_neg hk] at hp
            exact hp.elim
    · cases h
  | .tryA b x i e, s, h => by
    unfold Sm.ok at h
    split at h
    · simp only [Bool.and_eq_true, decide_eq_true_eq] at h
      obtain ⟨⟨⟨⟨⟨⟨⟨⟨rfl, h1⟩, h2⟩, h3⟩, h4⟩, h5⟩, h6⟩, h7⟩, h8⟩ := h
      rename_i bd y _ n v _ _ _
      obtain ⟨C, e1, _⟩ := G.xf y h1
      have IH := fun (W' : WX) (pn : List (Addr × Obj)) (xe : Value → Shared → Prop) (tk' : Takes (X.tr pn xe) W') (po : PassesOwn (model X.prog X.w) X.A X.env xe) => Sms.sound (X := X.tr pn xe) (W := W') (G.tr pn xe po) hx tk' b bd h4
      let tb : WX → TS := fun W' D σ H => ∀ (pn : List (Addr × Obj)) (xe : Value → Shared → Prop), Takes (X.tr pn xe) W' → PassesOwn (model X.prog X.w) X.A X.env xe → ∃ t, PSs (X.tr pn xe) bd t ∧ t D σ H
      let ts : Addr → Value → Option Addr → TS := fun a cls d D σ H => ∀ (oe : Obj) (pn : List (Addr × Obj)), Zc cls d oe → (∃ vs, oe.data = .fields vs) → ∃ te, PE (X.suite a ((a, oe) :: pn)) v te ∧ tRet te D σ H
      refine ⟨_, ps_try_as (c := .ref C) (i := i) (tb := tb) (ts := ts) (Wout := W) G.stk G.frm G.nd h5 (local_of h6) ⟨gl_of h2, dbg1 h3, .inl e1⟩ tk (fun W' pn xe tk' po => ⟨fun pins s σ H D I q => ?_⟩) (fun a oe cls dd pn hz hf => ⟨fun pins s σ H D I q => ?_⟩), ?_⟩
      · obtain ⟨t, p, q⟩ := q pn xe tk' po
        exact p.run pins s σ H D I q
      · obtain ⟨te, p, q⟩ := q oe pn hz hf
        exact (pss_one (ps_ret p)).run pins s σ H D I q
      · intro ρ h S ι σ H D r re hp
        intro pn xe tk' po
        obtain ⟨t, p, q⟩ := IH _ pn xe tk' po
        refine ⟨t, p, q ρ h S ι σ H D r re ?_⟩
        replace hp : Post X.K X.mg W D S ι H (match b.den c ρ h with
          | .exc k p ρ' h' => if c.xs.contains k && c.xs.contains y && e.xs.all c.xs.contains then (if supOf k y then (match p, e.val k with
            | none, some d => if i < ρ'.length then .ret d h' else .stuck
            | _, _ => .stuck) else .exc k p ρ' h') else .stuck
          | o => o) := hp
        show Post X.K X.mg (wAs X.K (.ref C) i ts W D) D S ι H (b.den c ρ h)
        cases eb : b.den c ρ h with
        | nx _ _ => rw [eb] at hp; exact hp
        | ret _ _ => rw [eb] at hp; exact hp
        | brk _ _ => rw [eb] at hp; exact hp
        | cnt _ _ => rw [eb] at hp; exact hp
        | stuck => rw [eb] at hp; exact hp
        | exc k pp ρ' h' =>
          rw [eb] at hp
          dsimp only at hp
          intro cls dd S' ι' σ' H' r' re' ex xo
          by_cases hk : (c.xs.contains k && c.xs.contains y && e.xs.all c.xs.contains) = true
          · rw [if_pos hk] at hp
            rw [Bool.and_eq_true, Bool.and_eq_true] at hk
            obtain ⟨C1, E1, m1, m2, m3⟩ := G.xm k y (hx k hk.1.1) (hx y hk.1.2)
            obtain ⟨⟨C2, n1, rfl⟩, xp⟩ := id xo
            rw [m1] at n1
            cases n1
            rw [m2] at e1
            cases e1
            refine ⟨supOf k y, m3, fun hb a ha => ?_, fun hb => ?_⟩
            · rw [if_pos hb] at hp
              cases pp with
              | some _ => cases e.val k <;> exact hp.elim
              | none =>
                have xp : dd = none := xp
                subst xp
                cases ev : e.val k with
                | none => rw [ev] at hp; exact hp.elim
                | some d =>
                  rw [ev] at hp
                  intro oe pn hz hf
                  obtain ⟨te, pe, q⟩ := hx_sound G h5 (local_of h6) h7 (hx k hk.1.1) m1 (pn := pn) hz hf e v h8
                  refine ⟨te, pe, ?_⟩
                  replace hp : Post X.K X.mg W D S ι H (if i < ρ'.length then Out.ret d h' else .stuck) := hp
                  by_cases hl : i < ρ'.length
                  · rw [if_pos hl] at hp
                    exact q d ev S' ι' h' _ H' _ (List.getElem?_set_self (by rw [← re'.1]; exact hl)) r' fun u S2 H2 r2 x2 ru => hp u S2 ι' H2 r2 (ex.trans x2) ru
                  · rw [if_neg hl] at hp; exact hp.elim
            · rw [if_neg (by rw [hb]; exact fun z => nomatch z)] at hp
              exact hp _ dd S' ι' σ' H' r' re' ex xo
          · rw [if_neg hk] at hp
            exact hp.elim
    · cases h
  | .fz i, s, h => by
    unfold Sm.ok at h
    cases h
  | .setA k a f e, s, h => by
    unfold Sm.ok at h
    split at h
    · simp only [Bool.and_eq_true, decide_eq_true_eq] at h
      obtain ⟨⟨⟨⟨rfl, h1⟩, h2⟩, h3⟩, h4⟩ := h
      obtain ⟨ta, p1, q1⟩ := Ex.sound a X W G.toGood tk _ h3
      obtain ⟨tb, p2, q2⟩ := Ex.sound e X W G.toGood tk _ h2
      obtain ⟨k1, k2⟩ := G.ats k _ h1
      exact ⟨_, ps_fld p1 p2 (swaps_no _ _ h4), ss_setA k1 k2 q2 q1⟩
    · cases h
theorem Sms.sound {c : Cfg} {bl : BL} {fl xl : List Str} {X : Cx} {W : WX} (G : GoodS c bl fl xl X) (hx : ∀ x, c.xs.contains x = true → xl.contains x = true) (tk : Takes X W) : ∀ (sm : Sms) (s : List Stmt), sm.ok X.N bl fl xl X.env.scope s = true → ∃ t, PSs X s t ∧ SS X.K X.mg W t (sm.den c)
  | .nil, s, h => by
    unfold Sms.ok at h
    cases s with
    | nil => exact ⟨_, pss_nil, ss_next⟩
    | cons _ _ => cases h
  | .cons a as, s, h => by
    unfold Sms.ok at h
    by_cases hz : isFz a = true
    · rw [if_pos hz] at h
      cases a with
      | fz i =>
        obtain ⟨tb, p2, q2⟩ := Sms.sound G hx tk as _ h
        exact ⟨tb, p2, ss_fz i q2⟩
      | _ => cases hz
    rw [if_neg hz] at h
    cases s with
    | nil => cases h
    | cons s ss =>
      dsimp only at h
      rw [Bool.and_eq_true] at h
      obtain ⟨ta, p1, q1⟩ := Sm.sound G hx tk a _ h.1
      obtain ⟨tb, p2, q2⟩ := Sms.sound G hx tk as _ h.2
      exact ⟨_, pss_cons p1 p2, ss_seq q1 q2⟩
end
end Ev
set_option maxHeartbeats 1000000
/-! Ev, part O: defs are sound. -/
namespace Ev
open PySem PySem.Spec PyProof.Rows L2

section
variable {K : PySem.W.Frag} {mg : Str → Option Value} {S S' : Hp} {ι ι' : List Addr} {H H' : Hp} {h : Hs}
mutual
/-- plain data look at no cell -/
theorem RV.free : ∀ {d : D} {v : V}, d.pure = true → RV K S ι d v → RV K S ι' d v
  | .non, _, _, .non => .non
  | .bl _, _, _, .bl b => .bl b
  | .int _, _, _, .int i => .int i
  | .str _, _, _, .str s => .str s
  | .tup _, _, p, .tup e r => .tup e (RVs.free p r)
  | .lst _, _, p, .lst e r => .lst e (RVs.free p r)
  | .vw _, _, p, .vw e r => .vw e (RVs.free p r)
  | .vt _, _, p, .vt e z r => .vt e z (RVs.free p r)
  | .ref _, _, p, .ref _ => nomatch p
  | .ob _ _ _, _, p, .ob e z r => .ob e z (RVs.free p r)
  | .fn _, _, _, .fn x => .fn x
theorem RVs.free : ∀ {ds : List D} {vs : List V}, D.pures ds = true → RVs K S ι ds vs → RVs K S ι' ds vs
  | [], _, _, .nil => .nil
  | _ :: _, _, p, .cons r t => .cons (RV.free ((Bool.and_eq_true _ _).mp p).1 r) (RVs.free ((Bool.and_eq_true _ _).mp p).2 t)
end
/-- a caller's cells behind a callee without cells -/
theorem HRel.back {h' : Hs} (r : HRel K S ι h H) (r' : HRel K S' ι' h' H') (x : Ext S [] H S' ι' H') : HRel K S' ι h H' := by
  refine ⟨r.len, r.nd, r'.sub, fun a m e => ?_, fun n a c ha hc => ?_⟩
  · rcases none_or (H := H) a with z | ⟨o, z⟩
    · exact r.out a m z
    · rw [x.keep a o z (by simp)] at e; cases e
  · have m := List.mem_of_getElem? ha
    refine (r.cell n a c ha hc).up x.sub (fun _ _ e => e) (fun hs => ?_) fun o e => x.keep a o e (by simp)
    rcases none_or (H := S') a with z | ⟨o, z⟩
    · exact z
    · rcases x.snew a (by rw [z]; exact fun z => nomatch z) with q | q | q
      · exact absurd hs q
      · cases q
      · exact absurd q (r.out a m)
theorem Ext.back (r : HRel K S ι h H) (x : Ext S [] H S' ι' H') : Ext S ι H S' ι H' := by
  refine ⟨x.sub, fun _ _ e => e, fun a o e _ => x.keep a o e (by simp), fun _ m => .inl m, fun a e => ?_, fun a m e => ?_⟩
  · rcases x.snew a e with q | q | q
    · exact .inl q
    · cases q
    · exact .inr (.inr q)
  · rcases none_or (H := H) a with z | ⟨o, z⟩
    · exact absurd z e
    · rw [x.keep a o z (by simp)]; exact fun z => nomatch z
theorem XOk.free {c : Str} {p : Option D} {cls : Value} {dd : Option Addr} (hp : pureO p = true) (x : XOk K mg c p cls dd S ι) : XOk K mg c p cls dd S ι' := by
  refine ⟨x.1, ?_⟩
  have x2 := x.2
  cases p with
  | none => exact x2
  | some d =>
    obtain ⟨a, f, v, e1, e2, r⟩ := x2
    exact ⟨a, f, v, e1, e2, r.free hp⟩
theorem start_rel {ps : List Str} {N : List Str} {ds : List D} {vs : List V} (r : RVs K S ι ds vs) : ERel K S ι (ds.map some ++ List.replicate (N.length - ds.length) none) (L2.start N vs) := by
  refine ⟨by unfold L2.start; rw [List.length_append, List.length_append, List.length_map, List.length_map, List.length_replicate, List.length_replicate, r.length], fun i d e => ?_⟩
  by_cases hl : i < ds.length
  · rw [List.getElem?_append_left (by rw [List.length_map]; exact hl), List.getElem?_map] at e
    cases q : ds[i]? with
    | none => rw [q] at e; cases e
    | some d' =>
      rw [q] at e
      cases e
      obtain ⟨v, h1, h2⟩ := r.get q
      refine ⟨v, ?_, h2⟩
      unfold L2.start
      rw [List.getElem?_append_left (by rw [List.length_map, ← r.length]; exact hl), List.getElem?_map, h1]; rfl
  · rw [List.getElem?_append_right (by rw [List.length_map]; omega), List.getElem?_replicate] at e
    split at e <;> cases e
end

/-- a def's text against its small form -/
structure DefOk (bl : BL) (fl xl : List Str) (f : Fn) (st : Stmt) : Prop where
  sc : FnScope f.N f.ps (defScope st)
  bind : ∀ (kV doc pm : Value) (an : Option Addr) (cdv ct : Value) (us : List Value), us.length = f.ps.length → bindArgs (PySem.W.fnOf f.nm f.q (defArgs st) (defBody st) (defScope st) .none kV doc pm an cdv ct) ⟨us, []⟩ = pure (f.ps.zip us)
  ok : f.body.ok f.N bl fl xl (defScope st) (defBody st) = true
/-- where a def stands: a global's name, or a class's and its own -/
def Fn.at' (f : Fn) : Str × Option Str := match f.cl with
  | none => (f.nm, none)
  | some k => (k, some f.nm)
def DefAt (K : PySem.W.Frag) (mg : Str → Option Value) (bl : BL) (fl xl : List Str) (f : Fn) : Prop := ∃ st fd, DefOk bl fl xl f st ∧ FunD K f.nm f.q (defArgs st) (defBody st) (defScope st) [] [] (He.fAd K f.at') fd ∧ (f.cl = none → mg f.nm = some (.ref (He.ga K f.nm)))
def XFactK (K : PySem.W.Frag) (mg : Str → Option Value) (x : Str) : Prop := ∃ C : Addr, mg x = some (.ref C) ∧ PySem.W.excIn K C veBm "ValueError.__new__" = true ∧ PySem.W.keepIn K (.ref C) = true ∧
  PySem.W.subIn K (.ref C) (.type "BaseException") = some true ∧ PySem.W.typeIn K (.ref C) = some (.type "type")
/-- what a system of defs stands on -/
structure Sys (K : PySem.W.Frag) (mg : Str → Option Value) (bl : BL) (fl xl : List Str) (fs : List Fn) (gl : Str → Option D) (xs : List Str) : Prop where
  blt : ∀ x, bl.contains x = true → mg x = none
  gl : ∀ x d, gl x = some d → ∃ v u, mg x = some u ∧ RelV v u ∧ ∀ S ι, RV K S ι d v
  xf : ∀ x, xl.contains x = true → XFactK K mg x
  xm : ∀ k x, xl.contains k = true → xl.contains x = true → ∃ C E : Addr, mg k = some (.ref C) ∧ mg x = some (.ref E) ∧ PySem.W.exmOne K (.ref C) (.ref E) = some (supOf k x)
  xi : ∀ k x, xl.contains k = true → xl.contains x = true → ∃ C E : Addr, mg k = some (.ref C) ∧ mg x = some (.ref E) ∧ ExcC K C ∧ PySem.W.kitOne K (.ref C) (.type "ValueError") = some true ∧ PySem.W.kitOne K (.ref C) (.ref E) = some (supOf k x)
  xs : ∀ x, xs.contains x = true → xl.contains x = true
  fls : ∀ (i : Nat) (x : Str), fl[i]? = some x → ∃ f, fs[i]? = some f ∧ (bl.isM i = false → f.cl = none ∧ f.nm = x)
  fns : ∀ f ∈ fs, DefAt K mg bl fl xl f
  ats : ∀ k f, bl.ats.contains (k, f) = true → Cls K (He.ga K k) ∧ NoAttr K (He.ga K k) f
  mes : ∀ i k m, bl.me.contains (i, k, m) = true → ∃ f, fs[i]? = some f ∧ f.cl = some k ∧ f.nm = m ∧ Cls K (He.ga K k) ∧ Meth K (He.ga K k) m (He.ma K (He.ga K k) m) ∧ (m = "__init__" → Mk K (He.ga K k) (He.ma K (He.ga K k) m) ∧ mg k = some (.ref (He.ga K k)))
section
variable {P : Program} {w : World} {K : PySem.W.Frag} {mg : Str → Option Value} {base : Heap} {bl : BL} {fl xl : List Str} {fs : List Fn} {gl : Str → Option D} {xs : List Str} {F : Nat}
theorem G_len {n : Nat} {x : Nat} {f : Fn} (e : fs[x]? = some f) {ds : List D} {h : Hs} (hl : ds.length ≠ f.ps.length) : G fs gl xs F n x ds h = .stuck := by
  cases n with
  | zero => rfl
  | succ n =>
    unfold G
    rw [e]
    dsimp only
    have q : runFn ⟨G fs gl xs F n, gl, xs, F⟩ f ds = .stuck := by
      unfold runFn
      rw [if_neg fun z => hl z.1]
    have q2 : runSh ⟨G fs gl xs F n, gl, xs, F⟩ f ds h = .stuck := by
      unfold runSh
      rw [if_neg hl]
    rw [q, q2]
    split <;> rfl
theorem HRel.none {S : Hp} {ι : List Addr} {H : Hp} {h : Hs} (r : HRel K S ι h H) : HRel K S [] [] H := ⟨rfl, List.nodup_nil, r.sub, fun _ m => (by cases m), fun n a c e => (by simp at e)⟩
theorem run_post {c : Cfg} {f : Fn} {S : Hp} {ι : List Addr} {H : Hp} {hc : Hs} {ds : List D} {vs : List V} {Q : VK} {E : XK} (r : HRel K S ι hc H) (rs : RVs K S ι ds vs) (hp : match runFn c f ds with
    | .ok d _ => ∀ v S' ι' H', HRel K S' ι' hc H' → Ext S ι H S' ι' H' → RV K S' ι' d v → Q v H'
    | .exc x p _ => ∀ cls dd S' ι' H', HRel K S' ι' hc H' → Ext S ι H S' ι' H' → XOk K mg x p cls dd S' ι' → E cls dd H'
    | .stuck => False) : RVs K S [] ds vs ∧ Post K mg (fun cls d _ H => E cls d H) { nx := fun _ H' => Q .non H', rt := Q } S [] H (f.body.den c (ds.map some ++ List.replicate (f.N.length - ds.length) Option.none) []) := by
  unfold runFn at hp
  by_cases hd : ds.length = f.ps.length ∧ D.pures ds = true
  · rw [if_pos hd] at hp
    refine ⟨rs.free hd.2, ?_⟩
    cases e : f.body.den c (ds.map some ++ List.replicate (f.N.length - ds.length) Option.none) [] with
    | nx ρ h' =>
      rw [e] at hp
      exact fun S' ι' σ' H' r' _ x => hp .non S' ι H' (r.back r' x) (Ext.back r x) .non
    | ret d h' =>
      rw [e] at hp
      dsimp only at hp
      by_cases hq : d.pure = true
      · rw [if_pos hq] at hp
        exact fun v S' ι' H' r' x rv => hp v S' ι H' (r.back r' x) (Ext.back r x) (rv.free hq)
      · rw [if_neg hq] at hp; exact hp.elim
    | exc x p ρ h' =>
      rw [e] at hp
      dsimp only at hp
      have key : ∀ b : Bool, b = pureO p → (match (if b = true then R.exc x p [] else .stuck : R D) with
          | .ok d _ => ∀ v S' ι' H', HRel K S' ι' hc H' → Ext S ι H S' ι' H' → RV K S' ι' d v → Q v H'
          | .exc x p _ => ∀ cls dd S' ι' H', HRel K S' ι' hc H' → Ext S ι H S' ι' H' → XOk K mg x p cls dd S' ι' → E cls dd H'
          | .stuck => False) → Post K mg (fun cls d _ H => E cls d H) { nx := fun _ H' => Q .non H', rt := Q } S [] H (.exc x p ρ h') := fun b eb hp => by
        cases b with
        | true => exact fun cls dd S' ι' σ' H' r' _ x xo => hp cls dd S' ι H' (r.back r' x) (Ext.back r x) (xo.free eb.symm)
        | false => exact hp.elim
      exact key _ rfl hp
    | brk _ _ => rw [e] at hp; exact hp.elim
    | cnt _ _ => rw [e] at hp; exact hp.elim
    | stuck => rw [e] at hp; exact hp.elim
  · rw [if_neg hd] at hp; exact hp.elim
theorem run_postS {c : Cfg} {f : Fn} {S : Hp} {ι : List Addr} {H : Hp} {hc : Hs} {ds : List D} {Q : VK} {E : XK} (hp : match runSh c f ds hc with
    | .ok d h' => ∀ v S' ι' H', HRel K S' ι' h' H' → Ext S ι H S' ι' H' → RV K S' ι' d v → Q v H'
    | .exc x p h' => ∀ cls dd S' ι' H', HRel K S' ι' h' H' → Ext S ι H S' ι' H' → XOk K mg x p cls dd S' ι' → E cls dd H'
    | .stuck => False) : Post K mg (fun cls d _ H => E cls d H) { nx := fun _ H' => Q .non H', rt := Q } S ι H (f.body.den c (ds.map some ++ List.replicate (f.N.length - ds.length) Option.none) hc) := by
  unfold runSh at hp
  by_cases hd : ds.length = f.ps.length
  · rw [if_pos hd] at hp
    cases e : f.body.den c (ds.map some ++ List.replicate (f.N.length - ds.length) Option.none) hc with
    | nx ρ h' =>
      rw [e] at hp
      exact fun S' ι' σ' H' r' _ x => hp .non S' ι' H' r' x .non
    | ret d h' =>
      rw [e] at hp
      exact fun v S' ι' H' r' x rv => hp v S' ι' H' r' x rv
    | exc x p ρ h' =>
      rw [e] at hp
      exact fun cls dd S' ι' σ' H' r' _ x xo => hp cls dd S' ι' H' r' x xo
    | brk _ _ => rw [e] at hp; exact hp.elim
    | cnt _ _ => rw [e] at hp; exact hp.elim
    | stuck => rw [e] at hp; exact hp.elim
  · rw [if_neg hd] at hp; exact hp.elim
theorem fn_ok (Y : Sys K mg bl fl xl fs gl xs) : ∀ (n : Nat) (x : Nat) (f : Fn), fs[x]? = some f → ∀ (st : Stmt) (a : Addr) (fd : FuncData), DefOk bl fl xl f st → FunD K f.nm f.q (defArgs st) (defBody st) (defScope st) [] [] a fd →
    FnG P w K mg base (L2.CX P w) (2 * n) a fd f.ps (spF K mg f.ps.length (G fs gl xs F n x))
  | 0, x, f, e, st, a, fd, D', FD => by
    refine ⟨fun h => ?_, fun _ _ _ _ _ h => ?_⟩
    · obtain ⟨_, _, _, _, hl, _⟩ := h
      exact hl
    · obtain ⟨_, _, _, _, _, _, _, z⟩ := h
      exact z.elim
  | n + 1, x, f, e, st, a, fd, D', FD => by
    show FnG P w K mg base (L2.CX P w) (2 * n + 1 + 1) a fd f.ps _
    refine fnG_of FD D'.sc (fun h => ?_) fun cdv A outer s H vs Q E hr hgd h => ?_
    · obtain ⟨_, _, _, _, hl, _⟩ := h
      exact hl
    · have GG : GoodS ⟨G fs gl xs F n, gl, xs, F⟩ bl fl xl (cxOf (L2.CX P w) P w K mg base f.N f.q (defScope st) a cdv A outer s H E) :=
        { calm := rfl, nd := D'.sc.nd, kind := D'.sc.kind, un := by have := hr.un; show (A.deeper (envOfC f.q (defScope st) s.heap.objs.size a cdv)).units + 65 < cLine; omega,
          gd := hgd,
          blt := Y.blt, gl := Y.gl,
          fns := fun i y hy hM => by
            obtain ⟨g, eg, en⟩ := Y.fls i y hy
            obtain ⟨ec, en⟩ := en hM
            obtain ⟨st', fd', Dg, FDg, gg⟩ := Y.fns g (List.mem_of_getElem? eg)
            have ea : He.fAd K g.at' = He.ga K g.nm := by unfold Fn.at'; rw [ec]; rfl
            rw [ea] at FDg
            exact ⟨_, fd', g.ps, 2 * n, fn_ok Y n i g eg st' _ fd' Dg FDg, fun ds h hl => G_len eg hl, hr.mono (by omega), by rw [← en]; exact gg ec, FDg.kp, FDg.bindsN Dg.bind, by rw [en]; rfl⟩,
          ats := Y.ats,
          mes := fun i k m hm => by
            obtain ⟨g, eg, ec, en, c1, c2, c3⟩ := Y.mes i k m hm
            obtain ⟨st', fd', Dg, FDg, gg⟩ := Y.fns g (List.mem_of_getElem? eg)
            have ea : He.fAd K g.at' = He.ma K (He.ga K k) m := by unfold Fn.at'; rw [ec, en]; rfl
            rw [ea] at FDg
            exact ⟨_, fd', g.ps, 2 * n, fn_ok Y n i g eg st' _ fd' Dg FDg, fun ds h hl => G_len eg hl, hr.mono (by omega), FDg.bindsN Dg.bind, c1, c2, fun z => ⟨(c3 z).1, (c3 z).2, hr⟩⟩,
          fnT := fun _ => rfl, po := passes_of rfl, xf := Y.xf, xm := Y.xm, xi := Y.xi, stk := rfl, frm := rfl }
      obtain ⟨t, p, q⟩ := Sms.sound GG Y.xs (takes_of rfl rfl rfl rfl) f.body (defBody st) D'.ok
      refine ⟨t, p, ?_⟩
      obtain ⟨S, ι, hc, ds, hl, r, rs, h⟩ := h
      unfold G at h
      rw [e] at h
      dsimp only at h
      by_cases hs : f.sh = true
      · rw [if_pos hs] at h
        have hp := run_postS (Q := Q) (E := E) (K := K) (mg := mg) (S := S) (ι := ι) (H := H) (c := ⟨G fs gl xs F n, gl, xs, F⟩) (f := f) (ds := ds) (hc := hc) h
        exact q _ hc S ι _ H _ r (start_rel (ps := f.ps) rs) hp
      · rw [if_neg hs] at h
        obtain ⟨rs', hp⟩ := run_post (Q := Q) (E := E) r rs (c := ⟨G fs gl xs F n, gl, xs, F⟩) (f := f) (by
          cases q : runFn ⟨G fs gl xs F n, gl, xs, F⟩ f ds with
          | ok d _ => rw [q] at h; exact h
          | exc x p _ => rw [q] at h; exact h
          | stuck => rw [q] at h; exact h)
        exact q _ [] S [] _ H _ r.none (start_rel (ps := f.ps) rs') hp
end
end Ev
set_option maxHeartbeats 1000000
/-! Ev, part P: from the head's facts to the law. -/
namespace Ev
open PySem PySem.Spec PyProof.Rows L2

abbrev Def := Fn × Stmt
def dOf (p : Def) : He.DefD := ⟨p.1.at', p.1.nm, p.1.q, defArgs p.2, defBody p.2, defScope p.2, [], []⟩
/-- a written constant of the module -/
inductive Cn where
  | int (i : Int)
  | str (z : Str)
def Cn.d : Cn → D
  | .int i => .int i
  | .str z => .str z
def Cn.fa (x : Str) : Cn → He.Fa
  | .int i => .int x i
  | .str z => .str x z
def glOf (cs : List (Str × Cn)) (x : Str) : Option D := (cs.lookup x).map Cn.d
def meFa (p : Nat × Str × Str) : List He.Fa := if p.2.2 = ("__init__" : Str) then [.cls p.2.1, .meth p.2.1 p.2.2, .mkr p.2.1, .glo p.2.1] else [.cls p.2.1, .meth p.2.1 p.2.2]
def faOf (L : List Def) (bl : BL) (cs : List (Str × Cn)) (xl : List Str) : List He.Fa :=
  (L.filter fun p => p.1.cl.isNone).map (fun p => .glo p.1.nm) ++ (bl.l.map .free ++ (cs.map (fun c => c.2.fa c.1) ++ (xl.map .glo ++ (xl.map .exc ++ ((xl.flatMap fun k => xl.map fun x => .exm k x (supOf k x)) ++
    ((bl.ats.flatMap fun p => [He.Fa.cls p.1, He.Fa.noat p.1 p.2]) ++ bl.me.flatMap meFa))))))
/-- the table of methods is the defs' own -/
def meOk (L : List Def) (bl : BL) : Bool := ((List.range L.length).all fun i => bl.isM i || (match L[i]? with | some p => p.1.cl.isNone && decide (p.1.q = p.1.nm) | none => true)) &&
  bl.me.all fun p => match L[p.1]? with
    | some d => decide (d.1.cl = some p.2.1) && decide (d.1.nm = p.2.2)
    | none => false
theorem lookup_mem {α : Type} {x : Str} {y : α} : ∀ {l : List (Str × α)}, l.lookup x = some y → (x, y) ∈ l
  | [], h => nomatch h
  | (k, v) :: l, h => by
    rw [List.lookup_cons] at h
    by_cases e : x = k
    · subst e; simp at h; subst h; exact List.mem_cons_self
    · rw [show (x == k) = false from by simpa using e] at h
      exact List.mem_cons_of_mem _ (lookup_mem h)
/-- isinstance asks instances of that class rightly -/
def excCB (K : PySem.W.Frag) (D : Addr) : Bool :=
  He.eqO (PySem.W.findIn K (.ref D) "__getattribute__") (some (some (.builtin "BaseException.__getattribute__"))) && (He.eqO (PySem.W.findIn K (.ref D) "__getattr__") (some none) && (decide (PySem.W.subIn K (.ref D) (.type "BaseException") = some true) &&
  (PySem.W.hasDictIn K D && (He.eqO (PySem.W.findIn K (.ref D) "__class__") (some (some (.builtin "object.__class__"))) && (He.eqO (PySem.W.specialIn K (.builtin "object.__class__") "__get__") (some (some (.builtin "getset_descriptor.__get__"))) &&
  (decide (PySem.W.takesIn K (.builtin "object.__class__") = some true) && decide (PySem.W.mroIn K D (.type "object") = some true)))))))
theorem excCB_ok {K : PySem.W.Frag} {D : Addr} (h : excCB K D = true) : ExcC K D := by
  unfold excCB at h
  obtain ⟨h1, h⟩ := He.ba h
  obtain ⟨h2, h⟩ := He.ba h
  obtain ⟨h3, h⟩ := He.ba h
  obtain ⟨h4, h⟩ := He.ba h
  obtain ⟨h5, h⟩ := He.ba h
  obtain ⟨h6, h⟩ := He.ba h
  obtain ⟨h7, h8⟩ := He.ba h
  exact ⟨He.eqO_ok h1, He.eqO_ok h2, of_decide_eq_true h3, h4, He.eqO_ok h5, He.eqO_ok h6, of_decide_eq_true h7, of_decide_eq_true h8⟩
/-- what more is told of what was looked at -/
def exOf (xl : List Str) (K : PySem.W.Frag) : Bool := xl.all fun k => excCB K (He.ga K k) && (decide (PySem.W.kitOne K (.ref (He.ga K k)) (.type "ValueError") = some true) &&
  xl.all fun x => decide (PySem.W.kitOne K (.ref (He.ga K k)) (.ref (He.ga K x)) = some (supOf k x)))
abbrev nms (L : List Def) : List Str := L.map fun p => p.1.q
theorem sys_of {K : PySem.W.Frag} {h : Heap} {mg : Str → Option Value} {L : List Def} {bl : BL} {xl : List Str} {cs : List (Str × Cn)} (X : K.In h) (G : h.Ns mainGlobals mg) (c : He.SaysD (faOf L bl cs xl) (L.map dOf) K) (cx : exOf xl K = true)
    (hM : meOk L bl = true) (hL : ∀ p ∈ L, DefOk bl (nms L) xl p.1 p.2) : Sys K mg bl (nms L) xl (L.map (·.1)) (glOf cs) xl := by
  have fact : ∀ f ∈ faOf L bl cs xl, f.ok K = true := fun f hf => c.facts hf
  obtain ⟨hM1, hM2⟩ := He.ba hM
  refine ⟨fun x hx => ?_, fun x d hd => ?_, fun x hx => ?_, fun k x hk hx => ?_, fun k x hk hx => ?_, fun x hx => hx, fun i x hx => ?_, fun f hf => ?_, fun k f hk => ?_, fun i k m hk => ?_⟩
  · exact He.free_ok X G (fact (.free x) (by unfold faOf; unfold BL.contains at hx; simp at hx; simp [hx]))
  · unfold glOf at hd
    cases e : cs.lookup x with
    | none => rw [e] at hd; cases hd
    | some k =>
      rw [e] at hd
      have m := lookup_mem e
      have hf : k.fa x ∈ faOf L bl cs xl := by
        unfold faOf
        exact List.mem_append_right _ (List.mem_append_right _ (List.mem_append_left _ (List.mem_map.mpr ⟨(x, k), m, rfl⟩)))
      cases k with
      | int i =>
        cases hd
        obtain ⟨t, q⟩ := He.int_ok X G (fact _ hf)
        exact ⟨.int i, _, q, ⟨t, rfl⟩, fun _ _ => .int i⟩
      | str z =>
        cases hd
        obtain ⟨t, q⟩ := He.str_ok X G (fact _ hf)
        exact ⟨.str z, _, q, ⟨t, rfl⟩, fun _ _ => .str z⟩
  · have m : x ∈ xl := by simpa using hx
    have h1 : He.Fa.glo x ∈ faOf L bl cs xl := by unfold faOf; simp [m]
    have h2 : He.Fa.exc x ∈ faOf L bl cs xl := by unfold faOf; simp [m]
    obtain ⟨k1, k2, k3, k4⟩ := He.exc_ok (fact _ h2)
    exact ⟨_, He.glo_ok X G (fact _ h1), k1, k2, k3, k4⟩
  · have m : x ∈ xl := by simpa using hx
    have m2 : k ∈ xl := by simpa using hk
    have h1 : He.Fa.glo x ∈ faOf L bl cs xl := by unfold faOf; simp [m]
    have h2 : He.Fa.glo k ∈ faOf L bl cs xl := by unfold faOf; simp [m2]
    have h3 : He.Fa.exm k x (supOf k x) ∈ faOf L bl cs xl := by
      unfold faOf
      refine List.mem_append_right _ (List.mem_append_right _ (List.mem_append_right _ (List.mem_append_right _ (List.mem_append_right _ (List.mem_append_left _ (List.mem_flatMap.mpr ⟨k, m2, List.mem_map.mpr ⟨x, m, rfl⟩⟩))))))
    exact ⟨_, _, He.glo_ok X G (fact _ h2), He.glo_ok X G (fact _ h1), He.exm_ok (fact _ h3)⟩
  · have m : x ∈ xl := by simpa using hx
    have m2 : k ∈ xl := by simpa using hk
    have h1 : He.Fa.glo x ∈ faOf L bl cs xl := by unfold faOf; simp [m]
    have h2 : He.Fa.glo k ∈ faOf L bl cs xl := by unfold faOf; simp [m2]
    obtain ⟨q1, q⟩ := He.ba (List.all_eq_true.mp cx k m2)
    obtain ⟨q2, q3⟩ := He.ba q
    exact ⟨_, _, He.glo_ok X G (fact _ h2), He.glo_ok X G (fact _ h1), excCB_ok q1, of_decide_eq_true q2, of_decide_eq_true (List.all_eq_true.mp q3 x m)⟩
  · rw [List.getElem?_map] at hx
    cases e : L[i]? with
    | none => rw [e] at hx; cases hx
    | some p =>
      rw [e] at hx
      refine ⟨p.1, by rw [List.getElem?_map, e]; rfl, fun hm => ?_⟩
      have hi := (List.getElem?_eq_some_iff.mp e).1
      have := List.all_eq_true.mp hM1 i (List.mem_range.mpr hi)
      rw [hm, e, Bool.false_or] at this
      obtain ⟨z1, z2⟩ := He.ba this
      have z2 := of_decide_eq_true z2
      exact ⟨by simpa using z1, by rw [← z2]; exact Option.some.inj hx⟩
  · obtain ⟨p, hp, rfl⟩ := List.mem_map.mp hf
    obtain ⟨fd, F⟩ := c.defs (d := dOf p) (List.mem_map.mpr ⟨p, hp, rfl⟩)
    exact ⟨p.2, fd, hL p hp, F, fun z => He.glo_ok X G (fact (.glo p.1.nm) (by unfold faOf; exact List.mem_append_left _ (List.mem_map.mpr ⟨p, List.mem_filter.mpr ⟨hp, by rw [z]; rfl⟩, rfl⟩)))⟩
  · have m : (k, f) ∈ bl.ats := by simpa using hk
    have h1 : He.Fa.cls k ∈ faOf L bl cs xl := by
      unfold faOf
      exact List.mem_append_right _ (List.mem_append_right _ (List.mem_append_right _ (List.mem_append_right _ (List.mem_append_right _ (List.mem_append_right _ (List.mem_append_left _ (List.mem_flatMap.mpr ⟨_, m, List.mem_cons_self⟩)))))))
    have h2 : He.Fa.noat k f ∈ faOf L bl cs xl := by
      unfold faOf
      exact List.mem_append_right _ (List.mem_append_right _ (List.mem_append_right _ (List.mem_append_right _ (List.mem_append_right _ (List.mem_append_right _ (List.mem_append_left _ (List.mem_flatMap.mpr ⟨_, m, List.mem_cons_of_mem _ List.mem_cons_self⟩)))))))
    exact ⟨He.cls_ok (fact _ h1), He.noat_ok (fact _ h2)⟩
  · have mm : (i, k, m) ∈ bl.me := by simpa using hk
    have at' : ∀ x : He.Fa, x ∈ meFa (i, k, m) → x ∈ faOf L bl cs xl := fun x hx => by
      unfold faOf
      exact List.mem_append_right _ (List.mem_append_right _ (List.mem_append_right _ (List.mem_append_right _ (List.mem_append_right _ (List.mem_append_right _ (List.mem_append_right _ (List.mem_flatMap.mpr ⟨_, mm, hx⟩)))))))
    have h1 := fact (.cls k) (at' (.cls k) (by unfold meFa; split <;> simp))
    have h2 := fact (.meth k m) (at' (.meth k m) (by unfold meFa; split <;> simp))
    have q := List.all_eq_true.mp hM2 _ mm
    dsimp only at q
    cases e : L[i]? with
    | none => rw [e] at q; cases q
    | some d =>
      rw [e] at q
      obtain ⟨z1, z2⟩ := He.ba q
      refine ⟨d.1, by rw [List.getElem?_map, e]; rfl, of_decide_eq_true z1, of_decide_eq_true z2, He.cls_ok h1, He.meth_ok h2, fun hi => ?_⟩
      have h3 := fact (.mkr k) (at' (.mkr k) (by unfold meFa; rw [if_pos hi]; simp))
      have h4 := fact (.glo k) (at' (.glo k) (by unfold meFa; rw [if_pos hi]; simp))
      exact ⟨by rw [hi]; exact He.mkr_ok h3, He.glo_ok X G h4⟩

theorem glo_mem {L : List Def} {bl : BL} {cs : List (Str × Cn)} {xl : List Str} {f : Fn} {st : Stmt} (hm : (f, st) ∈ L) (hcl : f.cl = none) : He.Fa.glo f.nm ∈ faOf L bl cs xl := by
  have h0 : (f, st) ∈ L.filter fun p => p.1.cl.isNone := List.mem_filter.mpr ⟨hm, by show f.cl.isNone = true; rw [hcl]; rfl⟩
  unfold faOf
  exact List.mem_append_left _ (List.mem_map.mpr ⟨(f, st), h0, rfl⟩)
/-- a law of such defs, walked -/
theorem walk_ev {l : PySem.W.OpenLaw} {n k F il : Nat} {q : Program} {loose : List Str} {XP : (Str → Option Value) → Heap → Prop} {d : DefRec} {L : List Def} {bl : BL} {xl : List Str} {cs : List (Str × Cn)} {m : Nat} {f : Fn} {st : Stmt} {x : Str}
    (hn : l.most = some n) (hz : n ≤ sizeLine) (hdf : d.params.defaults = []) (hr : Room (2 * k) callerA) (hM : meOk L bl = true) (hL : ∀ p ∈ L, DefOk bl (nms L) xl p.1 p.2) (hf : L[il]? = some (f, st)) (hd : d.name = f.nm) (hps : f.ps = [x]) (hcl : f.cl = none)
    (hlaw : ∀ ns : List Int, ns.length ≤ n → G (L.map (·.1)) (glOf cs) xl F k il [.vw (ns.map .int)] [] = .ok (.bl true) []) :
    PySem.W.WalkO q loose XP (He.hookX m (faOf L bl cs xl) (L.map dOf) [] [] (exOf xl)).says l.row.toRowW d [] (fun f vs => PySem.call f vs) := by
  refine Att.attach_call hn hdf fun w s0 s1 mg mb fa o pm cd doc a vs ns T Y _ _ _ hmg hob hin hlen hg => ?_
  obtain ⟨K, X, cX⟩ := Y
  have c := cX.t.d
  have Z := sys_of X T.T.g c cX.more hM hL
  have hm := List.mem_of_getElem? hf
  obtain ⟨fd, FD⟩ := c.defs (d := dOf (f, st)) (List.mem_map.mpr ⟨_, hm, rfl⟩)
  have hg1 : He.Fa.glo f.nm ∈ faOf L bl cs xl := glo_mem hm hcl
  have hg2 : mg f.nm = some (.ref (He.ga K f.nm)) := He.glo_ok X T.T.g (c.facts hg1)
  rw [hd, hg2] at hmg
  cases hmg
  have ea : He.fAd K f.at' = He.ga K f.nm := by unfold Fn.at'; rw [hcl]; rfl
  have FD : FunD K f.nm f.q (defArgs st) (defBody st) (defScope st) [] [] (He.ga K f.nm) fd := by rw [← ea]; exact FD
  have hfs : (L.map (·.1))[il]? = some f := by rw [List.getElem?_map, hf]; rfl
  have D' := hL _ hm
  have key := fun base : Heap => fn_ok (P := l.prog) (w := w) (base := base) (F := F) Z k il f hfs st _ fd D' FD
  have hb : ∀ (s : Shared) (u : Value), BindsTo s fd ⟨[u], []⟩ [(x, u)] := fun s u => by
    have := FD.bindsA (ps := f.ps) D'.bind s [u] (by rw [hps]; rfl)
    rw [hps] at this; exact this
  have run := fun base (_ : K.In base) (_ : base.Ns mainGlobals mg) => key base
  rw [hps] at run
  refine law_callG X T.T.g T.T.b T.T.builtins T.T.nolimit hg hob hin (Nat.le_trans hlen hz) hr run hb (fun H hO hS => ?_) fun H e s' z => ?_
  · refine ⟨H, [], [], [.vw (ns.map .int)], rfl, ⟨rfl, List.nodup_nil, fun _ _ e => e, fun _ m => (by cases m), fun n a c e => (by simp at e)⟩, .cons (.vw hS .ints) .nil, ?_⟩
    rw [hlaw ns hlen]
    intro v S' ι' H' _ _ rv
    cases rv
    rfl
  · obtain ⟨_, _, _, _, _, _, _, _, _, _, _, _, z⟩ := z
    exact z
end Ev
set_option maxHeartbeats 1000000
/-! Ev, part Q: the denotation, read by simp; loops by relations. -/
namespace Ev
open PySem PySem.Spec PyProof.Rows L2
/-- a mark that keeps simp out of what comes later -/
inductive Tok {A : Type} (a : A) : Type where
  | mk
/-- the same three, that simp takes one step at a time: what comes first, first -/
def R.bd {α β : Type} (x : R α) (f : α → Hs → R β) (_ : Tok f) : R β := match x with
  | .ok a h => f a h
  | .exc c p h => .exc c p h
  | .stuck => .stuck
def R.gq {α : Type} (x : R α) (ρ : Env) (f : α → Hs → Out) (_ : Tok f) : Out := match x with
  | .ok a h => f a h
  | .exc c p h => .exc c p ρ h
  | .stuck => .stuck
def Out.tn (x : Out) (f : Env → Hs → Out) (_ : Tok f) : Out := match x with
  | .nx ρ h => f ρ h
  | o => o
@[simp] theorem bd_ok {α β : Type} (a : α) (h : Hs) (f : α → Hs → R β) (t : Tok f) : (R.ok a h).bd f t = f a h := rfl
@[simp] theorem bd_exc {α β : Type} (c : Str) (p : Option D) (h : Hs) (f : α → Hs → R β) (t : Tok f) : (R.exc c p h : R α).bd f t = .exc c p h := rfl
@[simp] theorem gq_ok {α : Type} (a : α) (h : Hs) (ρ : Env) (f : α → Hs → Out) (t : Tok f) : (R.ok a h).gq ρ f t = f a h := rfl
@[simp] theorem gq_exc {α : Type} (c : Str) (p : Option D) (h : Hs) (ρ : Env) (f : α → Hs → Out) (t : Tok f) : (R.exc c p h : R α).gq ρ f t = .exc c p ρ h := rfl
@[simp] theorem tn_nx (ρ : Env) (h : Hs) (f : Env → Hs → Out) (t : Tok f) : (Out.nx ρ h).tn f t = f ρ h := rfl
@[simp] theorem tn_ret (d : D) (h : Hs) (f : Env → Hs → Out) (t : Tok f) : (Out.ret d h).tn f t = .ret d h := rfl
@[simp] theorem tn_brk (ρ : Env) (h : Hs) (f : Env → Hs → Out) (t : Tok f) : (Out.brk ρ h).tn f t = .brk ρ h := rfl
@[simp] theorem tn_cnt (ρ : Env) (h : Hs) (f : Env → Hs → Out) (t : Tok f) : (Out.cnt ρ h).tn f t = .cnt ρ h := rfl
@[simp] theorem tn_exc (c : Str) (p : Option D) (ρ : Env) (h : Hs) (f : Env → Hs → Out) (t : Tok f) : (Out.exc c p ρ h).tn f t = .exc c p ρ h := rfl
section
variable {h : Hs} {fz : Bool} {i j : Int}
@[simp] theorem bin_add : binD .add fz (.int i) (.int j) h = .ok (.int (i + j)) h := rfl
@[simp] theorem bin_sub : binD .sub fz (.int i) (.int j) h = .ok (.int (i - j)) h := rfl
theorem bin_mul (q : (-(2 ^ 64) < i ∧ i < 2 ^ 64) ∨ (-(2 ^ 64) < j ∧ j < 2 ^ 64)) : binD .mul fz (.int i) (.int j) h = .ok (.int (i * j)) h := by
  show (if _ then _ else _) = _
  rw [if_pos]
  rcases q with q | q
  · exact .inl q
  · exact .inr (.inl q)
theorem bin_fdiv (q : 0 < j) (r : j < 1073741824) : binD .fdiv fz (.int i) (.int j) h = .ok (.int (i / j)) h := if_pos ⟨q, .inl r⟩
theorem bin_mod (q : 0 < j) : binD .mod fz (.int i) (.int j) h = .ok (.int (i % j)) h := if_pos q
theorem bin_pow (q : 0 ≤ j) (r : j ≤ 1000) (t : i.natAbs < 2 ^ 64) : binD .pow fz (.int i) (.int j) h = .ok (.int (i ^ j.toNat)) h := if_pos ⟨q, r, t⟩
@[simp] theorem cmp_lt : cmpD .lt (.int i) (.int j) h = .ok (.bl (decide (i < j))) h := rfl
@[simp] theorem cmp_le : cmpD .le (.int i) (.int j) h = .ok (.bl (decide (i ≤ j))) h := rfl
@[simp] theorem cmp_gt : cmpD .gt (.int i) (.int j) h = .ok (.bl (decide (j < i))) h := rfl
@[simp] theorem cmp_ge : cmpD .ge (.int i) (.int j) h = .ok (.bl (decide (j ≤ i))) h := rfl
@[simp] theorem cmp_eqI : cmpD .eq (.int i) (.int j) h = .ok (.bl (decide (i = j))) h := by
  show R.ok (D.bl (PyData.eqv (.int i) (.int j))) h = _
  rw [show PyData.eqv (.int i) (.int j) = decide (i = j) from rfl]
@[simp] theorem cmp_neI : cmpD .ne (.int i) (.int j) h = .ok (.bl (!decide (i = j))) h := by
  show R.ok (D.bl (!PyData.eqv (.int i) (.int j))) h = _
  rw [show PyData.eqv (.int i) (.int j) = decide (i = j) from rfl]
@[simp] theorem pr_abs : primD .abs fz [.int i] h = .ok (.int (if i < 0 then -i else i)) h := rfl
@[simp] theorem pr_int : primD .intOf fz [.int i] h = .ok (.int i) h := rfl
@[simp] theorem pr_max2 : primD .max2 fz [.int i, .int j] h = .ok (.int (if j > i then j else i)) h := rfl
@[simp] theorem pr_min2 : primD .min2 fz [.int i, .int j] h = .ok (.int (if j < i then j else i)) h := rfl
@[simp] theorem pr_lenL (xs : List D) : primD .len fz [.lst xs] h = .ok (.int xs.length) h := rfl
@[simp] theorem pr_lenT (xs : List D) : primD .len fz [.tup xs] h = .ok (.int xs.length) h := rfl
theorem pr_lenR {n : Nat} {xs : List D} (e : h[n]? = some (.lst xs)) : primD .len fz [.ref n] h = .ok (.int xs.length) h := by
  unfold primD
  simp only [seqOf, e]
@[simp] theorem aug_add : augD .add (.int i) (.int j) = some (.int (i + j)) := rfl
@[simp] theorem aug_sub : augD .sub (.int i) (.int j) = some (.int (i - j)) := rfl
theorem aug_mul (q : (-(2 ^ 64) < i ∧ i < 2 ^ 64) ∨ (-(2 ^ 64) < j ∧ j < 2 ^ 64)) : augD .mul (.int i) (.int j) = some (.int (i * j)) := if_pos q
theorem aug_fdiv (q : 0 < j) (r : j < 1073741824) : augD .fdiv (.int i) (.int j) = some (.int (i / j)) := if_pos ⟨q, r⟩
theorem aug_mod (q : 0 < j) : augD .mod (.int i) (.int j) = some (.int (i % j)) := if_pos q
theorem new_fz {xs : List D} (q : xs.length ≤ LN) : newL true xs h = .ok (.lst xs) h := by unfold newL; rw [if_pos q]; rfl
theorem new_cell {xs : List D} (q : xs.length ≤ LN) : newL false xs h = .ok (.ref h.length) (h ++ [.lst xs]) := by unfold newL; rw [if_pos q]; rfl
theorem m_append {n : Nat} {xs : List D} {y : D} (e : h[n]? = some (.lst xs)) (q : xs.length < LN) : methD .append (.ref n) [y] h = .ok .non (h.set n (.lst (xs ++ [y]))) := by
  unfold methD
  simp only [e, if_pos q]
theorem seq_ref {n : Nat} {xs : List D} (e : h[n]? = some (.lst xs)) : seqOf h (.ref n) = some (xs, true) := by
  unfold seqOf; simp only [e]
@[simp] theorem sq_lst (xs : List D) : seqOf h (.lst xs) = some (xs, true) := rfl
@[simp] theorem seq_tup (xs : List D) : seqOf h (.tup xs) = some (xs, false) := rfl
@[simp] theorem seq_vw (xs : List D) : seqOf h (.vw xs) = some (xs, true) := rfl
theorem frz_ref {n : Nat} {xs : List D} (e : h[n]? = some (.lst xs)) (q : D.pures xs = true) : freezeD (.ref n) h = .ok (.lst xs) (h.set n .dead) := by
  unfold freezeD; simp only [e, if_pos q]
/-- cells at written places -/
@[simp] theorem seq_r0 (xs : List D) : seqOf (.lst xs :: h) (.ref 0) = some (xs, true) := rfl
@[simp] theorem seq_r1 (a : Cell) (xs : List D) : seqOf (a :: .lst xs :: h) (.ref 1) = some (xs, true) := rfl
@[simp] theorem seq_r2 (a b : Cell) (xs : List D) : seqOf (a :: b :: .lst xs :: h) (.ref 2) = some (xs, true) := rfl
@[simp] theorem len_r0 (xs : List D) : primD .len fz [.ref 0] (.lst xs :: h) = .ok (.int xs.length) (.lst xs :: h) := rfl
@[simp] theorem len_r1 (a : Cell) (xs : List D) : primD .len fz [.ref 1] (a :: .lst xs :: h) = .ok (.int xs.length) (a :: .lst xs :: h) := rfl
theorem app_r0 {xs : List D} {y : D} (q : xs.length < LN) : methD .append (.ref 0) [y] (.lst xs :: h) = .ok .non (.lst (xs ++ [y]) :: h) := m_append rfl q
theorem app_r1 {a : Cell} {xs : List D} {y : D} (q : xs.length < LN) : methD .append (.ref 1) [y] (a :: .lst xs :: h) = .ok .non (a :: .lst (xs ++ [y]) :: h) := m_append rfl q
theorem frz_r0 {xs : List D} (q : D.pures xs = true) : freezeD (.ref 0) (.lst xs :: h) = .ok (.lst xs) (.dead :: h) := frz_ref rfl q
theorem frz_r1 {a : Cell} {xs : List D} (q : D.pures xs = true) : freezeD (.ref 1) (a :: .lst xs :: h) = .ok (.lst xs) (a :: .dead :: h) := frz_ref rfl q
end
section
variable {c : Cfg} {ρ : Env} {h : Hs}
@[simp] theorem den_var (i : Nat) : (Ex.dt c (.var i)).1 ρ h = match ρ[i]? with | some (some d) => .ok d h | _ => .stuck := rfl
@[simp] theorem den_glob (x : Str) : (Ex.dt c (.glob x)).1 ρ h = match c.gl x with | some d => .ok d h | none => .stuck := rfl
@[simp] theorem den_cint (i : Int) : (Ex.dt c (.cint i)).1 ρ h = .ok (.int i) h := rfl
@[simp] theorem den_cbl (b : Bool) : (Ex.dt c (.cbl b)).1 ρ h = .ok (.bl b) h := rfl
@[simp] theorem den_cnon : (Ex.dt c .cnon).1 ρ h = .ok .non h := rfl
@[simp] theorem den_cstr (s : Str) : (Ex.dt c (.cstr s)).1 ρ h = .ok (.str s) h := rfl
@[simp] theorem den_bin (o : BOp) (fz : Bool) (a b : Ex) : (Ex.dt c (.bin o fz a b)).1 ρ h = ((a.dt c).1 ρ h).bd (fun x h1 => ((b.dt c).1 ρ h1).bd (fun y h2 => binD o fz x y h2 ) .mk) .mk:= rfl
@[simp] theorem den_neg (a : Ex) : (Ex.dt c (.neg a)).1 ρ h = ((a.dt c).1 ρ h).bd (fun x h1 => match x with | .int i => .ok (.int (-i)) h1 | _ => .stuck ) .mk:= rfl
@[simp] theorem den_cmp (o : COp) (a b : Ex) : (Ex.dt c (.cmp o a b)).1 ρ h = ((a.dt c).1 ρ h).bd (fun x h1 => ((b.dt c).1 ρ h1).bd (fun y h2 => cmpD o x y h2 ) .mk) .mk:= rfl
@[simp] theorem den_chain (o o' : COp) (a b e : Ex) : (Ex.dt c (.chain o o' a b e)).1 ρ h = ((a.dt c).1 ρ h).bd (fun x h1 => ((b.dt c).1 ρ h1).bd (fun y h2 => (cmpD o x y h2).bd (fun z h3 => match z with
    | .bl true => ((e.dt c).1 ρ h3).bd (fun w h4 => cmpD o' y w h4) .mk
    | .bl false => .ok (.bl false) h3
    | _ => .stuck) .mk) .mk) .mk := rfl
@[simp] theorem den_and (a b : Ex) : (Ex.dt c (.and a b)).1 ρ h = ((a.dt c).1 ρ h).bd (fun x h1 => match x with
      | .bl true => (b.dt c).1 ρ h1
      | .bl false => .ok (.bl false) h1
      | _ => .stuck ) .mk:= rfl
@[simp] theorem den_or (a b : Ex) : (Ex.dt c (.or a b)).1 ρ h = ((a.dt c).1 ρ h).bd (fun x h1 => match x with
      | .bl true => .ok (.bl true) h1
      | .bl false => (b.dt c).1 ρ h1
      | _ => .stuck ) .mk:= rfl
@[simp] theorem den_not (a : Ex) : (Ex.dt c (.not a)).1 ρ h = ((a.dt c).1 ρ h).bd (fun x h1 => match x with | .bl b => .ok (.bl (!b)) h1 | _ => .stuck ) .mk:= rfl
@[simp] theorem den_ite (t a b : Ex) : (Ex.dt c (.ite t a b)).1 ρ h = ((t.dt c).2 ρ h).bd (fun k h1 => if k = true then (a.dt c).1 ρ h1 else (b.dt c).1 ρ h1 ) .mk:= rfl
@[simp] theorem den_tup (es : Exs) : (Ex.dt c (.tup es)).1 ρ h = (es.den c ρ h).bd (fun ds h1 => if ds.length ≤ LN then .ok (.tup ds) h1 else .stuck ) .mk:= rfl
@[simp] theorem den_lst (fz : Bool) (es : Exs) : (Ex.dt c (.lst fz es)).1 ρ h = (es.den c ρ h).bd (fun ds h1 => newL fz ds h1 ) .mk:= rfl
@[simp] theorem den_idx (a i : Ex) : (Ex.dt c (.idx a i)).1 ρ h = ((a.dt c).1 ρ h).bd (fun x h1 => ((i.dt c).1 ρ h1).bd (fun y h2 => idxD x y h2 ) .mk) .mk:= rfl
@[simp] theorem den_slice (fz : Bool) (a : Ex) (lo hi : Exs) : (Ex.dt c (.slice fz a lo hi)).1 ρ h = ((a.dt c).1 ρ h).bd (fun x h1 => (lo.part c ρ h1).bd (fun l h2 => (hi.part c ρ h2).bd (fun u h3 => sliceD fz x l u h3 ) .mk) .mk) .mk:= rfl
@[simp] theorem den_call (f : Nat) (es : Exs) : (Ex.dt c (.call f es)).1 ρ h = (es.den c ρ h).bd (fun ds h1 => c.Γ f ds h1 ) .mk:= rfl
@[simp] theorem den_prim (p : Prim) (fz : Bool) (es : Exs) : (Ex.dt c (.prim p fz es)).1 ρ h = (es.den c ρ h).bd (fun ds h1 => primD p fz ds h1 ) .mk:= rfl
@[simp] theorem den_lrange (fz : Bool) (a : Ex) : (Ex.dt c (.lrange fz a)).1 ρ h = ((a.dt c).1 ρ h).bd (fun x h1 => match x with
    | .int n => if -(LN : Int) ≤ n ∧ n ≤ (LN : Int) then newL fz ((List.range n.toNat).map fun k => .int (k : Nat)) h1 else .stuck
    | _ => .stuck ) .mk:= rfl
@[simp] theorem den_lc (fz : Bool) (own : List (Str × Nat)) (tg : Tg) (it : Itx) (cond : Exs) (elt : Ex) : (Ex.dt c (.lc fz own tg it cond elt)).1 ρ h = (it.den c ρ h).bd (fun xs h1 =>
    (lcD (tg.den c) (cond.tsts c) (elt.dt c).1 (wipeE ρ (own.map (·.2))) xs [] h1).bd (fun ds h2 => newL fz ds h2 ) .mk) .mk:= rfl
@[simp] theorem den_freeze (a : Ex) : (Ex.dt c (.freeze a)).1 ρ h = ((a.dt c).1 ρ h).bd (fun x h1 => freezeD x h1 ) .mk:= rfl
@[simp] theorem den_rev (fz : Bool) (a : Ex) : (Ex.dt c (.rev fz a)).1 ρ h = ((a.dt c).1 ρ h).bd (fun x h1 => revD fz x h1 ) .mk:= rfl
@[simp] theorem den_dnew (t : Bool) : (Ex.dt c (.dnew t)).1 ρ h = .ok (.ref h.length) (h ++ [.dct t []]) := rfl
@[simp] theorem den_meth (m : Mt) (a : Ex) (es : Exs) : (Ex.dt c (.meth m a es)).1 ρ h = ((a.dt c).1 ρ h).bd (fun x h1 => if m.recv h1 x = true then (es.den c ρ h1).bd (fun ds h2 => methD m x ds h2) .mk else .stuck) .mk := rfl
@[simp] theorem recv_append (x : D) : Mt.recv .append h x = (match seqOf h x with | some (_, true) => true | _ => false) := rfl
@[simp] theorem recv_pop (x : D) : Mt.recv .pop h x = (match seqOf h x with | some (_, true) => true | _ => false) := rfl
@[simp] theorem recv_popAt (x : D) : Mt.recv .popAt h x = (match seqOf h x with | some (_, true) => true | _ => false) := rfl
@[simp] theorem recv_index (x : D) : Mt.recv .index h x = (match seqOf h x with | some (_, true) => true | _ => false) := rfl
@[simp] theorem recv_insert (x : D) : Mt.recv .insert h x = (match seqOf h x with | some (_, true) => true | _ => false) := rfl
@[simp] theorem recv_tindex (xs : List D) : Mt.recv .tindex h (.vt xs) = true := rfl
@[simp] theorem den_tupS (es : Sxs) : (Ex.dt c (.tupS es)).1 ρ h = (es.den c ρ h).bd (fun ds h1 => if ds.length ≤ LN then .ok (.tup ds) h1 else .stuck ) .mk:= rfl
@[simp] theorem den_ctup (es : Exs) : (Ex.dt c (.ctup es)).1 ρ h = (es.den c ρ h).bd (fun ds h1 => if ds.length ≤ LN then .ok (.vt ds) h1 else .stuck ) .mk:= rfl
@[simp] theorem den_fzd (a : Ex) : (Ex.dt c (.fzd a)).1 ρ h = ((a.dt c).1 ρ h).bd (fun x h1 => fzR x h1 ) .mk:= rfl
@[simp] theorem den_lc2 (fz : Bool) (own : List (Str × Nat)) (vs1 : List Nat) (tg : Tg) (it : Itx) (tg1 : Tg) (it1 : Itx) (cond : Exs) (elt : Ex) : (Ex.dt c (.lc2 fz own vs1 tg it tg1 it1 cond elt)).1 ρ h = (it.den c ρ h).bd (fun xs h1 =>
    (lc2D (tg.den c) (it1.den c) (tg1.den c) (cond.tsts c) (elt.dt c).1 (wipeE ρ (own.map (·.2))) vs1 xs [] h1).bd (fun ds h2 => newL fz ds h2 ) .mk) .mk:= rfl
@[simp] theorem sxs_nil : Sxs.den c .nil ρ h = .ok [] h := rfl
@[simp] theorem sxs_cons (e : Ex) (es : Sxs) : Sxs.den c (.cons e es) ρ h = ((e.dt c).1 ρ h).bd (fun x h1 => (es.den c ρ h1).bd (fun xs h2 => .ok (x :: xs) h2 ) .mk) .mk:= rfl
@[simp] theorem sxs_star (e : Ex) (es : Sxs) : Sxs.den c (.star e es) ρ h = ((e.dt c).1 ρ h).bd (fun x h1 => match seqOf h1 x with
    | some (ys, _) => (es.den c ρ h1).bd (fun xs h2 => .ok (ys ++ xs) h2 ) .mk
    | none => .stuck) .mk := rfl
@[simp] theorem it_zipM (a b : Ex) : Itx.den c (.zipM a b) ρ h = ((a.dt c).1 ρ h).bd (fun x h1 => ((b.dt c).1 ρ h1).bd (fun y h2 => match x, y with
    | .ref _, _ => .stuck
    | _, .ref _ => .stuck
    | x, y => match seqOf h2 x, seqOf h2 y with
      | some (xs, _), some (ys, _) => if xs.length = ys.length then .ok ((List.range xs.length).map fun j => .tup [xs.getD j .non, ys.getD j .non]) h2 else .stuck
      | _, _ => .stuck) .mk) .mk := rfl
@[simp] theorem it_enumZ (a b : Ex) : Itx.den c (.enumZ a b) ρ h = ((a.dt c).1 ρ h).bd (fun x h1 => ((b.dt c).1 ρ h1).bd (fun y h2 => match x, y with
    | .ref _, _ => .stuck
    | _, .ref _ => .stuck
    | x, y => match seqOf h2 x, seqOf h2 y with
      | some (xs, _), some (ys, _) => if xs.length = ys.length then .ok ((List.range xs.length).map fun j => .tup [.int (j : Nat), .tup [xs.getD j .non, ys.getD j .non]]) h2 else .stuck
      | _, _ => .stuck) .mk) .mk := rfl
@[simp] theorem it_zipS (e : Ex) : Itx.den c (.zipS e) ρ h = ((e.dt c).1 ρ h).bd (fun x h1 => match x with
    | .ref _ => .stuck
    | x => match seqOf h1 x with
      | some (xs, _) => (match (tupsOf xs).bind colsD with
        | some ys => .ok ys h1
        | none => .stuck)
      | none => .stuck) .mk := rfl
@[simp] theorem it_enumF (e : Ex) (k : Nat) : Itx.den c (.enumF e k) ρ h = ((e.dt c).1 ρ h).bd (fun x h1 => match x with
    | .ref _ => .stuck
    | x => match seqOf h1 x with
      | some (xs, true) => .ok ((List.range xs.length).zipWith (fun j x => .tup [.int ((k + j : Nat) : Int), x]) xs) h1
      | _ => .stuck) .mk := rfl
@[simp] theorem den_attr (k : Str) (a : Ex) (f : Str) : (Ex.dt c (.attr k a f)).1 ρ h = ((a.dt c).1 ρ h).bd (fun x h1 => attrD k f x h1 ) .mk := rfl
@[simp] theorem den_mcall (i : Nat) (k m : Str) (a : Ex) (es : Exs) : (Ex.dt c (.mcall i k m a es)).1 ρ h = ((a.dt c).1 ρ h).bd (fun x h1 => if isMeth k m x h1 = true then (es.den c ρ h1).bd (fun ds h2 => c.Γ i (x :: ds) h2) .mk else .stuck) .mk := rfl
@[simp] theorem den_make (i : Nat) (k : Str) (es : Exs) : (Ex.dt c (.make i k es)).1 ρ h = (es.den c ρ h).bd (fun ds h1 => (c.Γ i (.ref h1.length :: ds) (h1 ++ [.obj k []])).bd (fun r h2 => match r with
    | .non => .ok (.ref h1.length) h2
    | _ => .stuck) .mk) .mk := rfl
@[simp] theorem den_callV (i : Nat) (cs : List (Str × Nat)) (es : Exs) : (Ex.dt c (.callV i cs es)).1 ρ h = match ρ[i]? with
    | some (some (.fn x)) => match cs.lookup x with
      | some j => (es.den c ρ h).bd (fun ds h1 => c.Γ j ds h1) .mk
      | none => .stuck
    | _ => .stuck := rfl
@[simp] theorem den_fnv (x : Str) : (Ex.dt c (.fnv x)).1 ρ h = .ok (.fn x) h := rfl
@[simp] theorem den_isin2 (t u : String) (a : Ex) : (Ex.dt c (.isin2 t u a)).1 ρ h = ((a.dt c).1 ρ h).bd (fun x h1 => match typeIs h1 x t, typeIs h1 x u with
    | some b, some b' => .ok (.bl (b || b')) h1
    | _, _ => .stuck) .mk := rfl
@[simp] theorem den_dget (a k d : Ex) : (Ex.dt c (.dget a k d)).1 ρ h = ((a.dt c).1 ρ h).bd (fun x h1 => if (dctOf h1 x).isSome = true then ((k.dt c).1 ρ h1).bd (fun y h2 => ((d.dt c).1 ρ h2).bd (fun z h3 => dgetD x y z h3) .mk) .mk else .stuck) .mk := rfl
@[simp] theorem den_dispT (ps : Pxs) : (Ex.dt c (.dispT ps)).1 ρ h = (ps.den c ρ h).bd (fun ds h1 => match keysD (ds.map (·.1)) with
    | some kk => if kk.all isT && decide (ds.length ≤ 15) && decide (0 < ds.length) then .ok (.ref h1.length) (h1 ++ [.dct true ((kk.zip (ds.map (·.2))).foldl (fun m p => dput m p.1 p.2) [])]) else .stuck
    | none => .stuck) .mk := rfl
@[simp] theorem pxs_nil : Pxs.den c .nil ρ h = .ok [] h := rfl
@[simp] theorem pxs_cons (k v : Ex) (r : Pxs) : Pxs.den c (.cons k v r) ρ h = ((k.dt c).1 ρ h).bd (fun x h1 => ((v.dt c).1 ρ h1).bd (fun y h2 => (r.den c ρ h2).bd (fun ps h3 => .ok ((x, y) :: ps) h3) .mk) .mk) .mk := rfl
@[simp] theorem den_lcC (fz : Bool) (own : List (Str × Nat)) (tg : Tg) (i : Nat) (elt : Ex) : (Ex.dt c (.lcC fz own tg i elt)).1 ρ h = match ρ[i]? with
    | some (some (.ref n)) => (lcCD n (tg.den c) (elt.dt c).1 (wipeE ρ (own.map (·.2))) c.F 0 [] h).bd (fun ds h2 => newL fz ds h2) .mk
    | _ => .stuck := rfl
@[simp] theorem it_zipN (es : Exs) : Itx.den c (.zipN es) ρ h = (es.den c ρ h).bd (fun ds h1 => match (seqsOf h1 ds).bind colsD with
    | some ys => .ok ys h1
    | none => .stuck) .mk := rfl
@[simp] theorem den_lrange2 (fz : Bool) (a b : Ex) : (Ex.dt c (.lrange2 fz a b)).1 ρ h = ((a.dt c).1 ρ h).bd (fun x h1 => ((b.dt c).1 ρ h1).bd (fun y h2 => lr2D fz x y h2) .mk) .mk := rfl
@[simp] theorem tst_attr (k : Str) (a : Ex) (f : Str) : (Ex.dt c (.attr k a f)).2 ρ h = truF (Ex.dt c (.attr k a f)).1 ρ h := rfl
@[simp] theorem tst_mcall (i : Nat) (k m : Str) (a : Ex) (es : Exs) : (Ex.dt c (.mcall i k m a es)).2 ρ h = truF (Ex.dt c (.mcall i k m a es)).1 ρ h := rfl
@[simp] theorem tst_isin2 (t u : String) (a : Ex) : (Ex.dt c (.isin2 t u a)).2 ρ h = truF (Ex.dt c (.isin2 t u a)).1 ρ h := rfl
@[simp] theorem sm_setA (k : Str) (a : Ex) (f : Str) (e : Ex) : Sm.den c (.setA k a f e) ρ h = ((e.dt c).1 ρ h).gq ρ (fun v h1 => ((a.dt c).1 ρ h1).gq ρ (fun o h2 => match setAD k f o v h2 with
    | some h3 => .nx ρ h3
    | none => .stuck) .mk) .mk := rfl
@[simp] theorem tst_meth (m : Mt) (a : Ex) (es : Exs) : (Ex.dt c (.meth m a es)).2 ρ h = truF (Ex.dt c (.meth m a es)).1 ρ h := rfl
/-- tests -/
theorem tst_of (f : Env → Hs → R D) : truF f ρ h = (f ρ h).bd (fun x h1 => match truD h1 x with | some k => .ok k h1 | none => .stuck ) .mk:= rfl
@[simp] theorem tst_var (i : Nat) : (Ex.dt c (.var i)).2 ρ h = truF (Ex.dt c (.var i)).1 ρ h := rfl
@[simp] theorem tst_cbl (b : Bool) : (Ex.dt c (.cbl b)).2 ρ h = .ok b h := rfl
@[simp] theorem tst_cmp (o : COp) (a b : Ex) : (Ex.dt c (.cmp o a b)).2 ρ h = truF (Ex.dt c (.cmp o a b)).1 ρ h := rfl
@[simp] theorem tst_chain (o o' : COp) (a b e : Ex) : (Ex.dt c (.chain o o' a b e)).2 ρ h = truF (Ex.dt c (.chain o o' a b e)).1 ρ h := rfl
@[simp] theorem tst_call (f : Nat) (es : Exs) : (Ex.dt c (.call f es)).2 ρ h = truF (Ex.dt c (.call f es)).1 ρ h := rfl
@[simp] theorem tst_prim (p : Prim) (fz : Bool) (es : Exs) : (Ex.dt c (.prim p fz es)).2 ρ h = truF (Ex.dt c (.prim p fz es)).1 ρ h := rfl
@[simp] theorem tst_and (a b : Ex) : (Ex.dt c (.and a b)).2 ρ h = ((a.dt c).2 ρ h).bd (fun k h1 => if k = true then (b.dt c).2 ρ h1 else .ok false h1 ) .mk:= rfl
@[simp] theorem tst_or (a b : Ex) : (Ex.dt c (.or a b)).2 ρ h = ((a.dt c).2 ρ h).bd (fun k h1 => if k = true then .ok true h1 else (b.dt c).2 ρ h1 ) .mk:= rfl
@[simp] theorem tst_not (a : Ex) : (Ex.dt c (.not a)).2 ρ h = ((a.dt c).2 ρ h).bd (fun k h1 => .ok (!k) h1 ) .mk:= rfl
@[simp] theorem truF_eq (f : Env → Hs → R D) : truF f ρ h = (f ρ h).bd (fun x h1 => match truD h1 x with | some k => .ok k h1 | none => .stuck ) .mk:= rfl
@[simp] theorem tru_bl (b : Bool) : truD h (.bl b) = some b := rfl
@[simp] theorem tru_int (i : Int) : truD h (.int i) = some (i != 0) := rfl
/-- lists of expressions -/
@[simp] theorem dens_nil : Exs.den c .nil ρ h = .ok [] h := rfl
@[simp] theorem dens_cons (e : Ex) (es : Exs) : Exs.den c (.cons e es) ρ h = ((e.dt c).1 ρ h).bd (fun x h1 => (es.den c ρ h1).bd (fun xs h2 => .ok (x :: xs) h2 ) .mk) .mk:= rfl
@[simp] theorem part_nil : Exs.part c .nil ρ h = .ok none h := rfl
@[simp] theorem part_cons (e : Ex) (es : Exs) : Exs.part c (.cons e es) ρ h = ((e.dt c).1 ρ h).bd (fun x h1 => match x with | .int i => .ok (some i) h1 | _ => .stuck ) .mk:= rfl
@[simp] theorem tsts_nil : Exs.tsts c .nil ρ h = .ok true h := rfl
@[simp] theorem tsts_cons (e : Ex) (es : Exs) : Exs.tsts c (.cons e es) ρ h = (e.dt c).2 ρ h := rfl
/-- what loops walk -/
@[simp] theorem it_seq (e : Ex) : Itx.den c (.seq e) ρ h = ((e.dt c).1 ρ h).bd (fun x h1 => match x with
    | .ref _ => .stuck
    | x => match seqOf h1 x with | some (xs, _) => .ok xs h1 | none => .stuck ) .mk:= rfl
@[simp] theorem it_range (es : Exs) : Itx.den c (.range es) ρ h = (es.den c ρ h).bd (fun ds h1 => match ds with
    | [.int n] => if -(LN : Int) ≤ n ∧ n ≤ (LN : Int) then .ok ((List.range n.toNat).map fun k => .int (k : Nat)) h1 else .stuck
    | [.int a, .int b] => if -(LN : Int) ≤ a ∧ a ≤ (LN : Int) ∧ -(LN : Int) ≤ b ∧ b ≤ (LN : Int) then .ok ((List.range (b - a).toNat).map fun k => .int (a + (k : Nat))) h1 else .stuck
    | [.int a, .int b, .int s] => if s = -1 ∧ -(LN : Int) ≤ a ∧ a ≤ (LN : Int) ∧ -(LN : Int) ≤ b ∧ b ≤ (LN : Int) then .ok ((List.range (a - b).toNat).map fun k => .int (a - (k : Nat))) h1 else .stuck
    | _ => .stuck ) .mk:= rfl
@[simp] theorem it_enum (e : Ex) : Itx.den c (.enum e) ρ h = ((e.dt c).1 ρ h).bd (fun x h1 => match x with
    | .ref _ => .stuck
    | x => match seqOf h1 x with
      | some (xs, _) => .ok ((List.range xs.length).zipWith (fun k x => .tup [.int (k : Nat), x]) xs) h1
      | none => .stuck ) .mk:= rfl
@[simp] theorem tg_name (i : Nat) (d : D) : Tg.den c (.name i) d ρ h = if i < ρ.length then .nx (ρ.set i (some d)) h else .stuck := rfl
@[simp] theorem tg_tupT (ts : Tgs) (xs : List D) : Tg.den c (.tup ts) (.tup xs) ρ h = if xs.length = ts.n then ts.den c xs ρ h else .stuck := rfl
@[simp] theorem tg_tupL (ts : Tgs) (xs : List D) : Tg.den c (.tup ts) (.lst xs) ρ h = if xs.length = ts.n then ts.den c xs ρ h else .stuck := rfl
@[simp] theorem tg_idx (a i : Ex) (d : D) : Tg.den c (.idx a i) d ρ h = ((a.dt c).1 ρ h).gq ρ (fun x h1 => ((i.dt c).1 ρ h1).gq ρ (fun y h2 => match setD x y d h2 with
    | some h3 => .nx ρ h3
    | none => .stuck ) .mk) .mk:= rfl
@[simp] theorem tgs_nil : Tgs.den c .nil [] ρ h = .nx ρ h := rfl
@[simp] theorem tgs_cons (t : Tg) (ts : Tgs) (d : D) (r : List D) : Tgs.den c (.cons t ts) (d :: r) ρ h = (t.den c d ρ h).tn (fun ρ1 h1 => ts.den c r ρ1 h1 ) .mk:= rfl
@[simp] theorem tgn_nil : Tgs.n .nil = 0 := rfl
@[simp] theorem tgn_cons (t : Tg) (ts : Tgs) : Tgs.n (.cons t ts) = ts.n + 1 := rfl
/-- statements -/
@[simp] theorem sm_set (i : Nat) (e : Ex) : Sm.den c (.set i e) ρ h = ((e.dt c).1 ρ h).gq ρ (fun d h1 => setS ρ i d h1 ) .mk:= rfl
@[simp] theorem sm_asg (tg : Tg) (e : Ex) : Sm.den c (.asg tg e) ρ h = ((e.dt c).1 ρ h).gq ρ (fun d h1 => tg.den c d ρ h1 ) .mk:= rfl
@[simp] theorem sm_par2 (i j : Nat) (es : Exs) : Sm.den c (.par [i, j] es) ρ h = (es.den c ρ h).gq ρ (fun ds h1 => match ds with
    | [x, y] => if i < ρ.length ∧ j < ρ.length then .nx ((ρ.set i (some x)).set j (some y)) h1 else .stuck
    | _ => .stuck ) .mk := by
  refine Eq.trans (congrArg (fun f => (es.den c ρ h).go ρ f) (funext fun ds => funext fun h1 => ?_)) (rfl : (es.den c ρ h).go ρ _ = _)
  match ds with
  | [] => rfl
  | [x] => rfl
  | [x, y] => rfl
  | x :: y :: z :: r => rfl
@[simp] theorem sm_par3 (i j k : Nat) (es : Exs) : Sm.den c (.par [i, j, k] es) ρ h = (es.den c ρ h).gq ρ (fun ds h1 => match ds with
    | [x, y, z] => if i < ρ.length ∧ j < ρ.length ∧ k < ρ.length then .nx (((ρ.set i (some x)).set j (some y)).set k (some z)) h1 else .stuck
    | _ => .stuck ) .mk := by
  refine Eq.trans (congrArg (fun f => (es.den c ρ h).go ρ f) (funext fun ds => funext fun h1 => ?_)) (rfl : (es.den c ρ h).go ρ _ = _)
  match ds with
  | [] => rfl
  | [x] => rfl
  | [x, y] => rfl
  | [x, y, z] => rfl
  | x :: y :: z :: w :: r => rfl
@[simp] theorem sm_aug (i : Nat) (o : BOp) (e : Ex) : Sm.den c (.aug i o e) ρ h = match ρ[i]? with
    | some (some x) => ((e.dt c).1 ρ h).gq ρ (fun y h1 => match augD o x y with | some z => setS ρ i z h1 | none => .stuck) .mk
    | _ => .stuck := rfl
@[simp] theorem sm_expr (e : Ex) : Sm.den c (.expr e) ρ h = ((e.dt c).1 ρ h).gq ρ (fun _ h1 => .nx ρ h1 ) .mk:= rfl
@[simp] theorem sm_ret (e : Ex) : Sm.den c (.ret e) ρ h = ((e.dt c).1 ρ h).gq ρ (fun d h1 => .ret d h1 ) .mk:= rfl
@[simp] theorem sm_retN : Sm.den c .retN ρ h = .ret .non h := rfl
@[simp] theorem sm_ite (t : Ex) (a b : Sms) : Sm.den c (.ite t a b) ρ h = ((t.dt c).2 ρ h).gq ρ (fun k h1 => if k = true then a.den c ρ h1 else b.den c ρ h1 ) .mk:= rfl
@[simp] theorem sm_while (t : Ex) (b : Sms) : Sm.den c (.while t b) ρ h = whileD (t.dt c).2 (b.den c) c.F ρ h := rfl
@[simp] theorem sm_for (tg : Tg) (it : Itx) (b : Sms) : Sm.den c (.for tg it b) ρ h = (it.den c ρ h).gq ρ (fun xs h1 => forD (tg.den c) (b.den c) xs ρ h1 ) .mk:= rfl
@[simp] theorem sm_pass : Sm.den c .pass ρ h = .nx ρ h := rfl
@[simp] theorem sm_brk : Sm.den c .brk ρ h = .brk ρ h := rfl
@[simp] theorem sm_cnt : Sm.den c .cnt ρ h = .cnt ρ h := rfl
@[simp] theorem sm_raise (x : Str) : Sm.den c (.raise x) ρ h = if c.xs.contains x then .exc x none ρ h else .stuck := rfl
@[simp] theorem sm_tryR (b : Sms) (x : Str) (e : Ex) : Sm.den c (.tryR b x e) ρ h = match b.den c ρ h with
    | .exc k p ρ' h' => if c.xs.contains k && c.xs.contains x then (if supOf k x then ((e.dt c).1 ρ' h').gq ρ' (fun d h1 => .ret d h1) .mk else .exc k p ρ' h') else .stuck
    | o => o := rfl
@[simp] theorem sm_tryA (b : Sms) (x : Str) (i : Nat) (e : Hx) : Sm.den c (.tryA b x i e) ρ h = match b.den c ρ h with
    | .exc k p ρ' h' => if c.xs.contains k && c.xs.contains x && e.xs.all c.xs.contains then (if supOf k x then (match p, e.val k with
      | none, some d => if i < ρ'.length then .ret d h' else .stuck
      | _, _ => .stuck) else .exc k p ρ' h') else .stuck
    | o => o := rfl
@[simp] theorem sm_fz (i : Nat) : Sm.den c (.fz i) ρ h = match ρ[i]? with
    | some (some d) => (match fzD DEEPF d h with
      | some (d', h') => .nx (ρ.set i (some d')) h'
      | none => .stuck)
    | _ => .nx ρ h := rfl
@[simp] theorem sms_nil : Sms.den c .nil ρ h = .nx ρ h := rfl
@[simp] theorem sms_cons (s : Sm) (ss : Sms) : Sms.den c (.cons s ss) ρ h = (s.den c ρ h).tn (fun ρ1 h1 => ss.den c ρ1 h1 ) .mk:= rfl
@[simp] theorem setS_eq (i : Nat) (d : D) : setS ρ i d h = if i < ρ.length then .nx (ρ.set i (some d)) h else .stuck := rfl
end

/-- a loop over items, by a relation that holds ahead of and behind each turn -/
theorem forD_rel {σ : Type} {g : D → Env → Hs → Out} {b : Env → Hs → Out} (R : Nat → Env → Hs → Prop) : ∀ (xs : List D) (i : Nat) (ρ : Env) (h : Hs), R i ρ h →
    (∀ j x ρ h, xs[j]? = some x → R (i + j) ρ h → ∃ ρ1 h1 ρ' h', g x ρ h = .nx ρ1 h1 ∧ (b ρ1 h1 = .nx ρ' h' ∨ b ρ1 h1 = .cnt ρ' h') ∧ R (i + j + 1) ρ' h') →
    ∃ ρ' h', forD g b xs ρ h = .nx ρ' h' ∧ R (i + xs.length) ρ' h'
  | [], i, ρ, h, r, _ => ⟨ρ, h, rfl, r⟩
  | x :: xs, i, ρ, h, r, hs => by
    obtain ⟨ρ1, h1, ρ2, h2, e1, e2, r2⟩ := hs 0 x ρ h rfl r
    obtain ⟨ρ3, h3, e3, r3⟩ := forD_rel (σ := σ) R xs (i + 1) ρ2 h2 r2 fun j y ρ h hy hr => by
      have := hs (j + 1) y ρ h (by simpa using hy) (by rw [show i + (j + 1) = i + 1 + j from by omega]; exact hr)
      rw [show i + (j + 1) = i + 1 + j from by omega] at this
      exact this
    refine ⟨ρ3, h3, ?_, by rw [List.length_cons, show i + (xs.length + 1) = i + 1 + xs.length from by omega]; exact r3⟩
    unfold forD
    rw [e1]
    rcases e2 with e2 | e2
    · simp only [e2]; exact e3
    · simp only [e2]; exact e3
/-- a while loop, by a relation with a measure -/
theorem whileD_rel {c : Env → Hs → R Bool} {b : Env → Hs → Out} (P : Nat → Env → Hs → Prop) : ∀ (F m : Nat) (ρ : Env) (h : Hs), m < F → P m ρ h →
    (∀ m ρ h, P m ρ h → (∃ h1, c ρ h = .ok false h1 ∧ h1 = h ∧ m = 0) ∨ ∃ h1 ρ' h' m', c ρ h = .ok true h1 ∧ (b ρ h1 = .nx ρ' h' ∨ b ρ h1 = .cnt ρ' h') ∧ m' < m ∧ P m' ρ' h') →
    ∃ ρ' h', whileD c b F ρ h = .nx ρ' h' ∧ P 0 ρ' h'
  | 0, m, _, _, hl, _, _ => absurd hl (Nat.not_lt_zero m)
  | F + 1, m, ρ, h, hl, p, hs => by
    rcases hs m ρ h p with ⟨h1, e1, rfl, rfl⟩ | ⟨h1, ρ2, h2, m2, e1, e2, hm, p2⟩
    · exact ⟨ρ, h1, by unfold whileD; rw [e1], p⟩
    · obtain ⟨ρ3, h3, e3, p3⟩ := whileD_rel P F m2 ρ2 h2 (by omega) p2 hs
      refine ⟨ρ3, h3, ?_, p3⟩
      unfold whileD
      rw [e1]
      rcases e2 with e2 | e2
      · simp only [e2]; exact e3
      · simp only [e2]; exact e3
end Ev
set_option maxHeartbeats 1000000
/-! Ev, part R: the numbers that every law draws from its script. -/
namespace Ev
open PySem PySem.Spec PyProof.Rows L2
def rowLoop : Sms :=
 (.cons (.set 4 (.bin .mod true (.prim .intOf true (.cons (.bin .add true (.bin .mul true (.var 4) (.cint 16807)) (.bin .mul true (.cint 271) (.bin .add true (.var 5) (.cint 3)))) .nil)) (.cint 2147483629)))
 (.cons (.ite (.cmp .ge (.prim .abs true (.cons (.var 0) .nil)) (.bin .pow true (.cint 10) (.cint 18)))
 (.cons (.expr (.meth .append (.var 2) (.cons (.bin .mod true (.prim .intOf true (.cons (.var 3) .nil)) (.cint 1009)) .nil)))
 (.cons (.set 3 (.bin .fdiv true (.var 3) (.cint 1009)))
 .nil))
 (.cons (.expr (.meth .append (.var 2) (.cons (.bin .mod true (.prim .intOf true (.cons (.bin .fdiv true (.var 4) (.cint 7)) .nil)) (.cint 1009)) .nil)))
 .nil))
 .nil))
def rowB : Sms := (.cons (.set 2 (.lst false .nil))
 (.cons (.set 3 (.prim .abs true (.cons (.var 0) .nil)))
 (.cons (.set 4 (.bin .mod true (.prim .intOf true (.cons (.bin .add true (.bin .mul true (.var 3) (.cint 48271)) (.cint 69621)) .nil)) (.cint 2147483647)))
 (.cons (.for (.name 5) (.range (.cons (.var 1) .nil))
 rowLoop)
 (.cons (.ret (.freeze (.var 2)))
 .nil)))))
def numIn : Sms :=
 (.cons (.expr (.meth .append (.var 4) (.cons (.var 6) .nil)))
 .nil)
def numOut : Sms :=
 (.cons (.for (.name 6) (.seq (.call 0 (.cons (.var 5) (.cons (.var 3) .nil))))
 numIn)
 .nil)
def numWh : Sms :=
 (.cons (.expr (.meth .append (.var 4) (.cons (.cint 0) .nil)))
 .nil)
def numB : Sms := (.cons (.set 2 (.slice true (.var 0) .nil (.cons (.cint 63) .nil)))
 (.cons (.set 3 (.bin .add true (.cint 1) (.bin .fdiv true (.var 1) (.prim .max2 true (.cons (.cint 1) (.cons (.prim .len true (.cons (.var 2) .nil)) .nil))))))
 (.cons (.set 4 (.lst false .nil))
 (.cons (.for (.name 5) (.seq (.var 2))
 numOut)
 (.cons (.while (.cmp .lt (.prim .len true (.cons (.var 4) .nil)) (.var 1))
 numWh)
 (.cons (.ret (.slice true (.var 4) .nil (.cons (.var 1) .nil)))
 .nil))))))
theorem G_ok {fs : List Fn} {gl : Str → Option D} {xs : List Str} {F n i : Nat} {f : Fn} {ds : List D} {d : D} {h : Hs} (e : fs[i]? = some f) (hl : ds.length = f.ps.length) (hp : D.pures ds = true)
    (hd : ∃ h', f.body.den ⟨G fs gl xs F n, gl, xs, F⟩ (ds.map some ++ List.replicate (f.N.length - ds.length) none) [] = .ret d h') (hq : d.pure = true) (hs : f.sh = false := by rfl) : G fs gl xs F (n + 1) i ds h = .ok d h := by
  obtain ⟨h', hd⟩ := hd
  unfold G
  rw [e]
  have q : runFn ⟨G fs gl xs F n, gl, xs, F⟩ f ds = .ok d [] := by
    unfold runFn
    rw [if_pos ⟨hl, hp⟩, hd]
    exact if_pos hq
  dsimp only
  rw [if_neg (by rw [hs]; exact Bool.false_ne_true), q]
/-- .. with its caller's cells -/
theorem GS_ok {fs : List Fn} {gl : Str → Option D} {xs : List Str} {F n i : Nat} {f : Fn} {ds : List D} {d : D} {h h' : Hs} (e : fs[i]? = some f) (hl : ds.length = f.ps.length) (hs : f.sh = true)
    (hd : f.body.den ⟨G fs gl xs F n, gl, xs, F⟩ (ds.map some ++ List.replicate (f.N.length - ds.length) none) h = .ret d h') : G fs gl xs F (n + 1) i ds h = .ok d h' := by
  unfold G
  rw [e]
  dsimp only
  rw [if_pos hs]
  unfold runSh
  rw [if_pos hl, hd]
theorem pures_ints : ∀ ks : List Int, D.pures (ks.map .int) = true
  | [] => rfl
  | _ :: ks => pures_ints ks
theorem LN_eq : LN = 1000000 := rfl
def Small (ks : List Int) : Prop := ∀ k ∈ ks, 0 ≤ k ∧ k < 1009
theorem Small.snoc {ks : List Int} {k : Int} (s : Small ks) (h : 0 ≤ k ∧ k < 1009) : Small (ks ++ [k]) := fun x hx => by
  rcases List.mem_append.mp hx with q | q
  · exact s x q
  · simp at q; subst q; exact h
structure RowR (cell many : Int) (i : Nat) (ρ : Env) (h : Hs) : Prop where
  ex : ∃ (ks : List Int) (rest mixed : Int) (t : Option D), ρ = [some (.int cell), some (.int many), some (.ref 0), some (.int rest), some (.int mixed), t] ∧ h = [.lst (ks.map .int)] ∧ ks.length = i ∧ Small ks
theorem row_step {c : Cfg} {cell many : Int} {j : Nat} {ρ : Env} {h : Hs} (hj : RowR cell many j ρ h) (hl : (j : Int) < many) (h1 : many ≤ (LN : Int)) :
    ∃ ρ1 h1 ρ' h', Tg.den c (.name 5) (.int j) ρ h = .nx ρ1 h1 ∧ (Sms.den c rowLoop ρ1 h1 = .nx ρ' h' ∨ Sms.den c rowLoop ρ1 h1 = .cnt ρ' h') ∧ RowR cell many (j + 1) ρ' h' := by
  obtain ⟨ks, rest, mixed, t, rfl, rfl, hk, sm⟩ := hj.ex
  have hn : ks.length < LN := by omega
  by_cases hc : (1000000000000000000 : Int) ≤ (if cell < 0 then -cell else cell)
  · refine ⟨_, _, [some (.int cell), some (.int many), some (.ref 0), some (.int (rest / 1009)), some (.int ((mixed * 16807 + 271 * ((j : Int) + 3)) % 2147483629)), some (.int j)], [.lst ((ks ++ [rest % 1009]).map .int)], by simp; exact ⟨rfl, rfl⟩, .inl ?_,
      ⟨⟨ks ++ [rest % 1009], _, _, _, rfl, rfl, by simp [hk], sm.snoc ⟨Int.emod_nonneg _ (by omega), Int.emod_lt_of_pos _ (by omega)⟩⟩⟩⟩
    unfold rowLoop
    simp [bin_mul, bin_mod, bin_fdiv, bin_pow, hc, app_r0, hn]
  · refine ⟨_, _, [some (.int cell), some (.int many), some (.ref 0), some (.int rest), some (.int ((mixed * 16807 + 271 * ((j : Int) + 3)) % 2147483629)), some (.int j)], [.lst ((ks ++ [(mixed * 16807 + 271 * ((j : Int) + 3)) % 2147483629 / 7 % 1009]).map .int)], by simp; exact ⟨rfl, rfl⟩, .inl ?_,
      ⟨⟨ks ++ [(mixed * 16807 + 271 * ((j : Int) + 3)) % 2147483629 / 7 % 1009], _, _, _, rfl, rfl, by simp [hk], sm.snoc ⟨Int.emod_nonneg _ (by omega), Int.emod_lt_of_pos _ (by omega)⟩⟩⟩⟩
    unfold rowLoop
    simp [bin_mul, bin_mod, bin_fdiv, bin_pow, hc, app_r0, hn]
theorem row_body {c : Cfg} (cell many : Int) (h0 : 0 ≤ many) (h1 : many ≤ (LN : Int)) : ∃ ks : List Int, (∃ h', rowB.den c [some (.int cell), some (.int many), none, none, none, none] [] = .ret (.lst (ks.map .int)) h') ∧ ks.length = many.toNat ∧ Small ks := by
  have hm : -(LN : Int) ≤ many ∧ many ≤ (LN : Int) := ⟨by have := LN_eq; omega, h1⟩
  obtain ⟨ρ', h', e, r⟩ := forD_rel (σ := Unit) (g := Tg.den c (.name 5)) (b := Sms.den c rowLoop) (RowR cell many) (List.map (fun k => D.int (k : Nat)) (List.range many.toNat)) 0
    [some (.int cell), some (.int many), some (.ref 0), some (.int (if cell < 0 then -cell else cell)), some (.int (((if cell < 0 then -cell else cell) * 48271 + 69621) % 2147483647)), none] [.lst []] ⟨⟨[], _, _, _, rfl, rfl, rfl, fun x hx => by cases hx⟩⟩
    (fun j x ρ h hx hr => by
      rw [List.getElem?_map] at hx
      have hj : j < many.toNat := by
        cases q : (List.range many.toNat)[j]? with
        | none => rw [q] at hx; cases hx
        | some y => simpa using (List.getElem?_eq_some_iff.mp q).1
      rw [List.getElem?_range hj] at hx
      cases hx
      rw [Nat.zero_add] at hr ⊢
      exact row_step hr (by omega) h1)
  obtain ⟨ks, rest, mixed, t, rfl, rfl, hk, sm⟩ := r.ex
  refine ⟨ks, ⟨[.dead], ?_⟩, by simpa using hk, sm⟩
  unfold rowB
  simp [new_cell, bin_mul, bin_mod, hm]
  rw [e]
  simp [frz_r0, pures_ints]
theorem row_ok {fs : List Fn} {gl : Str → Option D} {xs : List Str} {F n : Nat} {f : Fn} (e : fs[0]? = some f) (hb : f.body = rowB) (hp : f.ps.length = 2) (hN : f.N.length = 6) (cell many : Int) (h0 : 0 ≤ many) (h1 : many ≤ (LN : Int)) (h : Hs) (hsf : f.sh = false := by rfl) :
    ∃ ks : List Int, G fs gl xs F (n + 1) 0 [.int cell, .int many] h = .ok (.lst (ks.map .int)) h ∧ ks.length = many.toNat ∧ Small ks := by
  obtain ⟨ks, hd, hk, sm⟩ := row_body (c := ⟨G fs gl xs F n, gl, xs, F⟩) cell many h0 h1
  exact ⟨ks, G_ok e hp.symm rfl (by rw [hb, hN]; exact hd) (pures_ints ks) hsf, hk, sm⟩
theorem cut_all {α : Type} {xs : List α} {k : Nat} (h : xs.length ≤ k) : cutD xs none (some (k : Int)) = xs := by
  unfold cutD
  rw [HT.sIx_nat, HT.sIx_none, List.drop_zero, Nat.sub_zero, Nat.min_eq_right h, List.take_length]
theorem cut_take {α : Type} (xs : List α) (k : Nat) : cutD xs none (some (k : Int)) = xs.take k := by
  unfold cutD
  rw [HT.sIx_nat, HT.sIx_none, List.drop_zero, Nat.sub_zero]
  by_cases h : k ≤ xs.length
  · rw [Nat.min_eq_left h]
  · rw [Nat.min_eq_right (by omega), List.take_length, List.take_of_length_le (by omega)]
abbrev numE (ns : List Int) (many each : Int) (t5 t6 : Option D) : Env := [some (.vw (ns.map .int)), some (.int many), some (.lst (ns.map .int)), some (.int each), some (.ref 0), t5, t6]
def GotRow (c : Cfg) : Prop := ∀ (cell many : Int) (h : Hs), 0 ≤ many → many ≤ (LN : Int) → ∃ ks : List Int, c.Γ 0 [.int cell, .int many] h = .ok (.lst (ks.map .int)) h ∧ ks.length = many.toNat ∧ Small ks
structure NumR (ns : List Int) (many each : Int) (i : Nat) (ρ : Env) (h : Hs) : Prop where
  ex : ∃ (ks : List Int) (t5 t6 : Option D), ρ = numE ns many each t5 t6 ∧ h = [.lst (ks.map .int)] ∧ (ks.length : Int) = i * each ∧ Small ks
structure NumI (ns : List Int) (many each cell : Int) (k0 rs : List Int) (i : Nat) (ρ : Env) (h : Hs) : Prop where
  ex : ∃ (t6 : Option D), ρ = numE ns many each (some (.int cell)) t6 ∧ h = [.lst ((k0 ++ rs.take i).map .int)]
structure NumW (ns : List Int) (many each : Int) (m : Nat) (ρ : Env) (h : Hs) : Prop where
  ex : ∃ (ks : List Int) (t5 t6 : Option D), ρ = numE ns many each t5 t6 ∧ h = [.lst (ks.map .int)] ∧ m = many.toNat - ks.length ∧ Small ks
theorem num_in {c : Cfg} {ns : List Int} {many each cell : Int} {k0 rs : List Int} (hk : k0.length + rs.length < LN) {t6 : Option D} :
    ∃ ρ' h', forD (Tg.den c (.name 6)) (Sms.den c numIn) (rs.map .int) (numE ns many each (some (.int cell)) t6) [.lst (k0.map .int)] = .nx ρ' h' ∧ NumI ns many each cell k0 rs rs.length ρ' h' := by
  have := forD_rel (σ := Unit) (g := Tg.den c (.name 6)) (b := Sms.den c numIn) (NumI ns many each cell k0 rs) (rs.map .int) 0 (numE ns many each (some (.int cell)) t6) [.lst (k0.map .int)] ⟨⟨t6, rfl, by simp⟩⟩ (fun j x ρ h hx hr => by
    rw [List.getElem?_map] at hx
    cases q : rs[j]? with
    | none => rw [q] at hx; cases hx
    | some y =>
      rw [q] at hx
      cases hx
      rw [Nat.zero_add] at hr ⊢
      obtain ⟨t, rfl, rfl⟩ := hr.ex
      have hj : j < rs.length := (List.getElem?_eq_some_iff.mp q).1
      have hn : k0.length + min j rs.length < LN := by omega
      refine ⟨_, _, numE ns many each (some (.int cell)) (some (.int y)), [.lst ((k0 ++ rs.take (j + 1)).map .int)], by simp [numE]; exact ⟨rfl, rfl⟩, .inl ?_, ⟨⟨_, rfl, rfl⟩⟩⟩
      unfold numIn
      rw [List.take_add_one, q]
      simp [numE, app_r0, hn])
  rw [List.length_map, Nat.zero_add] at this
  exact this
theorem num_step {c : Cfg} (hc : GotRow c) {ns : List Int} {many each : Int} (he : 0 ≤ each) (hz : 63 * each < (LN : Int)) (hns : ns.length ≤ 63) {j : Nat} {ρ : Env} {h : Hs} {x : D} (hx : (ns.map D.int)[j]? = some x) (hr : NumR ns many each j ρ h) :
    ∃ ρ1 h1 ρ' h', Tg.den c (.name 5) x ρ h = .nx ρ1 h1 ∧ (Sms.den c numOut ρ1 h1 = .nx ρ' h' ∨ Sms.den c numOut ρ1 h1 = .cnt ρ' h') ∧ NumR ns many each (j + 1) ρ' h' := by
  rw [List.getElem?_map] at hx
  cases q : ns[j]? with
  | none => rw [q] at hx; cases hx
  | some y =>
    rw [q] at hx
    cases hx
    obtain ⟨ks, t5, t6, rfl, rfl, hk, sm⟩ := hr.ex
    have hj : j < ns.length := (List.getElem?_eq_some_iff.mp q).1
    obtain ⟨rs, e1, hl, sr⟩ := hc y each [.lst (ks.map .int)] he (by omega)
    have hle : (ks.length : Int) + each ≤ 63 * each := by
      rw [hk]
      have : ((j : Int) + 1) * each ≤ 63 * each := Int.mul_le_mul_of_nonneg_right (by omega) he
      rw [Int.add_mul, Int.one_mul] at this
      exact this
    obtain ⟨ρ2, h2, e2, r2⟩ := num_in (c := c) (ns := ns) (many := many) (each := each) (cell := y) (k0 := ks) (rs := rs) (t6 := t6) (by omega)
    obtain ⟨t, rfl, rfl⟩ := r2.ex
    refine ⟨_, _, numE ns many each (some (.int y)) t, [.lst ((ks ++ rs.take rs.length).map .int)], by simp [numE]; exact ⟨rfl, rfl⟩, .inl ?_, ⟨⟨ks ++ rs, some (.int y), t, rfl, by rw [List.take_length], ?_, ?_⟩⟩⟩
    · unfold numOut
      simp only [numE] at e2
      simp [numE, e1]
      rw [e2]
      simp [numE]
    · have e3 : ((rs.length : Nat) : Int) = each := by omega
      rw [List.length_append, Int.natCast_add, hk, e3, Int.natCast_add, Int.add_mul]
      simp
    · intro z hz'
      rcases List.mem_append.mp hz' with q | q
      · exact sm z q
      · exact sr z q
theorem num_while {c : Cfg} {ns : List Int} {many each : Int} (hm : many ≤ 1000) (hF : 1000 < c.F) {ρ : Env} {h : Hs} {m : Nat} (hr : NumW ns many each m ρ h) :
    ∃ ρ' h', whileD (Ex.dt c (.cmp .lt (.prim .len true (.cons (.var 4) .nil)) (.var 1))).2 (Sms.den c numWh) c.F ρ h = .nx ρ' h' ∧ NumW ns many each 0 ρ' h' := by
  have hm' : m < c.F := by
    obtain ⟨ks, _, _, _, _, e, _⟩ := hr.ex
    omega
  refine whileD_rel (NumW ns many each) c.F m ρ h hm' hr fun m ρ h hr => ?_
  obtain ⟨ks, t5, t6, rfl, rfl, e, sm⟩ := hr.ex
  by_cases q : (ks.length : Int) < many
  · refine .inr ⟨[.lst (ks.map .int)], numE ns many each t5 t6, [.lst ((ks ++ [0]).map .int)], many.toNat - (ks.length + 1), ?_, .inl ?_, by omega, ⟨⟨ks ++ [0], t5, t6, rfl, rfl, by simp, sm.snoc (by omega)⟩⟩⟩
    · simp [numE, q]
    · unfold numWh
      have hn : ks.length < LN := by rw [LN_eq]; omega
      simp [numE, app_r0, hn]
  · refine .inl ⟨_, ?_, rfl, by omega⟩
    simp [numE, q]
theorem num_body {c : Cfg} (hc : GotRow c) (hF : 1000 < c.F) {ns : List Int} (hns : ns.length ≤ 63) (many : Int) (h0 : 0 ≤ many) (h1 : many ≤ 1000) :
    ∃ ks : List Int, (∃ h', numB.den c [some (.vw (ns.map .int)), some (.int many), none, none, none, none, none] [] = .ret (.lst (ks.map .int)) h') ∧ ks.length = many.toNat ∧ Small ks := by
  have hl0 : ns.length ≤ LN := by rw [LN_eq]; omega
  generalize hE : 1 + many / (if (ns.length : Int) > 1 then (ns.length : Int) else 1) = each
  have hj : 0 < (if (ns.length : Int) > 1 then (ns.length : Int) else 1) := by split <;> omega
  have hj2 : (if (ns.length : Int) > 1 then (ns.length : Int) else 1) < 1073741824 := by split <;> omega
  have hd : 0 ≤ many / (if (ns.length : Int) > 1 then (ns.length : Int) else 1) := Int.ediv_nonneg h0 (by omega)
  have hd2 : many / (if (ns.length : Int) > 1 then (ns.length : Int) else 1) ≤ many := Int.ediv_le_self _ h0
  have he : 0 ≤ each := by omega
  have he2 : 63 * each < (LN : Int) := by rw [LN_eq]; omega
  obtain ⟨ρ1, s1, e1, r1⟩ := forD_rel (σ := Unit) (g := Tg.den c (.name 5)) (b := Sms.den c numOut) (NumR ns many each) (ns.map .int) 0 (numE ns many each none none) [.lst []] ⟨⟨[], none, none, rfl, rfl, by simp, fun x hx => by cases hx⟩⟩
    (fun j x ρ h hx hr => by
      rw [Nat.zero_add] at hr ⊢
      exact num_step hc he he2 hns hx hr)
  obtain ⟨k1, t5, t6, rfl, rfl, hk1, s1⟩ := r1.ex
  obtain ⟨ρ2, s2, e2, r2⟩ := num_while (c := c) h1 hF (m := many.toNat - k1.length) ⟨⟨k1, t5, t6, rfl, rfl, rfl, s1⟩⟩
  obtain ⟨k2, u5, u6, rfl, rfl, hk2, s2⟩ := r2.ex
  refine ⟨k2.take many.toNat, ⟨[.lst (k2.map .int)], ?_⟩, by rw [List.length_take]; omega, fun x hx => s2 x (List.mem_of_mem_take hx)⟩
  have hcut : cutD (ns.map D.int) none (some 63) = ns.map D.int := cut_all (k := 63) (by rw [List.length_map]; exact hns)
  have hcut2 : cutD (k2.map D.int) none (some many) = (k2.take many.toNat).map D.int := by
    have := cut_take (k2.map D.int) many.toNat
    rw [show ((many.toNat : Nat) : Int) = many from by omega] at this
    rw [this, List.map_take]
  have hsl : ∀ h, sliceD true (.vw (ns.map D.int)) none (some 63) h = .ok (.lst (ns.map D.int)) h := fun h => by
    show newL true (cutD (ns.map D.int) none (some 63)) h = _
    rw [hcut, new_fz (by rw [List.length_map]; exact hl0)]
  have hsl2 : sliceD true (.ref 0) none (some many) [.lst (k2.map D.int)] = .ok (.lst ((k2.take many.toNat).map D.int)) [.lst (k2.map D.int)] := by
    show newL true (cutD (k2.map D.int) none (some many)) _ = _
    rw [hcut2, new_fz (by rw [List.length_map, List.length_take, LN_eq]; omega)]
  unfold numB
  simp only [numE] at e1 e2
  simp [hsl, new_cell, bin_fdiv, hj, hj2, hE]
  rw [e1]
  simp
  rw [e2]
  simp [hsl2]
theorem num_ok {fs : List Fn} {gl : Str → Option D} {xs : List Str} {F n : Nat} {f g : Fn} (e : fs[0]? = some f) (hb : f.body = rowB) (hp : f.ps.length = 2) (hN : f.N.length = 6) (e' : fs[1]? = some g) (hb' : g.body = numB) (hp' : g.ps.length = 2) (hN' : g.N.length = 7) (hF : 1000 < F)
    {ns : List Int} (hns : ns.length ≤ 63) (many : Int) (h0 : 0 ≤ many) (h1 : many ≤ 1000) (h : Hs) (hsf : f.sh = false := by rfl) (hsg : g.sh = false := by rfl) :
    ∃ ks : List Int, G fs gl xs F (n + 2) 1 [.vw (ns.map .int), .int many] h = .ok (.lst (ks.map .int)) h ∧ ks.length = many.toNat ∧ Small ks := by
  obtain ⟨ks, hd, hk, sm⟩ := num_body (c := ⟨G fs gl xs F (n + 1), gl, xs, F⟩) (fun cell m h a b => row_ok e hb hp hN cell m a b h hsf) hF hns many h0 h1
  exact ⟨ks, G_ok e' hp'.symm (by show (D.pures (ns.map D.int) && _) = true; rw [pures_ints]; rfl) (by rw [hb', hN']; exact hd) (pures_ints ks) hsg, hk, sm⟩
end Ev
set_option maxHeartbeats 1000000
/-! Ev, part S: loops with a name, with a pair of names. -/
namespace Ev
open PySem PySem.Spec PyProof.Rows L2
variable {c : Cfg}
theorem for_name {α : Type} {b : Env → Hs → Out} {i : Nat} (f : α → D) (xs : List α) (R : Nat → Env → Hs → Prop) {ρ : Env} {h : Hs} (hr : R 0 ρ h)
    (hs : ∀ j x ρ h, xs[j]? = some x → R j ρ h → i < ρ.length ∧ ∃ ρ' h', b (ρ.set i (some (f x))) h = .nx ρ' h' ∧ R (j + 1) ρ' h') :
    ∃ ρ' h', forD (Tg.den c (.name i)) b (xs.map f) ρ h = .nx ρ' h' ∧ R xs.length ρ' h' := by
  have := forD_rel (σ := Unit) (g := Tg.den c (.name i)) (b := b) R (xs.map f) 0 ρ h hr fun j y ρ h hy r => by
    rw [List.getElem?_map] at hy
    cases q : xs[j]? with
    | none => rw [q] at hy; cases hy
    | some x =>
      rw [q] at hy; cases hy
      rw [Nat.zero_add] at r ⊢
      obtain ⟨hl, ρ', h', e, r'⟩ := hs j x ρ h q r
      exact ⟨_, _, ρ', h', by rw [tg_name, if_pos hl], .inl e, r'⟩
  rw [List.length_map, Nat.zero_add] at this
  exact this
theorem for_rng {b : Env → Hs → Out} {i : Nat} (n : Nat) (R : Nat → Env → Hs → Prop) {ρ : Env} {h : Hs} (hr : R 0 ρ h)
    (hs : ∀ j ρ h, j < n → R j ρ h → i < ρ.length ∧ ∃ ρ' h', b (ρ.set i (some (.int (j : Nat)))) h = .nx ρ' h' ∧ R (j + 1) ρ' h') :
    ∃ ρ' h', forD (Tg.den c (.name i)) b ((List.range n).map fun k => D.int (k : Nat)) ρ h = .nx ρ' h' ∧ R n ρ' h' := by
  have := for_name (c := c) (b := b) (i := i) (fun k : Nat => D.int (k : Nat)) (List.range n) R hr fun j x ρ h hx r => by
    have hj : j < n := by simpa using (List.getElem?_eq_some_iff.mp hx).1
    rw [List.getElem?_range hj] at hx
    cases hx
    exact hs j ρ h hj r
  rw [List.length_range] at this
  exact this
/-- the figures of a number, the least first -/
def figs (p : Int) (n : Nat) (x : Int) : List Int := (List.range n).map fun j => x / p ^ j % p
theorem figs_succ (p : Int) (n : Nat) (x : Int) : figs p (n + 1) x = figs p n x ++ [x / p ^ n % p] := by
  unfold figs; rw [List.range_succ, List.map_append]; rfl
theorem figs_len (p : Int) (n : Nat) (x : Int) : (figs p n x).length = n := by unfold figs; rw [List.length_map, List.length_range]
theorem div_pow {p : Int} (hp : 0 < p) (x : Int) (n : Nat) : x / p ^ n / p = x / p ^ (n + 1) := by
  rw [Int.pow_succ, Int.ediv_ediv_of_nonneg (Int.le_of_lt (Int.pow_pos hp))]
structure Prm (p : Int) : Prop where
  pos : 0 < p
  lt : p < 1000000
def figLoop : Sms := (.cons (.expr (.meth .append (.var 3) (.cons (.bin .mod true (.var 2) (.var 0)) .nil)))
 (.cons (.aug 2 .fdiv (.var 0))
 .nil))
def figB : Sms := (.cons (.set 3 (.lst false .nil))
 (.cons (.for (.name 4) (.range (.cons (.var 1) .nil))
 figLoop)
 (.cons (.ret (.freeze (.var 3)))
 .nil)))
def lfigLoop : Sms := (.cons (.expr (.meth .append (.var 3) (.cons (.bin .mod true (.prim .intOf true (.cons (.var 2) .nil)) (.var 0)) .nil)))
 (.cons (.set 2 (.prim .intOf true (.cons (.bin .fdiv true (.var 2) (.var 0)) .nil)))
 .nil))
def lfigB : Sms := (.cons (.set 3 (.lst false .nil))
 (.cons (.for (.name 4) (.range (.cons (.var 1) .nil))
 lfigLoop)
 (.cons (.ret (.freeze (.var 3)))
 .nil)))
def FigR (p many x : Int) (i : Nat) (ρ : Env) (h : Hs) : Prop := ∃ t : Option D, ρ = [some (.int p), some (.int many), some (.int (x / p ^ i)), some (.ref 0), t] ∧ h = [.lst ((figs p i x).map .int)]
theorem fig_body {p : Int} (hp : Prm p) (n : Nat) (hn : n ≤ 1000) (x : Int) : ∃ h', figB.den c [some (.int p), some (.int n), some (.int x), none, none] [] = .ret (.lst ((figs p n x).map .int)) h' := by
  obtain ⟨hp0, hp1⟩ := hp
  have hp2 : p < 1073741824 := by omega
  obtain ⟨ρ', h', e, t, rfl, rfl⟩ := for_rng (c := c) (b := Sms.den c figLoop) (i := 4) n (FigR p n x) (ρ := [some (.int p), some (.int n), some (.int x), some (.ref 0), none]) (h := [.lst []]) ⟨none, by simp, rfl⟩ (fun j ρ h hj ⟨t, e1, e2⟩ => by
    subst e1 e2
    have hl : (figs p j x).length < LN := by rw [figs_len, LN_eq]; omega
    refine ⟨by simp, _, _, ?_, ⟨some (.int j), rfl, rfl⟩⟩
    unfold figLoop
    rw [figs_succ, ← div_pow hp0]
    simp [bin_mod, hp0, app_r0, hl, aug_fdiv, hp2])
  have hm : -(LN : Int) ≤ n ∧ (n : Int) ≤ LN := by rw [LN_eq]; omega
  refine ⟨[.dead], ?_⟩
  unfold figB
  simp [new_cell, hm]
  rw [e]
  simp [frz_r0, pures_ints]
theorem lfig_body {p : Int} (hp : Prm p) (n : Nat) (hn : n ≤ 1000) (x : Int) : ∃ h', lfigB.den c [some (.int p), some (.int n), some (.int x), none, none] [] = .ret (.lst ((figs p n x).map .int)) h' := by
  obtain ⟨hp0, hp1⟩ := hp
  have hp2 : p < 1073741824 := by omega
  obtain ⟨ρ', h', e, t, rfl, rfl⟩ := for_rng (c := c) (b := Sms.den c lfigLoop) (i := 4) n (FigR p n x) (ρ := [some (.int p), some (.int n), some (.int x), some (.ref 0), none]) (h := [.lst []]) ⟨none, by simp, rfl⟩ (fun j ρ h hj ⟨t, e1, e2⟩ => by
    subst e1 e2
    have hl : (figs p j x).length < LN := by rw [figs_len, LN_eq]; omega
    refine ⟨by simp, _, _, ?_, ⟨some (.int j), rfl, rfl⟩⟩
    unfold lfigLoop
    rw [figs_succ, ← div_pow hp0]
    simp [bin_mod, hp0, app_r0, hl, bin_fdiv, hp2])
  have hm : -(LN : Int) ≤ n ∧ (n : Int) ≤ LN := by rw [LN_eq]; omega
  refine ⟨[.dead], ?_⟩
  unfold lfigB
  simp [new_cell, hm]
  rw [e]
  simp [frz_r0, pures_ints]
/-- the number of its figures -/
def numb (p : Int) : List Int → Int
  | [] => 0
  | x :: xs => numb p xs * p + x
theorem numb_rev (p : Int) : ∀ xs : List Int, xs.reverse.foldl (fun t x => t * p + x) 0 = numb p xs
  | [] => rfl
  | x :: xs => by rw [List.reverse_cons, List.foldl_append, numb_rev p xs]; rfl
def nmbLoop : Sms := (.cons (.set 2 (.bin .add true (.bin .mul true (.var 2) (.var 0)) (.var 3)))
 .nil)
def nmbB : Sms := (.cons (.set 2 (.cint 0))
 (.cons (.for (.name 3) (.seq (.rev true (.var 1)))
 nmbLoop)
 (.cons (.ret (.var 2))
 .nil)))
theorem nmb_body {p : Int} (hp : Prm p) (xs : List Int) (hx : xs.length ≤ 1000) : ∃ h', nmbB.den c [some (.int p), some (.lst (xs.map .int)), none, none] [] = .ret (.int (numb p xs)) h' := by
  obtain ⟨hp0, hp1⟩ := hp
  have q1 : -18446744073709551616 < p := by omega
  have q2 : p < 18446744073709551616 := by omega
  obtain ⟨ρ', h', e, t, rfl, rfl⟩ := for_name (c := c) (b := Sms.den c nmbLoop) (i := 3) D.int xs.reverse (fun i ρ h => ∃ t : Option D, ρ = [some (.int p), some (.lst (xs.map .int)), some (.int ((xs.reverse.take i).foldl (fun t x => t * p + x) 0)), t] ∧ h = [])
    (ρ := [some (.int p), some (.lst (xs.map .int)), some (.int 0), none]) (h := []) ⟨none, rfl, rfl⟩ (fun j x ρ h hx ⟨t, e1, e2⟩ => by
      subst e1 e2
      refine ⟨by simp, _, _, ?_, ⟨some (.int x), rfl, rfl⟩⟩
      unfold nmbLoop
      rw [List.take_add_one, hx, List.foldl_append]
      simp [bin_mul, q1, q2])
  rw [List.take_length, numb_rev] at e
  have hr : ∀ h, revD true (.lst (xs.map D.int)) h = .ok (.lst (xs.reverse.map .int)) h := fun h => by
    show newL true (xs.map D.int).reverse h = _
    rw [← List.map_reverse, new_fz (by rw [List.length_map, List.length_reverse, LN_eq]; omega)]
  refine ⟨[], ?_⟩
  unfold nmbB
  simp [hr]
  simp only [← List.map_reverse] at e ⊢
  rw [e]
  simp
end Ev
set_option maxHeartbeats 1000000
/-! Ev, part T: products of figures. -/
namespace Ev
open PySem PySem.Spec PyProof.Rows L2
variable {c : Cfg}
theorem for_enum {α : Type} {b : Env → Hs → Out} {i k : Nat} (f : α → D) (xs : List α) (R : Nat → Env → Hs → Prop) {ρ : Env} {h : Hs} (hr : R 0 ρ h)
    (hs : ∀ j x ρ h, xs[j]? = some x → R j ρ h → i < ρ.length ∧ k < ρ.length ∧ ∃ ρ' h', b ((ρ.set i (some (.int (j : Nat)))).set k (some (f x))) h = .nx ρ' h' ∧ R (j + 1) ρ' h') :
    ∃ ρ' h', forD (Tg.den c (.tup (.cons (.name i) (.cons (.name k) .nil)))) b (List.zipWith (fun k x => D.tup [D.int (k : Nat), x]) (List.range xs.length) (xs.map f)) ρ h = .nx ρ' h' ∧ R xs.length ρ' h' := by
  have := forD_rel (σ := Unit) (g := Tg.den c (.tup (.cons (.name i) (.cons (.name k) .nil)))) (b := b) R (List.zipWith (fun k x => D.tup [D.int (k : Nat), x]) (List.range xs.length) (xs.map f)) 0 ρ h hr fun j y ρ h hy r => by
    rw [List.getElem?_zipWith, List.getElem?_map] at hy
    cases q : xs[j]? with
    | none =>
      rw [q] at hy
      cases q2 : (List.range xs.length)[j]? with
      | none => rw [q2] at hy; cases hy
      | some _ => rw [q2] at hy; cases hy
    | some x =>
      have hj : j < xs.length := (List.getElem?_eq_some_iff.mp q).1
      rw [q, List.getElem?_range hj] at hy
      cases hy
      rw [Nat.zero_add] at r ⊢
      obtain ⟨hl, hl2, ρ', h', e, r'⟩ := hs j x ρ h q r
      refine ⟨_, _, ρ', h', ?_, .inl e, r'⟩
      simp [hl, hl2]
  rw [List.length_zipWith, List.length_range, List.length_map, Nat.min_self, Nat.zero_add] at this
  exact this
def at0 (xs : List Int) (k : Int) : Int := xs.getD k.toNat 0
def put (xs : List Int) (k : Int) (v : Int) : List Int := xs.set k.toNat v
@[simp] theorem put_len (xs : List Int) (k v : Int) : (put xs k v).length = xs.length := by unfold put; exact List.length_set ..
theorem ix_ok {n : Nat} {k : Int} (h0 : 0 ≤ k) (h1 : k < n) : ixN n k = some k.toNat := by unfold ixN; rw [if_pos h0, if_pos h1]
theorem at_ok {xs : List Int} {k : Int} (h0 : 0 ≤ k) (h1 : k < xs.length) : atI (xs.map D.int) k = some (.int (at0 xs k)) := by
  unfold atI at0
  rw [List.length_map, ix_ok h0 h1]
  show (xs.map D.int)[k.toNat]? = _
  rw [List.getElem?_map, List.getD_eq_getElem?_getD, List.getElem?_eq_getElem (by omega)]
  rfl
theorem idx_l {xs : List Int} {k : Int} {h : Hs} (h0 : 0 ≤ k) (h1 : k < xs.length) : idxD (.lst (xs.map .int)) (.int k) h = .ok (.int (at0 xs k)) h := by
  show (match atI (xs.map D.int) k with | some v => R.ok v h | none => R.stuck) = _
  rw [at_ok h0 h1]
theorem idx_t {xs : List Int} {k : Int} {h : Hs} (h0 : 0 ≤ k) (h1 : k < xs.length) : idxD (.tup (xs.map .int)) (.int k) h = .ok (.int (at0 xs k)) h := by
  show (match atI (xs.map D.int) k with | some v => R.ok v h | none => R.stuck) = _
  rw [at_ok h0 h1]
theorem idx_r0 {xs : List Int} {k : Int} {h : Hs} (h0 : 0 ≤ k) (h1 : k < xs.length) : idxD (.ref 0) (.int k) (.lst (xs.map .int) :: h) = .ok (.int (at0 xs k)) (.lst (xs.map .int) :: h) := by
  show (match atI (xs.map D.int) k with | some v => R.ok v _ | none => R.stuck) = _
  rw [at_ok h0 h1]
theorem set_r0 {xs : List Int} {k v : Int} {h : Hs} (h0 : 0 ≤ k) (h1 : k < xs.length) : setD (.ref 0) (.int k) (.int v) (.lst (xs.map .int) :: h) = some (.lst ((put xs k v).map .int) :: h) := by
  show (ixN (xs.map D.int).length k).map _ = _
  rw [List.length_map, ix_ok h0 h1]
  show some (Cell.lst ((xs.map D.int).set k.toNat (.int v)) :: h) = _
  unfold put
  rw [List.map_set]
/-- a row of a product -/
def mulJ (p x : Int) (i : Nat) (ys : List Int) (row : List Int) : Nat → List Int
  | 0 => row
  | j + 1 => put (mulJ p x i ys row j) ((i : Int) + j) ((at0 (mulJ p x i ys row j) ((i : Int) + j) + x * at0 ys j) % p)
def mulI (p : Int) (xs ys : List Int) : Nat → List Int
  | 0 => List.replicate (xs.length + ys.length - 1) 0
  | i + 1 => mulJ p (at0 xs i) i ys (mulI p xs ys i) ys.length
def mulL (p : Int) (xs ys : List Int) : List Int := mulI p xs ys xs.length
theorem mulJ_len (p x : Int) (i : Nat) (ys row : List Int) : ∀ j, (mulJ p x i ys row j).length = row.length
  | 0 => rfl
  | j + 1 => by rw [mulJ, put_len]; exact mulJ_len p x i ys row j
theorem mulI_len (p : Int) (xs ys : List Int) : ∀ i, (mulI p xs ys i).length = xs.length + ys.length - 1
  | 0 => by rw [mulI, List.length_replicate]
  | i + 1 => by rw [mulI, mulJ_len]; exact mulI_len p xs ys i
def mulIn : Sms := (.cons (.asg (.idx (.var 3) (.bin .add true (.var 4) (.var 6))) (.bin .mod true (.bin .add true (.idx (.var 3) (.bin .add true (.var 4) (.var 6))) (.bin .mul true (.var 5) (.var 7))) (.var 0)))
 .nil)
def mulOut : Sms := (.cons (.for (.tup (.cons (.name 6) (.cons (.name 7) .nil))) (.enum (.var 2))
 mulIn)
 .nil)
def mulB : Sms := (.cons (.set 3 (.bin .mul false (.lst true (.cons (.cint 0) .nil)) (.bin .sub true (.bin .add true (.prim .len true (.cons (.var 1) .nil)) (.prim .len true (.cons (.var 2) .nil))) (.cint 1))))
 (.cons (.for (.tup (.cons (.name 4) (.cons (.name 5) .nil))) (.enum (.var 1))
 mulOut)
 (.cons (.ret (.freeze (.var 3)))
 .nil)))
def Fig (p : Int) (xs : List Int) : Prop := ∀ x ∈ xs, 0 ≤ x ∧ x < p
theorem at0_of {xs : List Int} {j : Nat} {x : Int} (h : xs[j]? = some x) : at0 xs (j : Int) = x := by
  unfold at0; rw [Int.toNat_natCast, List.getD_eq_getElem?_getD, h]; rfl
abbrev mulE (p : Int) (xs ys : List Int) (a b d e : Option D) : Env := [some (.int p), some (.lst (xs.map .int)), some (.lst (ys.map .int)), some (.ref 0), a, b, d, e]
theorem mul_in {p : Int} (hp : Prm p) {xs ys row : List Int} {x : Int} {i : Nat} (hx : 0 ≤ x ∧ x < p) (hl : i + ys.length ≤ row.length) {d e : Option D} :
    ∃ ρ' h', forD (Tg.den c (.tup (.cons (.name 6) (.cons (.name 7) .nil)))) (Sms.den c mulIn) (List.zipWith (fun k x => D.tup [D.int (k : Nat), x]) (List.range ys.length) (ys.map D.int)) (mulE p xs ys (some (.int i)) (some (.int x)) d e) [.lst (row.map .int)] = .nx ρ' h' ∧
      ∃ d' e', ρ' = mulE p xs ys (some (.int i)) (some (.int x)) d' e' ∧ h' = [.lst ((mulJ p x i ys row ys.length).map .int)] := by
  obtain ⟨hp0, hp1⟩ := hp
  refine for_enum (c := c) (b := Sms.den c mulIn) (i := 6) (k := 7) D.int ys (fun j ρ h => ∃ d' e', ρ = mulE p xs ys (some (.int i)) (some (.int x)) d' e' ∧ h = [.lst ((mulJ p x i ys row j).map .int)]) ⟨d, e, rfl, rfl⟩ fun j y ρ h hy ⟨d', e', e1, e2⟩ => ?_
  subst e1 e2
  have hj : j < ys.length := (List.getElem?_eq_some_iff.mp hy).1
  have hlen := mulJ_len p x i ys row j
  refine ⟨by simp, by simp, _, _, ?_, ⟨some (.int j), some (.int y), rfl, rfl⟩⟩
  unfold mulIn
  rw [mulJ, at0_of hy]
  have q1 : (0 : Int) ≤ (i : Int) + j := by omega
  have q2 : (i : Int) + j < (mulJ p x i ys row j).length := by omega
  have q3 : -18446744073709551616 < x := by omega
  have q4 : x < 18446744073709551616 := by omega
  simp [mulE, idx_r0, q1, q2, bin_mul, q3, q4, bin_mod, hp0, set_r0]
theorem flat_rep {α : Type} (a : α) : ∀ n, (List.replicate n [a]).flatten = List.replicate n a
  | 0 => rfl
  | n + 1 => by rw [List.replicate_succ, List.flatten_cons, flat_rep a n]; rfl
theorem rep_zero {fz : Bool} {k : Int} {h : Hs} (h0 : -(LN : Int) ≤ k) (h1 : k ≤ (LN : Int)) : binD .mul fz (.lst [.int 0]) (.int k) h = newL fz ((List.replicate k.toNat (0 : Int)).map .int) h := by
  show (if -(LN : Int) ≤ k ∧ k ≤ (LN : Int) then newL fz (List.replicate k.toNat [D.int 0]).flatten h else .stuck) = _
  rw [if_pos ⟨h0, h1⟩, flat_rep, List.map_replicate]
@[simp] theorem one_fz (a : D) (h : Hs) : newL true [a] h = .ok (.lst [a]) h := new_fz (by rw [LN_eq]; simp)
theorem mul_body {p : Int} (hp : Prm p) {xs ys : List Int} (hx : Fig p xs) (h1 : 1 ≤ xs.length + ys.length) (h2 : xs.length + ys.length ≤ 1000) :
    ∃ h', mulB.den c [some (.int p), some (.lst (xs.map .int)), some (.lst (ys.map .int)), none, none, none, none, none] [] = .ret (.lst ((mulL p xs ys).map .int)) h' := by
  have ha : -(LN : Int) ≤ (xs.length : Int) + ys.length - 1 := by rw [LN_eq]; omega
  have hb : (xs.length : Int) + ys.length - 1 ≤ (LN : Int) := by rw [LN_eq]; omega
  have hn : ((xs.length : Int) + ys.length - 1).toNat = xs.length + ys.length - 1 := by omega
  have hz : xs.length + ys.length - 1 ≤ LN := by rw [LN_eq]; omega
  obtain ⟨ρ', h', e, a', b', d', e', rfl, rfl⟩ := for_enum (c := c) (b := Sms.den c mulOut) (i := 4) (k := 5) D.int xs (fun i ρ h => ∃ a b d e, ρ = mulE p xs ys a b d e ∧ h = [.lst ((mulI p xs ys i).map .int)])
    (ρ := mulE p xs ys none none none none) (h := [.lst ((mulI p xs ys 0).map .int)]) ⟨none, none, none, none, rfl, rfl⟩ (fun i x ρ h hxi ⟨a, b, d, e, e1, e2⟩ => by
      subst e1 e2
      have hi : i < xs.length := (List.getElem?_eq_some_iff.mp hxi).1
      have hlen := mulI_len p xs ys i
      obtain ⟨ρ', h', e1, d', e', rfl, rfl⟩ := mul_in (c := c) hp (xs := xs) (ys := ys) (row := mulI p xs ys i) (x := x) (i := i) (hx x (List.mem_of_getElem? hxi)) (by omega) (d := d) (e := e)
      refine ⟨by simp, by simp, mulE p xs ys (some (.int i)) (some (.int x)) d' e', [.lst ((mulJ p x i ys (mulI p xs ys i) ys.length).map .int)], ?_, ⟨some (.int i), some (.int x), d', e', rfl, by rw [mulI, at0_of hxi]⟩⟩
      unfold mulOut
      simp only [mulE] at e1
      simp [mulE]
      rw [e1]
      rfl)
  refine ⟨[.dead], ?_⟩
  unfold mulB
  simp only [mulE, mulI] at e
  simp [rep_zero, ha, hb, hn, new_cell, hz]
  simp only [List.map_replicate] at e
  rw [e]
  simp [frz_r0, pures_ints, mulL]
end Ev
set_option maxHeartbeats 1000000
/-! Ev, part U: remainders of figures. -/
namespace Ev
open PySem PySem.Spec PyProof.Rows L2
variable {c : Cfg}
/-- one reduction: what the place above the lower ones takes away -/
def redK (p : Int) (lo : List Int) (top off : Int) (row : List Int) : Nat → List Int
  | 0 => row
  | k + 1 => put (redK p lo top off row k) (off + k) ((at0 (redK p lo top off row k) (off + k) - top * at0 lo k) % p)
theorem redK_len (p : Int) (lo : List Int) (top off : Int) (row : List Int) : ∀ k, (redK p lo top off row k).length = row.length
  | 0 => rfl
  | k + 1 => by rw [redK, put_len]; exact redK_len p lo top off row k
/-- all of them, from the top -/
def redS (p : Int) (lo row : List Int) : Nat → List Int
  | 0 => row
  | t + 1 => redK p lo (at0 (redS p lo row t) ((row.length : Int) - 1 - t)) ((row.length : Int) - 1 - t - lo.length) (redS p lo row t) lo.length
theorem redS_len (p : Int) (lo row : List Int) : ∀ t, (redS p lo row t).length = row.length
  | 0 => rfl
  | t + 1 => by rw [redS, redK_len]; exact redS_len p lo row t
def remL (p : Int) (lo row : List Int) : List Int := (redS p lo row (row.length - lo.length)).take lo.length
@[simp] theorem add_ll (fz : Bool) (xs ys : List D) (h : Hs) : binD .add fz (.lst xs) (.lst ys) h = newL fz (xs ++ ys) h := rfl
@[simp] theorem listOf_l (fz : Bool) (xs : List D) (h : Hs) : primD .listOf fz [.lst xs] h = newL fz xs h := rfl
def remIn : Sms := (.cons (.asg (.idx (.var 4) (.bin .add true (.bin .sub true (.var 5) (.var 3)) (.var 7))) (.bin .mod true (.bin .sub true (.idx (.var 4) (.bin .add true (.bin .sub true (.var 5) (.var 3)) (.var 7))) (.bin .mul true (.var 6) (.var 8))) (.var 0)))
 .nil)
def remOut : Sms := (.cons (.set 6 (.idx (.var 4) (.var 5)))
 (.cons (.for (.tup (.cons (.name 7) (.cons (.name 8) .nil))) (.enum (.var 1))
 remIn)
 .nil))
def remB : Sms := (.cons (.set 3 (.prim .len true (.cons (.var 1) .nil)))
 (.cons (.set 4 (.bin .add false (.prim .listOf true (.cons (.var 2) .nil)) (.bin .mul true (.lst true (.cons (.cint 0) .nil)) (.bin .sub true (.var 3) (.prim .len true (.cons (.var 2) .nil))))))
 (.cons (.for (.name 5) (.range (.cons (.bin .sub true (.prim .len true (.cons (.var 4) .nil)) (.cint 1)) (.cons (.bin .sub true (.var 3) (.cint 1)) (.cons (.neg (.cint 1)) .nil))))
 remOut)
 (.cons (.ret (.slice true (.var 4) .nil (.cons (.var 3) .nil)))
 .nil))))
abbrev remE (p : Int) (lo fg : List Int) (a b d e : Option D) : Env := [some (.int p), some (.tup (lo.map .int)), some (.lst (fg.map .int)), some (.int lo.length), some (.ref 0), a, b, d, e]
theorem rem_in {p : Int} (hp : Prm p) {lo fg row : List Int} (hlo : Fig p lo) {top at' : Int} (h0 : 0 ≤ at' - lo.length) (h1 : at' ≤ row.length) {d e : Option D} :
    ∃ ρ' h', forD (Tg.den c (.tup (.cons (.name 7) (.cons (.name 8) .nil)))) (Sms.den c remIn) (List.zipWith (fun k x => D.tup [D.int (k : Nat), x]) (List.range lo.length) (lo.map D.int)) (remE p lo fg (some (.int at')) (some (.int top)) d e) [.lst (row.map .int)] = .nx ρ' h' ∧
      ∃ d' e', ρ' = remE p lo fg (some (.int at')) (some (.int top)) d' e' ∧ h' = [.lst ((redK p lo top (at' - lo.length) row lo.length).map .int)] := by
  obtain ⟨hp0, hp1⟩ := hp
  refine for_enum (c := c) (b := Sms.den c remIn) (i := 7) (k := 8) D.int lo (fun j ρ h => ∃ d' e', ρ = remE p lo fg (some (.int at')) (some (.int top)) d' e' ∧ h = [.lst ((redK p lo top (at' - lo.length) row j).map .int)]) ⟨d, e, rfl, rfl⟩ fun j y ρ h hy ⟨d', e', e1, e2⟩ => ?_
  subst e1 e2
  have hj : j < lo.length := (List.getElem?_eq_some_iff.mp hy).1
  have hlen := redK_len p lo top (at' - lo.length) row j
  obtain ⟨y0, y1⟩ := hlo y (List.mem_of_getElem? hy)
  refine ⟨by simp, by simp, _, _, ?_, ⟨some (.int j), some (.int y), rfl, rfl⟩⟩
  unfold remIn
  rw [redK, at0_of hy]
  have q1 : (0 : Int) ≤ at' - lo.length + j := by omega
  have q2 : at' - lo.length + j < (redK p lo top (at' - lo.length) row j).length := by omega
  have q3 : -18446744073709551616 < y := by omega
  have q4 : y < 18446744073709551616 := by omega
  simp [remE, idx_r0, q1, q2, bin_mul, q3, q4, bin_mod, hp0, set_r0]
theorem rem_body {p : Int} (hp : Prm p) {lo fg : List Int} (hlo : Fig p lo) (h1 : lo.length ≤ fg.length) (h2 : fg.length ≤ 1000) :
    ∃ h', remB.den c [some (.int p), some (.tup (lo.map .int)), some (.lst (fg.map .int)), none, none, none, none, none, none] [] = .ret (.lst ((remL p lo fg).map .int)) h' := by
  have hN := LN_eq
  obtain ⟨ρ', h', e, a, b, d, e', rfl, rfl⟩ := for_name (c := c) (b := Sms.den c remOut) (i := 5) (fun k : Nat => D.int ((fg.length : Int) - 1 - k)) (List.range (fg.length - lo.length)) (fun t ρ h => ∃ a b d e, ρ = remE p lo fg a b d e ∧ h = [.lst ((redS p lo fg t).map .int)])
    (ρ := remE p lo fg none none none none) (h := [.lst (fg.map .int)]) ⟨none, none, none, none, rfl, rfl⟩ (fun t x ρ h hx ⟨a, b, d, e, e1, e2⟩ => by
      subst e1 e2
      have ht : t < fg.length - lo.length := by simpa using (List.getElem?_eq_some_iff.mp hx).1
      rw [List.getElem?_range ht] at hx
      cases hx
      have hlen := redS_len p lo fg t
      obtain ⟨ρ', h', e1, d', e', rfl, rfl⟩ := rem_in (c := c) hp (fg := fg) hlo (row := redS p lo fg t) (top := at0 (redS p lo fg t) ((fg.length : Int) - 1 - t)) (at' := (fg.length : Int) - 1 - t) (by omega) (by omega) (d := d) (e := e)
      refine ⟨by simp, remE p lo fg (some (.int ((fg.length : Int) - 1 - t))) (some (.int (at0 (redS p lo fg t) ((fg.length : Int) - 1 - t)))) d' e', _, ?_, ⟨_, _, d', e', rfl, rfl⟩⟩
      unfold remOut
      simp only [remE] at e1
      have q1 : (0 : Int) ≤ (fg.length : Int) - 1 - t := by omega
      have q2 : (fg.length : Int) - 1 - t < (redS p lo fg t).length := by omega
      have q3 := idx_r0 (h := []) q1 q2
      simp [remE, q3]
      rw [e1]
      rfl)
  rw [List.length_range] at e
  refine ⟨[.lst ((redS p lo fg (fg.length - lo.length)).map .int)], ?_⟩
  have a1 : -(LN : Int) ≤ (lo.length : Int) - fg.length := by omega
  have a2 : (lo.length : Int) - fg.length ≤ (LN : Int) := by omega
  have a3 : ((lo.length : Int) - fg.length).toNat = 0 := by omega
  have a4 : fg.length ≤ LN := by omega
  have a5 : -(LN : Int) ≤ (fg.length : Int) - 1 ∧ (fg.length : Int) - 1 ≤ (LN : Int) ∧ -(LN : Int) ≤ (lo.length : Int) - 1 ∧ (lo.length : Int) - 1 ≤ (LN : Int) := by omega
  have a6 : ((fg.length : Int) - 1 - ((lo.length : Int) - 1)).toNat = fg.length - lo.length := by omega
  have hsl : sliceD true (.ref 0) none (some (lo.length : Int)) [.lst ((redS p lo fg (fg.length - lo.length)).map D.int)] = .ok (.lst ((remL p lo fg).map .int)) [.lst ((redS p lo fg (fg.length - lo.length)).map D.int)] := by
    show newL true (cutD ((redS p lo fg (fg.length - lo.length)).map D.int) none (some (lo.length : Int))) _ = _
    rw [cut_take, new_fz (by rw [List.length_take, List.length_map, redS_len]; omega), ← List.map_take]
    rfl
  unfold remB
  simp only [remE] at e
  simp [new_fz, new_cell, rep_zero, a1, a2, a3, a4, a5, a6]
  rw [e]
  simp [hsl]
theorem put_take (row : List Int) (k v : Int) (m : Nat) (h0 : 0 ≤ k) (h : k < m) : (put row k v).take m = put (row.take m) k v := by
  unfold put
  rw [List.take_set]
theorem at0_take (row : List Int) (k : Int) (m : Nat) (h0 : 0 ≤ k) (h : k < m) : at0 (row.take m) k = at0 row k := by
  unfold at0
  rw [List.getD_eq_getElem?_getD, List.getD_eq_getElem?_getD, List.getElem?_take, if_pos (by omega)]
theorem redK_take (p : Int) (lo : List Int) (top off : Int) (row : List Int) (m : Nat) (h0 : 0 ≤ off) : ∀ k : Nat, off + k ≤ m → (redK p lo top off row k).take m = redK p lo top off (row.take m) k
  | 0, _ => rfl
  | k + 1, h => by
    have ih := redK_take p lo top off row m h0 k (by omega)
    rw [redK, redK, put_take _ _ _ _ (by omega) (by omega), ← ih, at0_take _ _ _ (by omega) (by omega)]
theorem drop_take (row : List Int) (m : Nat) (h : m + 1 ≤ row.length) : (row.take (m + 1)).dropLast = row.take m := by
  rw [List.dropLast_eq_take, List.take_take, List.length_take, Nat.min_eq_left h]
  congr 1
  omega
theorem pop_r0 {xs : List Int} {h : Hs} (hn : 0 < xs.length) : methD .pop (.ref 0) [] (.lst (xs.map .int) :: h) = .ok (.int (at0 xs ((xs.length : Int) - 1))) (.lst (xs.dropLast.map .int) :: h) := by
  show (match (xs.map D.int)[(xs.map D.int).length - 1]? with
    | some y => R.ok y ((Cell.lst (xs.map D.int) :: h).set 0 (.lst (xs.map D.int).dropLast))
    | none => .stuck) = _
  rw [List.length_map, List.getElem?_map, List.getElem?_eq_getElem (by omega)]
  unfold at0
  rw [show ((xs.length : Int) - 1).toNat = xs.length - 1 from by omega, List.getD_eq_getElem?_getD, List.getElem?_eq_getElem (by omega), List.map_dropLast]
  rfl
def lreIn : Sms := (.cons (.asg (.idx (.var 3) (.bin .add true (.bin .sub true (.prim .len true (.cons (.var 3) .nil)) (.var 4)) (.var 7))) (.bin .mod true (.prim .intOf true (.cons (.bin .sub true (.idx (.var 3) (.bin .add true (.bin .sub true (.prim .len true (.cons (.var 3) .nil)) (.var 4)) (.var 7))) (.bin .mul true (.var 6) (.idx (.var 2) (.var 7)))) .nil)) (.var 0)))
 .nil)
def lreOut : Sms := (.cons (.ite (.cmp .gt (.prim .len true (.cons (.var 3) .nil)) (.var 4))
 (.cons (.set 6 (.meth .pop (.var 3) .nil))
 (.cons (.for (.name 7) (.range (.cons (.var 4) .nil))
 lreIn)
 .nil))
 .nil)
 .nil)
def lreB : Sms := (.cons (.set 3 (.prim .listOf false (.cons (.var 1) .nil)))
 (.cons (.set 4 (.prim .len true (.cons (.var 2) .nil)))
 (.cons (.for (.name 5) (.range (.cons (.prim .len true (.cons (.var 1) .nil)) .nil))
 lreOut)
 (.cons (.ret (.bin .add true (.var 3) (.bin .mul true (.lst true (.cons (.cint 0) .nil)) (.bin .sub true (.var 4) (.prim .len true (.cons (.var 3) .nil))))))
 .nil))))
abbrev lreE (p : Int) (lo fg : List Int) (a b d : Option D) : Env := [some (.int p), some (.lst (fg.map .int)), some (.lst (lo.map .int)), some (.ref 0), some (.int lo.length), a, b, d]
theorem lre_in {p : Int} (hp : Prm p) {lo fg row : List Int} (hlo : Fig p lo) {top : Int} (h0 : lo.length ≤ row.length) (h2 : row.length ≤ 1000) {a d : Option D} :
    ∃ ρ' h', forD (Tg.den c (.name 7)) (Sms.den c lreIn) ((List.range lo.length).map fun k => D.int (k : Nat)) (lreE p lo fg a (some (.int top)) d) [.lst (row.map .int)] = .nx ρ' h' ∧
      ∃ d', ρ' = lreE p lo fg a (some (.int top)) d' ∧ h' = [.lst ((redK p lo top ((row.length : Int) - lo.length) row lo.length).map .int)] := by
  obtain ⟨hp0, hp1⟩ := hp
  refine for_rng (c := c) (b := Sms.den c lreIn) (i := 7) lo.length (fun j ρ h => ∃ d', ρ = lreE p lo fg a (some (.int top)) d' ∧ h = [.lst ((redK p lo top ((row.length : Int) - lo.length) row j).map .int)]) ⟨d, rfl, rfl⟩ fun j ρ h hj ⟨d', e1, e2⟩ => ?_
  subst e1 e2
  have hlen := redK_len p lo top ((row.length : Int) - lo.length) row j
  obtain ⟨y0, y1⟩ := hlo lo[j] (List.getElem_mem hj)
  have ey : at0 lo j = lo[j] := at0_of (List.getElem?_eq_getElem hj)
  refine ⟨by simp, _, _, ?_, ⟨some (.int j), rfl, rfl⟩⟩
  unfold lreIn
  have q1 : (0 : Int) ≤ (row.length : Int) - lo.length + j := by omega
  have q2 : (row.length : Int) - lo.length + j < (redK p lo top ((row.length : Int) - lo.length) row j).length := by omega
  have q3 : -18446744073709551616 < at0 lo j := by omega
  have q4 : at0 lo j < 18446744073709551616 := by omega
  have q5 := idx_r0 (h := []) q1 q2
  have q6 : ∀ h, idxD (.lst (lo.map D.int)) (.int (j : Nat)) h = .ok (.int (at0 lo j)) h := fun h => idx_l (by omega) (by omega)
  have q7 := fun v => set_r0 (v := v) (h := []) q1 q2
  rw [redK]
  simp [lreE, hlen, q5, q6, bin_mul, q3, q4, bin_mod, hp0, q7]
/-- what the law's row holds behind t turns -/
def lreT (p : Int) (lo fg : List Int) (t : Nat) : List Int := (redS p lo fg (min t (fg.length - lo.length))).take (fg.length - min t (fg.length - lo.length))
theorem lreT_len (p : Int) (lo fg : List Int) (t : Nat) : (lreT p lo fg t).length = fg.length - min t (fg.length - lo.length) := by
  unfold lreT; rw [List.length_take, redS_len]; omega
@[simp] theorem add_rl (fz : Bool) (xs ys : List D) (h : Hs) : binD .add fz (.ref 0) (.lst ys) (.lst xs :: h) = newL fz (xs ++ ys) (.lst xs :: h) := rfl
theorem lreT_step (p : Int) (lo fg : List Int) {t : Nat} (ht : t < fg.length - lo.length) :
    lreT p lo fg (t + 1) = redK p lo (at0 (lreT p lo fg t) (((lreT p lo fg t).length : Int) - 1)) (((lreT p lo fg t).dropLast.length : Int) - lo.length) (lreT p lo fg t).dropLast lo.length := by
  have hl := lreT_len p lo fg t
  have hs := redS_len p lo fg t
  have m1 : min t (fg.length - lo.length) = t := by omega
  have m2 : min (t + 1) (fg.length - lo.length) = t + 1 := by omega
  rw [m1] at hl
  have e1 : lreT p lo fg t = (redS p lo fg t).take (fg.length - (t + 1) + 1) := by
    unfold lreT; rw [m1, show fg.length - (t + 1) + 1 = fg.length - t from by omega]
  have e2 : (lreT p lo fg t).dropLast = (redS p lo fg t).take (fg.length - (t + 1)) := by
    rw [e1, drop_take _ _ (by omega)]
  have e3 : at0 (lreT p lo fg t) (((lreT p lo fg t).length : Int) - 1) = at0 (redS p lo fg t) ((fg.length : Int) - 1 - t) := by
    rw [hl, e1, at0_take _ _ _ (by omega) (by omega)]
    congr 1
    omega
  have e4 : (((lreT p lo fg t).dropLast.length : Nat) : Int) = (fg.length : Int) - 1 - t := by
    rw [e2, List.length_take]; omega
  rw [e3, e4, e2]
  unfold lreT
  rw [m2, redS]
  exact redK_take p lo _ _ _ _ (by omega) _ (by omega)
theorem lre_body {p : Int} (hp : Prm p) {lo fg : List Int} (hlo : Fig p lo) (h1 : lo.length ≤ fg.length) (h2 : fg.length ≤ 1000) :
    ∃ h', lreB.den c [some (.int p), some (.lst (fg.map .int)), some (.lst (lo.map .int)), none, none, none, none, none] [] = .ret (.lst ((remL p lo fg).map .int)) h' := by
  have hN := LN_eq
  have z : lreT p lo fg 0 = fg := by
    unfold lreT
    rw [Nat.zero_min, Nat.sub_zero]
    exact List.take_of_length_le (by rw [redS_len]; exact Nat.le_refl _)
  obtain ⟨ρ', h', e, a, b, d, rfl, rfl⟩ := for_rng (c := c) (b := Sms.den c lreOut) (i := 5) fg.length (fun t ρ h => ∃ a b d, ρ = lreE p lo fg a b d ∧ h = [.lst ((lreT p lo fg t).map .int)])
    (ρ := lreE p lo fg none none none) (h := [.lst (fg.map .int)]) ⟨none, none, none, rfl, by rw [z]⟩ (fun t ρ h ht ⟨a, b, d, e1, e2⟩ => by
      subst e1 e2
      have hl := lreT_len p lo fg t
      by_cases hc : t < fg.length - lo.length
      · have st := lreT_step p lo fg hc
        have hd : (lreT p lo fg t).dropLast.length = fg.length - t - 1 := by rw [List.length_dropLast]; omega
        obtain ⟨ρ', h', e1, d', rfl, rfl⟩ := lre_in (c := c) hp (fg := fg) hlo (row := (lreT p lo fg t).dropLast) (top := at0 (lreT p lo fg t) (((lreT p lo fg t).length : Int) - 1)) (by omega) (by omega) (a := some (.int t)) (d := d)
        rw [← st] at e1
        refine ⟨by simp, lreE p lo fg (some (.int t)) (some (.int (at0 (lreT p lo fg t) (((lreT p lo fg t).length : Int) - 1)))) d', [.lst ((lreT p lo fg (t + 1)).map .int)], ?_, ⟨_, _, d', rfl, rfl⟩⟩
        unfold lreOut
        simp only [lreE, List.map_dropLast] at e1
        have q1 : lo.length < (lreT p lo fg t).length := by omega
        have q2 := pop_r0 (xs := lreT p lo fg t) (h := []) (by omega)
        have q3 : -(LN : Int) ≤ (lo.length : Int) ∧ (lo.length : Int) ≤ (LN : Int) := by omega
        simp [lreE, q1, q2, q3]
        rw [e1]
        rfl
      · have st : lreT p lo fg (t + 1) = lreT p lo fg t := by
          unfold lreT
          rw [show min (t + 1) (fg.length - lo.length) = min t (fg.length - lo.length) from by omega]
        refine ⟨by simp, lreE p lo fg (some (.int t)) b d, _, ?_, ⟨_, _, _, rfl, by rw [st]⟩⟩
        unfold lreOut
        have q1 : ¬ lo.length < (lreT p lo fg t).length := by omega
        simp [lreE, q1])
  have fin : lreT p lo fg fg.length = remL p lo fg := by
    unfold lreT remL
    rw [show min fg.length (fg.length - lo.length) = fg.length - lo.length from by omega, show fg.length - (fg.length - lo.length) = lo.length from by omega]
  rw [fin] at e
  have hr : (remL p lo fg).length = lo.length := by unfold remL; rw [List.length_take, redS_len]; omega
  refine ⟨[.lst ((remL p lo fg).map .int)], ?_⟩
  have a1 : -(LN : Int) ≤ (fg.length : Int) ∧ (fg.length : Int) ≤ (LN : Int) := by omega
  have a2 : fg.length ≤ LN := by omega
  have a3 : (remL p lo fg).length ≤ LN := by omega
  have a4 : -(LN : Int) ≤ 0 := by omega
  have a5 : (0 : Int) ≤ (LN : Int) := by omega
  unfold lreB
  simp only [lreE] at e
  simp [new_cell, a1, a2]
  rw [e]
  have a6 : lo.length ≤ LN := by omega
  simp [hr, rep_zero, a4, a5, new_fz, a6]
end Ev
set_option maxHeartbeats 1000000
/-! Ev, part Y: the law's product. -/
namespace Ev
open PySem PySem.Spec PyProof.Rows L2
variable {c : Cfg}
theorem figs_fig {p : Int} (hp : Prm p) (n : Nat) (x : Int) : Fig p (figs p n x) := fun y hy => by
  unfold figs at hy
  obtain ⟨j, _, rfl⟩ := List.mem_map.mp hy
  have := hp.pos
  exact ⟨Int.emod_nonneg _ (by omega), Int.emod_lt_of_pos _ hp.pos⟩
def ltmIn : Sms := (.cons (.asg (.idx (.var 7) (.bin .add true (.var 8) (.var 9))) (.bin .mod true (.prim .intOf true (.cons (.bin .add true (.idx (.var 7) (.bin .add true (.var 8) (.var 9))) (.bin .mul true (.idx (.var 5) (.var 8)) (.idx (.var 6) (.var 9)))) .nil)) (.var 0)))
 .nil)
def ltmOut : Sms := (.cons (.for (.name 9) (.range (.cons (.var 4) .nil))
 ltmIn)
 .nil)
def ltmB (iF iN iR : Nat) : Sms := (.cons (.set 4 (.prim .len true (.cons (.var 1) .nil)))
 (.cons (.set 5 (.call iF (.cons (.var 0) (.cons (.var 4) (.cons (.var 2) .nil)))))
 (.cons (.set 6 (.call iF (.cons (.var 0) (.cons (.var 4) (.cons (.var 3) .nil)))))
 (.cons (.set 7 (.bin .mul false (.lst true (.cons (.cint 0) .nil)) (.bin .sub true (.bin .mul true (.cint 2) (.var 4)) (.cint 1))))
 (.cons (.for (.name 8) (.range (.cons (.var 4) .nil))
 ltmOut)
 (.cons (.ret (.call iN (.cons (.var 0) (.cons (.call iR (.cons (.var 0) (.cons (.freeze (.var 7)) (.cons (.var 1) .nil)))) .nil))))
 .nil))))))
abbrev ltmE (p x y : Int) (lo xs ys : List Int) (a b : Option D) : Env := [some (.int p), some (.lst (lo.map .int)), some (.int x), some (.int y), some (.int lo.length), some (.lst (xs.map .int)), some (.lst (ys.map .int)), some (.ref 0), a, b]
theorem ltm_in {p u v : Int} (hp : Prm p) {lo xs ys row : List Int} (hx : Fig p xs) {i : Nat} (hi : i < xs.length) (hy : ys.length = lo.length) (hl : i + ys.length ≤ row.length) {b : Option D} :
    ∃ ρ' h', forD (Tg.den c (.name 9)) (Sms.den c ltmIn) ((List.range lo.length).map fun k => D.int (k : Nat)) (ltmE p u v lo xs ys (some (.int i)) b) [.lst (row.map .int)] = .nx ρ' h' ∧
      ∃ b', ρ' = ltmE p u v lo xs ys (some (.int i)) b' ∧ h' = [.lst ((mulJ p (at0 xs i) i ys row lo.length).map .int)] := by
  obtain ⟨hp0, hp1⟩ := hp
  obtain ⟨x0, x1⟩ := hx xs[i] (List.getElem_mem hi)
  have ex : at0 xs i = xs[i] := at0_of (List.getElem?_eq_getElem hi)
  refine for_rng (c := c) (b := Sms.den c ltmIn) (i := 9) lo.length (fun j ρ h => ∃ b', ρ = ltmE p u v lo xs ys (some (.int i)) b' ∧ h = [.lst ((mulJ p (at0 xs i) i ys row j).map .int)]) ⟨b, rfl, rfl⟩ fun j ρ h hj ⟨b', e1, e2⟩ => ?_
  subst e1 e2
  have hlen := mulJ_len p (at0 xs i) i ys row j
  refine ⟨by simp, _, _, ?_, ⟨some (.int j), rfl, rfl⟩⟩
  unfold ltmIn
  have q1 : (0 : Int) ≤ (i : Int) + j := by omega
  have q2 : (i : Int) + j < (mulJ p (at0 xs i) i ys row j).length := by omega
  have q3 : -18446744073709551616 < at0 xs i := by omega
  have q4 : at0 xs i < 18446744073709551616 := by omega
  have q5 := idx_r0 (h := []) q1 q2
  have q6 : ∀ h, idxD (.lst (xs.map D.int)) (.int (i : Nat)) h = .ok (.int (at0 xs (i : Nat))) h := fun h => idx_l (by omega) (by omega)
  have q8 : ∀ h, idxD (.lst (ys.map D.int)) (.int (j : Nat)) h = .ok (.int (at0 ys (j : Nat))) h := fun h => idx_l (by omega) (by omega)
  have q7 := fun v => set_r0 (v := v) (h := []) q1 q2
  rw [mulJ]
  simp [ltmE, q5, q6, q8, bin_mul, q3, q4, bin_mod, hp0, q7]
theorem ltm_body {p : Int} (hp : Prm p) {lo : List Int} (hd : 1 ≤ lo.length) (hd2 : lo.length ≤ 400) (a b : Int) {iF iN iR : Nat}
    (gF : ∀ x h, c.Γ iF [.int p, .int lo.length, .int x] h = .ok (.lst ((figs p lo.length x).map .int)) h)
    (gR : ∀ fg : List Int, lo.length ≤ fg.length → fg.length ≤ 1000 → ∀ h, c.Γ iR [.int p, .lst (fg.map .int), .lst (lo.map .int)] h = .ok (.lst ((remL p lo fg).map .int)) h)
    (gN : ∀ xs : List Int, xs.length ≤ 1000 → ∀ h, c.Γ iN [.int p, .lst (xs.map .int)] h = .ok (.int (numb p xs)) h) :
    ∃ h', (ltmB iF iN iR).den c [some (.int p), some (.lst (lo.map .int)), some (.int a), some (.int b), none, none, none, none, none, none] [] = .ret (.int (numb p (remL p lo (mulL p (figs p lo.length a) (figs p lo.length b))))) h' := by
  have hN := LN_eq
  generalize hxs : figs p lo.length a = xs at *
  generalize hys : figs p lo.length b = ys at *
  have lx : xs.length = lo.length := by rw [← hxs, figs_len]
  have ly : ys.length = lo.length := by rw [← hys, figs_len]
  have fx : Fig p xs := by rw [← hxs]; exact figs_fig hp _ _
  obtain ⟨ρ', h', e, u, v, rfl, rfl⟩ := for_rng (c := c) (b := Sms.den c ltmOut) (i := 8) lo.length (fun i ρ h => ∃ u v, ρ = ltmE p a b lo xs ys u v ∧ h = [.lst ((mulI p xs ys i).map .int)])
    (ρ := ltmE p a b lo xs ys none none) (h := [.lst ((mulI p xs ys 0).map .int)]) ⟨none, none, rfl, rfl⟩ (fun i ρ h hi ⟨u, v, e1, e2⟩ => by
      subst e1 e2
      have hlen := mulI_len p xs ys i
      obtain ⟨ρ', h', e1, b', rfl, rfl⟩ := ltm_in (c := c) hp (u := a) (v := b) (lo := lo) (xs := xs) (ys := ys) (row := mulI p xs ys i) fx (i := i) (by omega) ly (by omega) (b := v)
      refine ⟨by simp, ltmE p a b lo xs ys (some (.int i)) b', [.lst ((mulJ p (at0 xs i) i ys (mulI p xs ys i) lo.length).map .int)], ?_, ⟨some (.int i), b', rfl, by rw [mulI, ly]⟩⟩
      unfold ltmOut
      simp only [ltmE] at e1
      have q3 : -(LN : Int) ≤ (lo.length : Int) ∧ (lo.length : Int) ≤ (LN : Int) := by omega
      simp [ltmE, q3]
      rw [e1]
      rfl)
  rw [← lx] at e
  have hml : (mulL p xs ys).length = xs.length + ys.length - 1 := mulI_len p xs ys xs.length
  have a1 : -(LN : Int) ≤ 2 * (lo.length : Int) - 1 := by omega
  have a2 : 2 * (lo.length : Int) - 1 ≤ (LN : Int) := by omega
  have a3 : (2 * (lo.length : Int) - 1).toNat = xs.length + ys.length - 1 := by omega
  have a4 : xs.length + ys.length - 1 ≤ LN := by omega
  have a5 : -(LN : Int) ≤ (lo.length : Int) ∧ (lo.length : Int) ≤ (LN : Int) := by omega
  have g1 := gR (mulL p xs ys) (by omega) (by omega)
  have g2 := gN (remL p lo (mulL p xs ys)) (by unfold remL; rw [List.length_take]; omega)
  refine ⟨[.dead], ?_⟩
  unfold ltmB
  have e' : forD (Tg.den c (.name 8)) (Sms.den c ltmOut) ((List.range lo.length).map fun k => D.int (k : Nat)) (ltmE p a b lo xs ys none none) [.lst ((List.replicate (xs.length + ys.length - 1) (0 : Int)).map .int)] = .nx (ltmE p a b lo xs ys u v) [.lst ((mulL p xs ys).map .int)] := by
    rw [← lx]; exact e
  simp only [ltmE, List.map_replicate] at e'
  simp [gF, hxs, hys, bin_mul, rep_zero, a1, a2, a3, new_cell, a4, a5]
  rw [e']
  simp [frz_r0, pures_ints, g1, g2]
end Ev
set_option maxHeartbeats 1000000
/-! Ev, part Z: products commute. -/
namespace Ev
/-- a sum over 0 .. n - 1 -/
def sm (f : Nat → Int) : Nat → Int
  | 0 => 0
  | n + 1 => sm f n + f n
theorem sm_congr {f g : Nat → Int} : ∀ {n : Nat}, (∀ i, i < n → f i = g i) → sm f n = sm g n
  | 0, _ => rfl
  | n + 1, h => by rw [sm, sm, sm_congr (n := n) fun i hi => h i (by omega), h n (by omega)]
theorem sm_add (f g : Nat → Int) : ∀ n, sm (fun i => f i + g i) n = sm f n + sm g n
  | 0 => rfl
  | n + 1 => by rw [sm, sm, sm, sm_add f g n]; omega
theorem sm_zero : ∀ n, sm (fun _ => 0) n = 0
  | 0 => rfl
  | n + 1 => by rw [sm, sm_zero n]; rfl
theorem sm_swap (f : Nat → Nat → Int) (m : Nat) : ∀ n, sm (fun i => sm (f i) m) n = sm (fun j => sm (fun i => f i j) n) m
  | 0 => (sm_zero m).symm
  | n + 1 => by
    rw [sm, sm_swap f m n]
    show _ = sm (fun j => sm (fun i => f i j) n + f n j) m
    rw [sm_add]
theorem at0_put (row : List Int) (k t : Nat) (v : Int) (hk : k < row.length) : at0 (put row (k : Int) v) (t : Int) = if t = k then v else at0 row (t : Int) := by
  unfold at0 put
  rw [Int.toNat_natCast, Int.toNat_natCast, List.getD_eq_getElem?_getD, List.getD_eq_getElem?_getD]
  by_cases h : t = k
  · subst h
    rw [if_pos rfl, List.getElem?_set_self hk]; rfl
  · rw [if_neg h, List.getElem?_set_ne (Ne.symm h)]
def tm (x : Int) (ys : List Int) (i t j : Nat) : Int := if i + j = t then x * at0 ys (j : Int) else 0
theorem mulJ_at {p : Int} (hp : Prm p) (x : Int) (i : Nat) (ys row : List Int) (S : Nat → Int) (hS : ∀ t : Nat, at0 row (t : Int) = S t % p) : ∀ j, i + j ≤ row.length → ∀ t : Nat, at0 (mulJ p x i ys row j) (t : Int) = (S t + sm (tm x ys i t) j) % p
  | 0, _, t => by rw [mulJ, sm, Int.add_zero]; exact hS t
  | j + 1, hj, t => by
    have ih := mulJ_at hp x i ys row S hS j (by omega)
    rw [mulJ, show (i : Int) + (j : Int) = ((i + j : Nat) : Int) from by omega, at0_put _ _ _ _ (by rw [mulJ_len]; omega), ih (i + j), ih t, sm]
    by_cases h : t = i + j
    · subst h
      rw [if_pos rfl, show tm x ys i (i + j) j = x * at0 ys (j : Int) from if_pos rfl, Int.emod_add_emod, Int.add_assoc]
    · rw [if_neg h, show tm x ys i t j = 0 from if_neg (fun e => h e.symm), Int.add_zero]
def cf (xs ys : List Int) (t i j : Nat) : Int := if i + j = t then at0 xs (i : Int) * at0 ys (j : Int) else 0
theorem mulI_at {p : Int} (hp : Prm p) (xs ys : List Int) : ∀ i, i ≤ xs.length → ∀ t : Nat, at0 (mulI p xs ys i) (t : Int) = sm (fun i => sm (cf xs ys t i) ys.length) i % p
  | 0, _, t => by
    rw [mulI, sm]
    unfold at0
    rw [List.getD_eq_getElem?_getD, List.getElem?_replicate]
    split <;> simp
  | i + 1, hi, t => by
    have ih := mulI_at hp xs ys i (by omega)
    rw [mulI, mulJ_at hp _ i ys _ _ ih ys.length (by rw [mulI_len]; omega) t, sm]
    rfl
theorem ext_at {xs ys : List Int} (hl : xs.length = ys.length) (h : ∀ t : Nat, t < xs.length → at0 xs (t : Int) = at0 ys (t : Int)) : xs = ys := by
  apply List.ext_getElem hl
  intro i h1 h2
  have := h i h1
  unfold at0 at this
  rw [Int.toNat_natCast, List.getD_eq_getElem?_getD, List.getD_eq_getElem?_getD, List.getElem?_eq_getElem h1, List.getElem?_eq_getElem h2] at this
  exact this
theorem mulL_comm {p : Int} (hp : Prm p) (xs ys : List Int) : mulL p xs ys = mulL p ys xs := by
  refine ext_at (by unfold mulL; rw [mulI_len, mulI_len, Nat.add_comm]) fun t _ => ?_
  unfold mulL
  rw [mulI_at hp xs ys _ (Nat.le_refl _) t, mulI_at hp ys xs _ (Nat.le_refl _) t, sm_swap]
  congr 1
  refine sm_congr fun j _ => sm_congr fun i _ => ?_
  unfold cf
  rw [Nat.add_comm i j, Int.mul_comm]
end Ev
set_option maxHeartbeats 1000000
/-! Ev, part AA: sums figure by figure. -/
namespace Ev
open PySem PySem.Spec PyProof.Rows L2
variable {c : Cfg}
theorem sm_shift (f : Nat → Int) : ∀ n, sm f (n + 1) = f 0 + sm (fun i => f (i + 1)) n
  | 0 => by simp [sm]
  | n + 1 => by rw [sm, sm_shift f n, sm]; omega
theorem sm_mul (f : Nat → Int) (k : Int) : ∀ n, sm f n * k = sm (fun i => f i * k) n
  | 0 => by simp [sm]
  | n + 1 => by rw [sm, sm, Int.add_mul, sm_mul f k n]
theorem numb_sm (p : Int) : ∀ (n : Nat) (g : Nat → Int), numb p ((List.range n).map g) = sm (fun j => g j * p ^ j) n
  | 0, g => rfl
  | n + 1, g => by
    rw [List.range_succ_eq_map, List.map_cons, List.map_map, sm_shift, numb]
    show numb p ((List.range n).map (g ∘ Nat.succ)) * p + g 0 = _
    rw [numb_sm p n (g ∘ Nat.succ), sm_mul]
    rw [Int.pow_zero, Int.mul_one, Int.add_comm]
    congr 1
    refine sm_congr fun j _ => ?_
    show g (j + 1) * p ^ j * p = g (j + 1) * p ^ (j + 1)
    rw [Int.pow_succ, Int.mul_assoc]
def dg (f : Int → Int → Int) (p a b : Int) (j : Nat) : Int := f (a / p ^ j) (b / p ^ j) % p
def sumIn (o : BOp) : Sms := (.cons (.aug 3 .add (.bin .mul true (.bin .mod true (.bin o true (.var 1) (.var 2)) (.var 0)) (.var 4)))
 (.cons (.par [1, 2, 4] (.cons (.bin .fdiv true (.var 1) (.var 0)) (.cons (.bin .fdiv true (.var 2) (.var 0)) (.cons (.bin .mul true (.var 4) (.var 0)) .nil))))
 .nil))
def sumT : Ex := (.or (.cmp .gt (.var 1) (.cint 0)) (.cmp .gt (.var 2) (.cint 0)))
def sumB (o : BOp) : Sms := (.cons (.set 3 (.cint 0))
 (.cons (.set 4 (.cint 1))
 (.cons (.while sumT
 (sumIn o))
 (.cons (.ret (.var 3))
 .nil))))
abbrev sumE (f : Int → Int → Int) (p a b : Int) (i : Nat) : Env := [some (.int p), some (.int (a / p ^ i)), some (.int (b / p ^ i)), some (.int (sm (fun j => dg f p a b j * p ^ j) i)), some (.int (p ^ i))]
theorem div_zero_of {p a : Int} (hp : 0 < p) {n : Nat} (h0 : 0 ≤ a) (h : a < p ^ n) : a / p ^ n = 0 := Int.ediv_eq_zero_of_lt h0 h
theorem div_zero_ge {p a : Int} (hp : 0 < p) {i j : Nat} (h : a / p ^ i = 0) (hij : i ≤ j) : a / p ^ j = 0 := by
  induction hij with
  | refl => exact h
  | step _ ih => rw [← div_pow hp, ih, Int.zero_ediv]
theorem sum_body {o : BOp} {f : Int → Int → Int} (hb : ∀ x y fz h, binD o fz (.int x) (.int y) h = .ok (.int (f x y)) h) (f0 : f 0 0 = 0) {p : Int} (hp : Prm p) {n : Nat} {a b : Int} (ha : 0 ≤ a ∧ a < p ^ n) (hb' : 0 ≤ b ∧ b < p ^ n) (hF : n < c.F) :
    ∃ h', (sumB o).den c [some (.int p), some (.int a), some (.int b), none, none] [] = .ret (.int (numb p ((List.range n).map (dg f p a b)))) h' := by
  obtain ⟨hp0, hp1⟩ := hp
  have za := div_zero_of hp0 ha.1 ha.2
  have zb := div_zero_of hp0 hb'.1 hb'.2
  have na : ∀ i : Nat, 0 ≤ a / p ^ i := fun i => Int.ediv_nonneg ha.1 (Int.le_of_lt (Int.pow_pos hp0))
  have nb : ∀ i : Nat, 0 ≤ b / p ^ i := fun i => Int.ediv_nonneg hb'.1 (Int.le_of_lt (Int.pow_pos hp0))
  obtain ⟨ρ', h', e, i, hi, rfl, rfl, hm⟩ := whileD_rel (c := sumT.tst c) (b := (sumIn o).den c) (fun m ρ h => ∃ i, i ≤ n ∧ ρ = sumE f p a b i ∧ h = [] ∧ m = (if 0 < a / p ^ i ∨ 0 < b / p ^ i then n - i else 0)) c.F (if 0 < a / p ^ 0 ∨ 0 < b / p ^ 0 then n - 0 else 0) (sumE f p a b 0) [] (by split <;> omega) ⟨0, Nat.zero_le _, rfl, rfl, rfl⟩
    (fun m ρ h ⟨i, hi, e1, e2, em⟩ => by
      subst e1 e2 em
      by_cases q : 0 < a / p ^ i ∨ 0 < b / p ^ i
      · have hlt : i < n := by
          rcases Nat.lt_or_ge i n with h | h
          · exact h
          · have : i = n := by omega
            subst this
            rw [za, zb] at q
            omega
        refine .inr ⟨[], sumE f p a b (i + 1), [], _, ?_, .inl ?_, ?_, ⟨i + 1, hlt, rfl, rfl, rfl⟩⟩
        · unfold sumT
          by_cases q1 : 0 < a / p ^ i
          · simp [Ex.tst, sumE, q1]
          · have q2 := q.resolve_left q1
            simp [Ex.tst, sumE, q1, q2]
        · unfold sumIn
          have r0 := Int.emod_nonneg (f (a / p ^ i) (b / p ^ i)) (show p ≠ 0 by omega)
          have r1 := Int.emod_lt_of_pos (f (a / p ^ i) (b / p ^ i)) hp0
          have s1 : -18446744073709551616 < f (a / p ^ i) (b / p ^ i) % p := by omega
          have s2 : f (a / p ^ i) (b / p ^ i) % p < 18446744073709551616 := by omega
          have s3 : -18446744073709551616 < p := by omega
          have s4 : p < 18446744073709551616 := by omega
          have s5 : p < 1073741824 := by omega
          simp [sumE, hb, bin_mod, hp0, bin_mul, s1, s2, s3, s4, bin_fdiv, s5, div_pow hp0, ← Int.pow_succ, sm, dg]
        · rw [if_pos q]; split <;> omega
      · refine .inl ⟨[], ?_, rfl, if_neg q⟩
        have q1 : ¬ 0 < a / p ^ i := fun z => q (.inl z)
        have q2 : ¬ 0 < b / p ^ i := fun z => q (.inr z)
        unfold sumT
        simp [Ex.tst, sumE, q1, q2])
  have z : a / p ^ i = 0 ∧ b / p ^ i = 0 := by
    have h1 := na i
    have h2 := nb i
    by_cases q : 0 < a / p ^ i ∨ 0 < b / p ^ i
    · rw [if_pos q] at hm
      have : i = n := by omega
      subst this
      exact ⟨za, zb⟩
    · omega
  have tail : ∀ k, sm (fun j => dg f p a b j * p ^ j) (i + k) = sm (fun j => dg f p a b j * p ^ j) i := fun k => by
    induction k with
    | zero => rfl
    | succ k ih =>
      rw [show i + (k + 1) = (i + k) + 1 from rfl, sm, ih]
      unfold dg
      rw [div_zero_ge hp0 z.1 (by omega), div_zero_ge hp0 z.2 (by omega), f0]
      simp
  have fin : sm (fun j => dg f p a b j * p ^ j) i = numb p ((List.range n).map (dg f p a b)) := by
    rw [numb_sm, ← tail (n - i), show i + (n - i) = n from by omega]
  refine ⟨[], ?_⟩
  unfold sumB
  simp only [sumE, Int.pow_zero, Int.ediv_one, sm, fin] at e
  simp
  rw [e]
  simp
end Ev
set_option maxHeartbeats 1000000
/-! Ev, part AB: numbers and their figures. -/
namespace Ev
open PySem PySem.Spec PyProof.Rows L2
theorem numb_pos {p : Int} (hp : 0 < p) : ∀ {xs : List Int}, Fig p xs → 0 ≤ numb p xs ∧ numb p xs < p ^ xs.length
  | [], _ => ⟨Int.le_refl _, by show (0 : Int) < p ^ 0; rw [Int.pow_zero]; decide⟩
  | x :: xs, h => by
    obtain ⟨a, b⟩ := numb_pos hp (xs := xs) fun y hy => h y (List.mem_cons_of_mem _ hy)
    obtain ⟨c, d⟩ := h x List.mem_cons_self
    refine ⟨Int.add_nonneg (Int.mul_nonneg a (Int.le_of_lt hp)) c, ?_⟩
    show numb p xs * p + x < p ^ (xs.length + 1)
    rw [Int.pow_succ]
    have h2 : (numb p xs + 1) * p ≤ p ^ xs.length * p := Int.mul_le_mul_of_nonneg_right (by omega) (Int.le_of_lt hp)
    rw [Int.add_mul, Int.one_mul] at h2
    omega
theorem numb_dig {p : Int} (hp : 0 < p) : ∀ {xs : List Int}, Fig p xs → ∀ j, j < xs.length → numb p xs / p ^ j % p = at0 xs (j : Int)
  | [], _, j, hj => absurd hj (Nat.not_lt_zero j)
  | x :: xs, h, 0, _ => by
    obtain ⟨c, d⟩ := h x List.mem_cons_self
    show (numb p xs * p + x) / p ^ 0 % p = x
    rw [Int.pow_zero, Int.ediv_one, Int.add_comm, Int.add_mul_emod_self_right]
    exact Int.emod_eq_of_lt c d
  | x :: xs, h, j + 1, hj => by
    obtain ⟨c, d⟩ := h x List.mem_cons_self
    have ih := numb_dig hp (xs := xs) (fun y hy => h y (List.mem_cons_of_mem _ hy)) j (by simpa using hj)
    have e : (numb p xs * p + x) / p ^ (j + 1) = numb p xs / p ^ j := by
      rw [Int.pow_succ, Int.mul_comm (p ^ j) p, ← Int.ediv_ediv_of_nonneg (Int.le_of_lt hp), Int.add_comm, Int.add_mul_ediv_right _ _ (by omega), Int.ediv_eq_zero_of_lt c d, Int.zero_add]
    show (numb p xs * p + x) / p ^ (j + 1) % p = _
    rw [e, ih]
    unfold at0
    rw [Int.toNat_natCast, Int.toNat_natCast]
    rfl
theorem numb_figs {p : Int} (hp : Prm p) : ∀ (k : Nat) (a : Int), 0 ≤ a → a < p ^ k → numb p (figs p k a) = a
  | 0, a, h0, h1 => by
    rw [Int.pow_zero] at h1
    show (0 : Int) = a
    omega
  | k + 1, a, h0, h1 => by
    have ih := numb_figs hp k (a / p) (Int.ediv_nonneg h0 (Int.le_of_lt hp.pos)) (by
      rw [Int.pow_succ] at h1
      exact Int.ediv_lt_of_lt_mul hp.pos h1)
    have e : figs p (k + 1) a = a % p :: figs p k (a / p) := by
      unfold figs
      rw [List.range_succ_eq_map, List.map_cons, List.map_map, Int.pow_zero, Int.ediv_one]
      congr 1
      refine List.map_congr_left fun j _ => ?_
      show a / p ^ (j + 1) % p = a / p / p ^ j % p
      rw [Int.pow_succ, Int.mul_comm (p ^ j) p, Int.ediv_ediv_of_nonneg (Int.le_of_lt hp.pos)]
    rw [e]
    show numb p (figs p k (a / p)) * p + a % p = a
    rw [ih, Int.mul_comm]
    exact Int.mul_ediv_add_emod a p
theorem dg_fig {p : Int} (hp : Prm p) (f : Int → Int → Int) (a b : Int) (k : Nat) : Fig p ((List.range k).map (dg f p a b)) := fun y hy => by
  obtain ⟨j, _, rfl⟩ := List.mem_map.mp hy
  have := hp.pos
  exact ⟨Int.emod_nonneg _ (by omega), Int.emod_lt_of_pos _ hp.pos⟩
/-- taken off, put on again -/
theorem less_plus {p : Int} (hp : Prm p) {k : Nat} {a b : Int} (h0 : 0 ≤ a) (h1 : a < p ^ k) : numb p ((List.range k).map (dg (· + ·) p (numb p ((List.range k).map (dg (· - ·) p a b))) b)) = a := by
  have hf := dg_fig hp (· - ·) a b k
  rw [show (List.range k).map (dg (· + ·) p (numb p ((List.range k).map (dg (· - ·) p a b))) b) = figs p k a from ?_]
  · exact numb_figs hp k a h0 h1
  · unfold figs
    refine List.map_congr_left fun j hj => ?_
    have hj' : j < k := List.mem_range.mp hj
    have d := numb_dig hp.pos hf j (by rw [List.length_map, List.length_range]; exact hj')
    have e : at0 ((List.range k).map (dg (· - ·) p a b)) (j : Int) = dg (· - ·) p a b j := at0_of (by rw [List.getElem?_map, List.getElem?_range hj']; rfl)
    rw [e] at d
    show (numb p ((List.range k).map (dg (· - ·) p a b)) / p ^ j + b / p ^ j) % p = a / p ^ j % p
    rw [Int.add_emod, d]
    unfold dg
    show ((a / p ^ j - b / p ^ j) % p + b / p ^ j % p) % p = _
    rw [← Int.add_emod, Int.sub_add_cancel]
end Ev
set_option maxHeartbeats 1000000
/-! Ev, part AC: figures modulo a polynomial are a ring. -/
namespace Ev
/-! ### sums -/
theorem sm_neg (f : Nat → Int) : ∀ n, sm (fun i => -f i) n = -sm f n
  | 0 => rfl
  | n + 1 => by rw [sm, sm, sm_neg f n]; omega
theorem sm_sub (f g : Nat → Int) (n : Nat) : sm (fun i => f i - g i) n = sm f n - sm g n := by
  rw [show (fun i => f i - g i) = fun i => f i + (fun i => -g i) i from funext fun i => Int.sub_eq_add_neg, sm_add, sm_neg, Int.sub_eq_add_neg]
theorem mul_sm (k : Int) (f : Nat → Int) (n : Nat) : k * sm f n = sm (fun i => k * f i) n := by
  rw [Int.mul_comm, sm_mul]
  exact sm_congr fun i _ => Int.mul_comm _ _
theorem sm_split (f : Nat → Int) (a : Nat) : ∀ b, sm f (a + b) = sm f a + sm (fun j => f (a + j)) b
  | 0 => by rw [sm]; show sm f a = _; omega
  | b + 1 => by rw [← Nat.add_assoc, sm, sm_split f a b, sm]; omega
/-- one summand alone -/
theorem sm_one (f : Nat → Int) (i : Nat) : ∀ n, sm (fun j => if i = j then f j else 0) n = if i < n then f i else 0
  | 0 => by rw [sm, if_neg (Nat.not_lt_zero i)]
  | n + 1 => by
    rw [sm, sm_one f i n]
    by_cases h : i = n
    · subst h; rw [if_neg (Nat.lt_irrefl i), if_pos rfl, if_pos (Nat.lt_succ_self i), Int.zero_add]
    · rw [if_neg h, Int.add_zero]
      by_cases h2 : i < n
      · rw [if_pos h2, if_pos (by omega)]
      · rw [if_neg h2, if_neg (by omega)]
/-! ### congruences -/
def Cg (p a b : Int) : Prop := p ∣ a - b
theorem Cg.rfl {p a : Int} : Cg p a a := by unfold Cg; rw [Int.sub_self]; exact Int.dvd_zero p
theorem Cg.of {p a b : Int} (h : a = b) : Cg p a b := h ▸ Cg.rfl
theorem Cg.symm {p a b : Int} (h : Cg p a b) : Cg p b a := by
  unfold Cg at *
  rw [show b - a = -(a - b) from by omega]
  exact Int.dvd_neg.mpr h
theorem Cg.trans {p a b c : Int} (h : Cg p a b) (g : Cg p b c) : Cg p a c := by
  unfold Cg at *
  rw [show a - c = (a - b) + (b - c) from by omega]
  exact Int.dvd_add h g
theorem Cg.add {p a b c d : Int} (h : Cg p a b) (g : Cg p c d) : Cg p (a + c) (b + d) := by
  unfold Cg at *
  rw [show a + c - (b + d) = (a - b) + (c - d) from by omega]
  exact Int.dvd_add h g
theorem Cg.neg {p a b : Int} (h : Cg p a b) : Cg p (-a) (-b) := by
  unfold Cg at *
  rw [show -a - -b = -(a - b) from by omega]
  exact Int.dvd_neg.mpr h
theorem Cg.sub {p a b c d : Int} (h : Cg p a b) (g : Cg p c d) : Cg p (a - c) (b - d) := by
  rw [Int.sub_eq_add_neg, Int.sub_eq_add_neg]; exact h.add g.neg
theorem Cg.mul {p a b c d : Int} (h : Cg p a b) (g : Cg p c d) : Cg p (a * c) (b * d) := by
  unfold Cg at *
  rw [show a * c - b * d = a * (c - d) + (a - b) * d from by rw [Int.mul_sub, Int.sub_mul]; omega]
  exact Int.dvd_add (Int.dvd_trans g (Int.dvd_mul_left _ _)) (Int.dvd_trans h (Int.dvd_mul_right _ _))
theorem Cg.mod (p a : Int) : Cg p (a % p) a := by
  unfold Cg
  rw [show a % p - a = p * -(a / p) from by rw [Int.mul_neg]; have := Int.mul_ediv_add_emod a p; omega]
  exact Int.dvd_mul_right _ _
theorem Cg.sm {p : Int} {f g : Nat → Int} : ∀ {n : Nat}, (∀ i, i < n → Cg p (f i) (g i)) → Cg p (Ev.sm f n) (Ev.sm g n)
  | 0, _ => .rfl
  | n + 1, h => (Cg.sm (n := n) fun i hi => h i (by omega)).add (h n (by omega))
theorem Cg.emod {p a b : Int} (h : Cg p a b) : a % p = b % p := by
  unfold Cg at h
  exact (Int.emod_eq_emod_iff_emod_sub_eq_zero).mpr (Int.emod_eq_zero_of_dvd h)
theorem Cg.eq {p a b : Int} (h : Cg p a b) (a0 : 0 ≤ a) (a1 : a < p) (b0 : 0 ≤ b) (b1 : b < p) : a = b := by
  have := h.emod
  rwa [Int.emod_eq_of_lt a0 a1, Int.emod_eq_of_lt b0 b1] at this
/-! ### the powers of X, over whole numbers -/
def XE (lo : List Int) : Nat → Nat → Int
  | 0, i => if 0 = i then 1 else 0
  | t + 1, i => (if i = 0 then 0 else XE lo t (i - 1)) - XE lo t (lo.length - 1) * at0 lo (i : Nat)
theorem XE_low {lo : List Int} : ∀ {t i : Nat}, t < lo.length → i < lo.length → XE lo t i = if t = i then 1 else 0
  | 0, i, _, _ => rfl
  | t + 1, i, ht, hi => by
    rw [XE, XE_low (t := t) (i := lo.length - 1) (by omega) (by omega), if_neg (show ¬t = lo.length - 1 by omega), Int.zero_mul, Int.sub_zero]
    by_cases h : i = 0
    · rw [if_pos h, if_neg (by omega)]
    · rw [if_neg h, XE_low (t := t) (i := i - 1) (by omega) (by omega)]
      by_cases h2 : t = i - 1
      · rw [if_pos h2, if_pos (by omega)]
      · rw [if_neg h2, if_neg (by omega)]
theorem XE_rec {lo : List Int} : ∀ {t i : Nat}, i < lo.length → XE lo (t + lo.length) i = -sm (fun j => at0 lo (j : Nat) * XE lo (t + j) i) lo.length
  | 0, i, hi => by
    obtain ⟨k, hk⟩ : ∃ k, lo.length = k + 1 := ⟨lo.length - 1, by omega⟩
    have e : sm (fun j => at0 lo (j : Nat) * XE lo (0 + j) i) lo.length = at0 lo (i : Nat) := by
      rw [sm_congr (g := fun j => if i = j then at0 lo (j : Nat) else 0) fun j hj => ?_, sm_one, if_pos hi]
      rw [Nat.zero_add, XE_low hj hi]
      by_cases h : i = j
      · rw [if_pos h, if_pos h.symm, Int.mul_one]
      · rw [if_neg h, if_neg (Ne.symm h), Int.mul_zero]
    rw [e, Nat.zero_add, hk, XE, show lo.length - 1 = k from by omega, XE_low (t := k) (i := k) (by omega) (by omega), if_pos rfl, Int.one_mul]
    by_cases h : i = 0
    · rw [if_pos h]; omega
    · rw [if_neg h, XE_low (by omega) (by omega), if_neg (by omega)]; omega
  | t + 1, i, hi => by
    rw [show t + 1 + lo.length = (t + lo.length) + 1 from by omega, XE, XE_rec (t := t) (i := lo.length - 1) (by omega)]
    have e : sm (fun j => at0 lo (j : Nat) * XE lo (t + 1 + j) i) lo.length = sm (fun j => at0 lo (j : Nat) * (if i = 0 then 0 else XE lo (t + j) (i - 1))) lo.length - sm (fun j => at0 lo (j : Nat) * XE lo (t + j) (lo.length - 1)) lo.length * at0 lo (i : Nat) := by
      rw [sm_mul, ← sm_sub]
      refine sm_congr fun j _ => ?_
      rw [show t + 1 + j = (t + j) + 1 from by omega, XE, Int.mul_sub, Int.mul_assoc]
    rw [e, Int.neg_mul]
    by_cases h : i = 0
    · simp only [if_pos h, Int.mul_zero]
      rw [sm_zero]; omega
    · simp only [if_neg h]
      rw [XE_rec (t := t) (i := i - 1) (by omega)]; omega
theorem XE_comp {lo : List Int} (h1 : 1 ≤ lo.length) : ∀ {s d i : Nat}, i < lo.length → sm (fun c => XE lo s c * XE lo (c + d) i) lo.length = XE lo (s + d) i
  | 0, d, i, hi => by
    rw [sm_congr (g := fun c => if 0 = c then XE lo (c + d) i else 0) fun c _ => ?_, sm_one, if_pos (by omega)]
    show (if 0 = c then (1 : Int) else 0) * _ = _
    by_cases h : 0 = c
    · rw [if_pos h, if_pos h, Int.one_mul]
    · rw [if_neg h, if_neg h, Int.zero_mul]
  | s + 1, d, i, hi => by
    obtain ⟨k, hk⟩ : ∃ k, lo.length = k + 1 := ⟨lo.length - 1, by omega⟩
    have e : sm (fun c => XE lo (s + 1) c * XE lo (c + d) i) lo.length = sm (fun c => (if c = 0 then 0 else XE lo s (c - 1)) * XE lo (c + d) i) lo.length - XE lo s (lo.length - 1) * sm (fun c => at0 lo (c : Nat) * XE lo (d + c) i) lo.length := by
      rw [mul_sm, ← sm_sub]
      refine sm_congr fun c _ => ?_
      rw [XE, Int.sub_mul, Int.mul_assoc, Nat.add_comm c d]
    have r := XE_rec (lo := lo) (t := d) hi
    have e2 : XE lo s (lo.length - 1) * sm (fun c => at0 lo (c : Nat) * XE lo (d + c) i) lo.length = -(XE lo s k * XE lo (k + (d + 1)) i) := by
      rw [show k + (d + 1) = d + lo.length from by omega, r, Int.mul_neg, Int.neg_neg, show lo.length - 1 = k from by omega]
    have ih := XE_comp h1 (s := s) (d := d + 1) hi
    rw [hk, sm] at ih
    rw [e, e2, show s + 1 + d = s + (d + 1) from by omega, ← ih, hk, sm_shift]
    have e3 : sm (fun c => (if c + 1 = 0 then 0 else XE lo s (c + 1 - 1)) * XE lo (c + 1 + d) i) k = sm (fun c => XE lo s c * XE lo (c + (d + 1)) i) k := by
      refine sm_congr fun c _ => ?_
      rw [if_neg (by omega), show c + 1 - 1 = c from rfl, show c + 1 + d = c + (d + 1) from by omega]
    rw [e3]
    show (0 : Int) * _ + _ - _ = _
    omega
/-! ### reductions keep the value -/
/-- the value of a row, at place i -/
def hv (lo row : List Int) (n i : Nat) : Int := sm (fun t => at0 row (t : Nat) * XE lo t i) n
theorem redK_at {p : Int} (lo : List Int) (top : Int) (off : Nat) (row : List Int) : ∀ k, off + k ≤ row.length → ∀ u : Nat, at0 (redK p lo top off row k) (u : Nat) = if off ≤ u ∧ u < off + k then (at0 row (u : Nat) - top * at0 lo ((u - off : Nat) : Int)) % p else at0 row (u : Nat)
  | 0, _, u => by rw [redK, if_neg (by omega)]
  | k + 1, hk, u => by
    have ih := redK_at (p := p) lo top off row k (by omega)
    rw [redK, show (off : Int) + (k : Int) = ((off + k : Nat) : Int) from by omega, at0_put _ _ _ _ (by rw [redK_len]; omega), ih (off + k), ih u, if_neg (show ¬(off ≤ off + k ∧ off + k < off + k) by omega)]
    by_cases h : u = off + k
    · rw [if_pos h, if_pos (by omega), h, show off + k - off = k from by omega]
    · rw [if_neg h]
      by_cases h2 : off ≤ u ∧ u < off + k
      · rw [if_pos h2, if_pos (by omega)]
      · rw [if_neg h2, if_neg (by omega)]
theorem redS_hv {p : Int} (lo fg : List Int) (h1 : lo.length ≤ fg.length) {i : Nat} (hi : i < lo.length) : ∀ t, t ≤ fg.length - lo.length → Cg p (hv lo (redS p lo fg t) (fg.length - t) i) (hv lo fg fg.length i)
  | 0, _ => .rfl
  | t + 1, ht => by
    refine Cg.trans ?_ (redS_hv lo fg h1 hi t (by omega))
    generalize hr : redS p lo fg t = row
    have hl : row.length = fg.length := by rw [← hr, redS_len]
    obtain ⟨off, ho⟩ : ∃ off, fg.length - t = off + lo.length + 1 := ⟨fg.length - t - lo.length - 1, by omega⟩
    have e1 : redS p lo fg (t + 1) = redK p lo (at0 row ((off + lo.length : Nat) : Int)) off row lo.length := by
      rw [redS, hr, show (fg.length : Int) - 1 - t = ((off + lo.length : Nat) : Int) from by omega, show ((off + lo.length : Nat) : Int) - lo.length = off from by omega]
    generalize ht' : at0 row ((off + lo.length : Nat) : Int) = top at e1
    rw [show fg.length - (t + 1) = off + lo.length from by omega, ho, e1]
    unfold hv
    rw [sm_split _ off lo.length, sm, sm_split _ off lo.length, ht']
    have r := XE_rec (lo := lo) (t := off) hi
    have a1 : sm (fun u => at0 (redK p lo top off row lo.length) (u : Nat) * XE lo u i) off = sm (fun u => at0 row (u : Nat) * XE lo u i) off := sm_congr fun u hu => by
      rw [redK_at lo top off row _ (by omega), if_neg (by omega)]
    have a2 : Cg p (sm (fun j => at0 (redK p lo top off row lo.length) ((off + j : Nat) : Int) * XE lo (off + j) i) lo.length) (sm (fun j => (at0 row ((off + j : Nat) : Int) - top * at0 lo (j : Nat)) * XE lo (off + j) i) lo.length) := by
      refine Cg.sm fun j hj => Cg.mul ?_ .rfl
      rw [redK_at lo top off row _ (by omega), if_pos (by omega), show off + j - off = j from by omega]
      exact Cg.mod _ _
    have a3 : sm (fun j => (at0 row ((off + j : Nat) : Int) - top * at0 lo (j : Nat)) * XE lo (off + j) i) lo.length = sm (fun j => at0 row ((off + j : Nat) : Int) * XE lo (off + j) i) lo.length + top * XE lo (off + lo.length) i := by
      rw [r, Int.mul_neg, mul_sm, ← Int.sub_eq_add_neg, ← sm_sub]
      refine sm_congr fun j _ => ?_
      rw [Int.sub_mul, Int.mul_assoc]
    rw [a3] at a2
    rw [a1, Int.add_assoc]
    exact Cg.add .rfl a2
theorem remL_at {p : Int} {lo fg : List Int} (h1 : lo.length ≤ fg.length) {i : Nat} (hi : i < lo.length) : Cg p (at0 (remL p lo fg) (i : Nat)) (hv lo fg fg.length i) := by
  have e := redS_hv (p := p) lo fg h1 hi (fg.length - lo.length) (Nat.le_refl _)
  rw [show fg.length - (fg.length - lo.length) = lo.length from by omega] at e
  refine Cg.trans (Cg.of ?_) e
  unfold remL hv
  rw [at0_take _ _ _ (by omega) (by omega), sm_congr (g := fun t => if i = t then at0 (redS p lo fg (fg.length - lo.length)) (t : Nat) else 0) fun t ht => ?_, sm_one, if_pos hi]
  rw [XE_low ht hi]
  by_cases h : i = t
  · rw [if_pos h, if_pos h.symm, Int.mul_one]
  · rw [if_neg h, if_neg (Ne.symm h), Int.mul_zero]
end Ev
set_option maxHeartbeats 1000000
/-! Ev, part AD: the ring of figures, its powers. -/
namespace Ev
/-- k figures -/
structure Vc (p : Int) (k : Nat) (x : List Int) : Prop where
  len : x.length = k
  fig : Fig p x
def vmk (p : Int) (k : Nat) (f : Nat → Int) : List Int := (List.range k).map fun i => f i % p
theorem vmk_V {p : Int} (hp : 0 < p) (k : Nat) (f : Nat → Int) : Vc p k (vmk p k f) := ⟨by unfold vmk; rw [List.length_map, List.length_range], fun y hy => by
  obtain ⟨j, _, rfl⟩ := List.mem_map.mp hy
  exact ⟨Int.emod_nonneg _ (by omega), Int.emod_lt_of_pos _ hp⟩⟩
theorem vmk_at {p : Int} {k : Nat} (f : Nat → Int) {i : Nat} (hi : i < k) : at0 (vmk p k f) (i : Nat) = f i % p := by
  refine at0_of ?_
  unfold vmk
  rw [List.getElem?_map, List.getElem?_range hi]; rfl
theorem Vc.at {p : Int} {k : Nat} {x : List Int} (h : Vc p k x) {i : Nat} (hi : i < k) : 0 ≤ at0 x (i : Nat) ∧ at0 x (i : Nat) < p := by
  have hl : i < x.length := by rw [h.len]; exact hi
  rw [at0_of (List.getElem?_eq_getElem hl)]
  exact h.fig _ (List.getElem_mem hl)
theorem Vc.ext {p : Int} {k : Nat} {x y : List Int} (h : Vc p k x) (g : Vc p k y) (e : ∀ i, i < k → Cg p (at0 x (i : Nat)) (at0 y (i : Nat))) : x = y := by
  refine ext_at (by rw [h.len, g.len]) fun t ht => ?_
  rw [h.len] at ht
  exact (e t ht).eq (h.at ht).1 (h.at ht).2 (g.at ht).1 (g.at ht).2
theorem put_fig {p : Int} {xs : List Int} (h : Fig p xs) (k : Int) {v : Int} (hv : 0 ≤ v ∧ v < p) : Fig p (put xs k v) := fun y hy => by
  rcases List.mem_or_eq_of_mem_set hy with q | q
  · exact h y q
  · rw [q]; exact hv
theorem mod_in {p : Int} (hp : 0 < p) (a : Int) : 0 ≤ a % p ∧ a % p < p := ⟨Int.emod_nonneg _ (by omega), Int.emod_lt_of_pos _ hp⟩
theorem mulJ_fig {p : Int} (hp : 0 < p) (x : Int) (i : Nat) (ys : List Int) {row : List Int} (h : Fig p row) : ∀ j, Fig p (mulJ p x i ys row j)
  | 0 => h
  | j + 1 => put_fig (mulJ_fig hp x i ys h j) _ (mod_in hp _)
theorem mulI_fig {p : Int} (hp : 0 < p) (xs ys : List Int) : ∀ i, Fig p (mulI p xs ys i)
  | 0 => fun y hy => by rw [(List.mem_replicate.mp hy).2]; exact ⟨Int.le_refl _, hp⟩
  | i + 1 => mulJ_fig hp _ i ys (mulI_fig hp xs ys i) _
theorem redK_fig {p : Int} (hp : 0 < p) (lo : List Int) (top off : Int) {row : List Int} (h : Fig p row) : ∀ k, Fig p (redK p lo top off row k)
  | 0 => h
  | k + 1 => put_fig (redK_fig hp lo top off h k) _ (mod_in hp _)
theorem redS_fig {p : Int} (hp : 0 < p) (lo : List Int) {row : List Int} (h : Fig p row) : ∀ t, Fig p (redS p lo row t)
  | 0 => h
  | t + 1 => redK_fig hp lo _ _ (redS_fig hp lo h t) _
theorem remL_V {p : Int} (hp : 0 < p) {lo fg : List Int} (h : Fig p fg) (hl : lo.length ≤ fg.length) : Vc p lo.length (remL p lo fg) :=
  ⟨by unfold remL; rw [List.length_take, redS_len]; omega, fun y hy => redS_fig hp lo h _ y (List.mem_of_mem_take hy)⟩
/-- what a field's numbers are -/
structure Fld (p : Int) (lo : List Int) : Prop where
  prm : Prm p
  two : 1 < p
  fig : Fig p lo
  one : 1 ≤ lo.length
  few : lo.length ≤ 400
def Mu (p : Int) (lo x y : List Int) : List Int := remL p lo (mulL p x y)
section
variable {p : Int} {lo : List Int} (A : Fld p lo)
theorem mulL_len (p : Int) (x y : List Int) : (mulL p x y).length = x.length + y.length - 1 := mulI_len p x y x.length
include A
theorem Mu_V {x y : List Int} (hx : Vc p lo.length x) (hy : Vc p lo.length y) : Vc p lo.length (Mu p lo x y) :=
  remL_V A.prm.pos (mulI_fig A.prm.pos x y _) (by have := A.one; rw [mulL_len, hx.len, hy.len]; omega)
/-- the entries of a product -/
theorem Mu_at {x y : List Int} (hx : Vc p lo.length x) (hy : Vc p lo.length y) {i : Nat} (hi : i < lo.length) :
    Cg p (at0 (Mu p lo x y) (i : Nat)) (sm (fun a => sm (fun b => at0 x (a : Nat) * at0 y (b : Nat) * XE lo (a + b) i) lo.length) lo.length) := by
  have h1 := A.one
  have hl : (mulL p x y).length = lo.length + lo.length - 1 := by rw [mulL_len, hx.len, hy.len]
  refine (remL_at (by omega) hi).trans ?_
  rw [hl]
  unfold hv
  have e1 : Cg p (sm (fun t => at0 (mulL p x y) (t : Nat) * XE lo t i) (lo.length + lo.length - 1)) (sm (fun t => sm (fun a => sm (fun b => cf x y t a b * XE lo t i) lo.length) lo.length) (lo.length + lo.length - 1)) := by
    refine Cg.sm fun t ht => ?_
    have e := mulI_at A.prm x y x.length (Nat.le_refl _) t
    rw [hx.len, hy.len] at e
    have e2 : sm (fun a => sm (fun b => cf x y t a b * XE lo t i) lo.length) lo.length = sm (fun a => sm (cf x y t a) lo.length) lo.length * XE lo t i := by
      rw [sm_mul]
      exact sm_congr fun a _ => (sm_mul _ _ _).symm
    rw [e2, show mulL p x y = mulI p x y lo.length from by unfold mulL; rw [hx.len], e]
    exact Cg.mul (Cg.mod _ _) .rfl
  refine e1.trans (Cg.of ?_)
  rw [sm_swap]
  refine sm_congr fun a ha => ?_
  rw [sm_swap]
  refine sm_congr fun b hb => ?_
  rw [sm_congr (g := fun t => if a + b = t then at0 x (a : Nat) * at0 y (b : Nat) * XE lo t i else 0) fun t _ => ?_, sm_one, if_pos (by omega)]
  unfold cf
  by_cases h : a + b = t
  · rw [if_pos h, if_pos h]
  · rw [if_neg h, if_neg h, Int.zero_mul]
omit A in
theorem Mu_comm (hp : Prm p) (x y : List Int) : Mu p lo x y = Mu p lo y x := by unfold Mu; rw [mulL_comm hp]
omit A in
def S3 (lo x y z : List Int) (i : Nat) : Int := sm (fun a => sm (fun b => sm (fun d => at0 x (a : Nat) * at0 y (b : Nat) * at0 z (d : Nat) * XE lo (a + b + d) i) lo.length) lo.length) lo.length
theorem Mu_left {x y z : List Int} (hx : Vc p lo.length x) (hy : Vc p lo.length y) (hz : Vc p lo.length z) {i : Nat} (hi : i < lo.length) : Cg p (at0 (Mu p lo (Mu p lo x y) z) (i : Nat)) (S3 lo x y z i) := by
  refine (Mu_at A (Mu_V A hx hy) hz hi).trans ?_
  have e1 : Cg p (sm (fun c => sm (fun d => at0 (Mu p lo x y) (c : Nat) * at0 z (d : Nat) * XE lo (c + d) i) lo.length) lo.length)
      (sm (fun c => sm (fun d => sm (fun a => sm (fun b => at0 x (a : Nat) * at0 y (b : Nat) * XE lo (a + b) c * (at0 z (d : Nat) * XE lo (c + d) i)) lo.length) lo.length) lo.length) lo.length) := by
    refine Cg.sm fun c hc => Cg.sm fun d hd => ?_
    rw [Int.mul_assoc]
    refine (Cg.mul (Mu_at A hx hy hc) .rfl).trans (Cg.of ?_)
    rw [sm_mul]
    exact sm_congr fun a _ => sm_mul _ _ _
  refine e1.trans (Cg.of ?_)
  unfold S3
  rw [sm_congr (n := lo.length) fun c _ => sm_swap (fun d a => sm (fun b => at0 x (a : Nat) * at0 y (b : Nat) * XE lo (a + b) c * (at0 z (d : Nat) * XE lo (c + d) i)) lo.length) lo.length lo.length, sm_swap]
  refine sm_congr fun a ha => ?_
  rw [sm_congr (n := lo.length) fun c _ => sm_swap (fun d b => at0 x (a : Nat) * at0 y (b : Nat) * XE lo (a + b) c * (at0 z (d : Nat) * XE lo (c + d) i)) lo.length lo.length, sm_swap]
  refine sm_congr fun b hb => ?_
  rw [sm_swap]
  refine sm_congr fun d hd => ?_
  rw [← XE_comp A.one (s := a + b) (d := d) hi, mul_sm]
  refine sm_congr fun c _ => ?_
  simp only [Int.mul_assoc, Int.mul_left_comm (XE lo (a + b) c)]
omit A in
theorem S3_turn (lo x y z : List Int) (i : Nat) : S3 lo y z x i = S3 lo x y z i := by
  unfold S3
  rw [sm_congr (n := lo.length) fun a _ => sm_swap (fun b d => at0 y (a : Nat) * at0 z (b : Nat) * at0 x (d : Nat) * XE lo (a + b + d) i) lo.length lo.length, sm_swap]
  refine sm_congr fun a _ => sm_congr fun b _ => sm_congr fun d _ => ?_
  rw [show b + d + a = a + b + d from by omega, Int.mul_comm (at0 y (b : Nat) * at0 z (d : Nat)), ← Int.mul_assoc (at0 x (a : Nat))]
theorem Mu_assoc {x y z : List Int} (hx : Vc p lo.length x) (hy : Vc p lo.length y) (hz : Vc p lo.length z) : Mu p lo (Mu p lo x y) z = Mu p lo x (Mu p lo y z) := by
  refine Vc.ext (Mu_V A (Mu_V A hx hy) hz) (Mu_V A hx (Mu_V A hy hz)) fun i hi => ?_
  refine (Mu_left A hx hy hz hi).trans ?_
  rw [Mu_comm A.prm x, ← S3_turn]
  exact (Mu_left A hy hz hx hi).symm
omit A in
def vone (p : Int) (k : Nat) : List Int := vmk p k fun i => if i = 0 then 1 else 0
omit A in
def vzero (p : Int) (k : Nat) : List Int := vmk p k fun _ => 0
omit A in
def vadd (p : Int) (k : Nat) (x y : List Int) : List Int := vmk p k fun i => at0 x (i : Nat) + at0 y (i : Nat)
omit A in
def vsub (p : Int) (k : Nat) (x y : List Int) : List Int := vmk p k fun i => at0 x (i : Nat) - at0 y (i : Nat)
omit A in
def vsc (p : Int) (k : Nat) (c : Int) (x : List Int) : List Int := vmk p k fun i => c * at0 x (i : Nat)
omit A in
theorem vmk_cg {k : Nat} (f : Nat → Int) {i : Nat} (hi : i < k) : Cg p (at0 (vmk p k f) (i : Nat)) (f i) := by rw [vmk_at f hi]; exact Cg.mod _ _
theorem one_V : Vc p lo.length (vone p lo.length) := vmk_V A.prm.pos _ _
theorem zero_V : Vc p lo.length (vzero p lo.length) := vmk_V A.prm.pos _ _
theorem add_V (x y : List Int) : Vc p lo.length (vadd p lo.length x y) := vmk_V A.prm.pos _ _
theorem sub_V (x y : List Int) : Vc p lo.length (vsub p lo.length x y) := vmk_V A.prm.pos _ _
theorem sc_V (c : Int) (x : List Int) : Vc p lo.length (vsc p lo.length c x) := vmk_V A.prm.pos _ _
theorem one_Mu {y : List Int} (hy : Vc p lo.length y) : Mu p lo (vone p lo.length) y = y := by
  refine Vc.ext (Mu_V A (one_V A) hy) hy fun i hi => (Mu_at A (one_V A) hy hi).trans ?_
  have e : Cg p (sm (fun a => sm (fun b => at0 (vone p lo.length) (a : Nat) * at0 y (b : Nat) * XE lo (a + b) i) lo.length) lo.length) (sm (fun a => if 0 = a then sm (fun b => at0 y (b : Nat) * XE lo (a + b) i) lo.length else 0) lo.length) := by
    refine Cg.sm fun a ha => ?_
    by_cases h : 0 = a
    · rw [if_pos h]
      refine Cg.sm fun b hb => Cg.mul ?_ .rfl
      refine (Cg.mul (vmk_cg _ ha) .rfl).trans (Cg.of ?_)
      rw [if_pos h.symm, Int.one_mul]
    · rw [if_neg h, ← sm_zero lo.length]
      refine Cg.sm fun b hb => ?_
      refine (Cg.mul (Cg.mul (vmk_cg _ ha) .rfl) .rfl).trans (Cg.of ?_)
      rw [if_neg (Ne.symm h), Int.zero_mul, Int.zero_mul]
  refine e.trans (Cg.of ?_)
  rw [sm_one, if_pos (by have := A.one; omega), sm_congr (g := fun t => if i = t then at0 y (t : Nat) else 0) fun t ht => ?_, sm_one, if_pos hi]
  rw [Nat.zero_add, XE_low ht hi]
  by_cases h : i = t
  · rw [if_pos h, if_pos h.symm, Int.mul_one]
  · rw [if_neg h, if_neg (Ne.symm h), Int.mul_zero]
theorem Mu_one {y : List Int} (hy : Vc p lo.length y) : Mu p lo y (vone p lo.length) = y := by rw [Mu_comm A.prm]; exact one_Mu A hy
theorem Mu_add {x y z : List Int} (hx : Vc p lo.length x) (hy : Vc p lo.length y) (hz : Vc p lo.length z) : Mu p lo x (vadd p lo.length y z) = vadd p lo.length (Mu p lo x y) (Mu p lo x z) := by
  refine Vc.ext (Mu_V A hx (add_V A y z)) (add_V A _ _) fun i hi => (Mu_at A hx (add_V A y z) hi).trans (Cg.symm ?_)
  refine (vmk_cg _ hi).trans (((Mu_at A hx hy hi).add (Mu_at A hx hz hi)).trans ?_)
  rw [← sm_add]
  refine Cg.sm fun a _ => ?_
  rw [← sm_add]
  refine Cg.sm fun b hb => ?_
  refine Cg.trans (Cg.of ?_) (Cg.mul (Cg.mul (Cg.rfl (a := at0 x (a : Nat))) (vmk_cg (p := p) (fun i => at0 y (i : Nat) + at0 z (i : Nat)) hb).symm) .rfl)
  rw [Int.mul_add, Int.add_mul]
theorem Mu_sc {x y : List Int} (c : Int) (hx : Vc p lo.length x) (hy : Vc p lo.length y) : Mu p lo x (vsc p lo.length c y) = vsc p lo.length c (Mu p lo x y) := by
  refine Vc.ext (Mu_V A hx (sc_V A c y)) (sc_V A _ _) fun i hi => (Mu_at A hx (sc_V A c y) hi).trans (Cg.symm ?_)
  refine (vmk_cg _ hi).trans ((Cg.mul .rfl (Mu_at A hx hy hi)).trans ?_)
  rw [mul_sm]
  refine Cg.sm fun a _ => ?_
  rw [mul_sm]
  refine Cg.sm fun b hb => ?_
  refine Cg.trans (Cg.of ?_) (Cg.mul (Cg.mul (Cg.rfl (a := at0 x (a : Nat))) (vmk_cg (p := p) (fun i => c * at0 y (i : Nat)) hb).symm) .rfl)
  simp only [Int.mul_assoc, Int.mul_left_comm c]
/-! ### powers -/
omit A in
def vpow (p : Int) (lo x : List Int) : Nat → List Int
  | 0 => vone p lo.length
  | n + 1 => Mu p lo (vpow p lo x n) x
theorem pow_V {x : List Int} (hx : Vc p lo.length x) : ∀ n, Vc p lo.length (vpow p lo x n)
  | 0 => one_V A
  | n + 1 => Mu_V A (pow_V hx n) hx
theorem pow_1 {x : List Int} (hx : Vc p lo.length x) : vpow p lo x 1 = x := one_Mu A hx
theorem pow_add {x : List Int} (hx : Vc p lo.length x) (m : Nat) : ∀ n, vpow p lo x (m + n) = Mu p lo (vpow p lo x m) (vpow p lo x n)
  | 0 => (Mu_one A (pow_V A hx m)).symm
  | n + 1 => by
    show Mu p lo (vpow p lo x (m + n)) x = Mu p lo _ (Mu p lo _ x)
    rw [pow_add hx m n, Mu_assoc A (pow_V A hx m) (pow_V A hx n) hx]
theorem pow_mul {x : List Int} (hx : Vc p lo.length x) (m : Nat) : ∀ n, vpow p lo x (m * n) = vpow p lo (vpow p lo x m) n
  | 0 => rfl
  | n + 1 => by
    rw [Nat.mul_succ, pow_add A hx, pow_mul hx m n]; rfl
theorem mul_pow {x y : List Int} (hx : Vc p lo.length x) (hy : Vc p lo.length y) : ∀ n, vpow p lo (Mu p lo x y) n = Mu p lo (vpow p lo x n) (vpow p lo y n)
  | 0 => (one_Mu A (one_V A)).symm
  | n + 1 => by
    show Mu p lo (vpow p lo (Mu p lo x y) n) (Mu p lo x y) = Mu p lo (Mu p lo _ x) (Mu p lo _ y)
    have a := pow_V A hx n
    have b := pow_V A hy n
    rw [mul_pow hx hy n, Mu_assoc A a b (Mu_V A hx hy), ← Mu_assoc A b hx hy, Mu_comm A.prm (vpow p lo y n) x, Mu_assoc A hx b hy, ← Mu_assoc A a hx (Mu_V A b hy)]
theorem one_pow : ∀ n, vpow p lo (vone p lo.length) n = vone p lo.length
  | 0 => rfl
  | n + 1 => by
    show Mu p lo (vpow p lo (vone p lo.length) n) _ = _
    rw [one_pow n, one_Mu A (one_V A)]
omit A in
/-- by squares -/
def powW (p : Int) (lo : List Int) : Nat → List Int → List Int → Int → List Int
  | 0, f, _, _ => f
  | n + 1, f, g, t => if 0 < t then powW p lo n (if t % 2 = 1 then Mu p lo f g else f) (Mu p lo g g) (t / 2) else f
theorem powW_eq : ∀ (n : Nat) {f g : List Int} (t : Nat), Vc p lo.length f → Vc p lo.length g → t < 2 ^ n → powW p lo n f g t = Mu p lo f (vpow p lo g t)
  | 0, f, g, t, hf, hg, ht => by
    have : t = 0 := by simpa using ht
    subst this
    exact (Mu_one A hf).symm
  | n + 1, f, g, t, hf, hg, ht => by
    rw [powW]
    by_cases h : 0 < t
    · rw [if_pos (by omega)]
      have hd : ((t : Nat) : Int) / 2 = ((t / 2 : Nat) : Int) := by omega
      have e2 : vpow p lo (Mu p lo g g) (t / 2) = vpow p lo g (2 * (t / 2)) := by
        rw [pow_mul A hg]
        congr 1
        show _ = Mu p lo (vpow p lo g 1) g
        rw [pow_1 A hg]
      by_cases ho : ((t : Nat) : Int) % 2 = 1
      · rw [if_pos ho, hd, powW_eq n (t / 2) (Mu_V A hf hg) (Mu_V A hg hg) (by rw [Nat.pow_succ] at ht; omega), e2, Mu_assoc A hf hg (pow_V A hg _)]
        congr 1
        rw [show t = 1 + 2 * (t / 2) from by omega, pow_add A hg, pow_1 A hg, show (1 + 2 * (t / 2)) / 2 = t / 2 from by omega]
      · rw [if_neg ho, hd, powW_eq n (t / 2) hf (Mu_V A hg hg) (by rw [Nat.pow_succ] at ht; omega), e2]
        congr 2
        omega
    · rw [if_neg (by omega), show t = 0 from by omega]
      exact (Mu_one A hf).symm
end
end Ev
set_option maxHeartbeats 1000000
/-! Ev, part AE: the power by the prime is linear; fields. -/
namespace Ev
/-! ### binomials -/
def bn : Nat → Nat → Nat
  | _, 0 => 1
  | 0, _ + 1 => 0
  | n + 1, k + 1 => bn n k + bn n (k + 1)
theorem bn_zero : ∀ n, bn n 0 = 1
  | 0 => rfl
  | _ + 1 => rfl
theorem bn_over : ∀ {n k : Nat}, n < k → bn n k = 0
  | 0, k + 1, _ => rfl
  | n + 1, k + 1, h => by rw [bn, bn_over (by omega), bn_over (by omega)]
theorem bn_self : ∀ n, bn n n = 1
  | 0 => rfl
  | n + 1 => by rw [bn, bn_self n, bn_over (Nat.lt_succ_self n)]
theorem bn_mul : ∀ n t, (t + 1) * bn (n + 1) (t + 1) = (n + 1) * bn n t
  | 0, 0 => rfl
  | 0, t + 1 => by rw [bn_over (show 0 + 1 < t + 1 + 1 by omega), bn_over (show 0 < t + 1 by omega), Nat.mul_zero, Nat.mul_zero]
  | n + 1, 0 => by
    have := bn_mul n 0
    rw [bn_zero] at this
    show (0 + 1) * (bn (n + 1) 0 + bn (n + 1) (0 + 1)) = (n + 1 + 1) * bn (n + 1) 0
    rw [bn_zero]
    omega
  | n + 1, t + 1 => by
    have a := bn_mul n t
    have b := bn_mul n (t + 1)
    rw [bn, Nat.mul_add, b, show t + 1 + 1 = (t + 1) + 1 from rfl, Nat.add_mul (t + 1) 1, a, Nat.one_mul]
    rw [show (n + 1 + 1) * bn (n + 1) (t + 1) = (n + 1) * bn (n + 1) (t + 1) + bn (n + 1) (t + 1) from by rw [Nat.add_mul (n + 1) 1, Nat.one_mul]]
    rw [show bn (n + 1) (t + 1) = bn n t + bn n (t + 1) from rfl, Nat.mul_add (n + 1)]
    omega
structure Pri (P : Nat) : Prop where
  two : 2 ≤ P
  dv : ∀ d, d ∣ P → d = 1 ∨ d = P
theorem Pri.coprime {P : Nat} (h : Pri P) {a : Nat} (a0 : 0 < a) (a1 : a < P) : Nat.Coprime P a := by
  rcases h.dv _ (Nat.gcd_dvd_left P a) with e | e
  · exact e
  · exact absurd (Nat.le_of_dvd a0 (e ▸ Nat.gcd_dvd_right P a)) (by omega)
theorem Pri.bn {P : Nat} (h : Pri P) {t : Nat} (t0 : 0 < t) (t1 : t < P) : P ∣ Ev.bn P t := by
  obtain ⟨n, rfl⟩ : ∃ n, P = n + 1 := ⟨P - 1, by omega⟩
  obtain ⟨u, rfl⟩ : ∃ u, t = u + 1 := ⟨t - 1, by omega⟩
  exact (h.coprime t0 t1).dvd_of_dvd_mul_left (bn_mul n u ▸ Nat.dvd_mul_right _ _)
section
variable {p : Int} {lo : List Int} (A : Fld p lo)
include A
/-- a product with a sum of multiples -/
theorem Mu_sum {x : List Int} (hx : Vc p lo.length x) (c : Nat → Int) (z : Nat → List Int) (n : Nat) (hz : ∀ t, t < n → Vc p lo.length (z t)) {i : Nat} (hi : i < lo.length) :
    Cg p (at0 (Mu p lo x (vmk p lo.length fun i => sm (fun t => c t * at0 (z t) (i : Nat)) n)) (i : Nat)) (sm (fun t => c t * at0 (Mu p lo x (z t)) (i : Nat)) n) := by
  refine (Mu_at A hx (vmk_V A.prm.pos _ _) hi).trans ?_
  have e : Cg p (sm (fun t => c t * at0 (Mu p lo x (z t)) (i : Nat)) n) (sm (fun t => sm (fun a => sm (fun b => c t * (at0 x (a : Nat) * at0 (z t) (b : Nat) * XE lo (a + b) i)) lo.length) lo.length) n) := by
    refine Cg.sm fun t ht => (Cg.mul .rfl (Mu_at A hx (hz t ht) hi)).trans (Cg.of ?_)
    rw [mul_sm]
    exact sm_congr fun a _ => mul_sm _ _ _
  refine Cg.trans ?_ e.symm
  rw [sm_swap (fun t a => sm (fun b => c t * (at0 x (a : Nat) * at0 (z t) (b : Nat) * XE lo (a + b) i)) lo.length) lo.length n]
  refine Cg.sm fun a _ => ?_
  rw [sm_swap]
  refine Cg.sm fun b hb => ?_
  refine (Cg.mul (Cg.mul .rfl (vmk_cg _ hb)) .rfl).trans (Cg.of ?_)
  rw [mul_sm, sm_mul]
  refine sm_congr fun t _ => ?_
  simp only [Int.mul_assoc, Int.mul_left_comm (c t)]
/-- the binomial theorem, figure by figure -/
theorem pow_sum {x y : List Int} (hx : Vc p lo.length x) (hy : Vc p lo.length y) : ∀ n, vpow p lo (vadd p lo.length x y) n = vmk p lo.length fun i => sm (fun t => (bn n t : Int) * at0 (Mu p lo (vpow p lo x t) (vpow p lo y (n - t))) (i : Nat)) (n + 1)
  | 0 => by
    refine Vc.ext (one_V A) (vmk_V A.prm.pos _ _) fun i hi => Cg.trans ?_ (vmk_cg _ hi).symm
    show Cg p (at0 (vone p lo.length) (i : Nat)) (0 + (1 : Int) * at0 (Mu p lo (vone p lo.length) (vone p lo.length)) (i : Nat))
    rw [one_Mu A (one_V A), Int.one_mul, Int.zero_add]
    exact .rfl
  | n + 1 => by
    have px := pow_V A hx
    have py := pow_V A hy
    have vB : Vc p lo.length (vmk p lo.length fun i => sm (fun t => (bn n t : Int) * at0 (Mu p lo (vpow p lo x t) (vpow p lo y (n - t))) (i : Nat)) (n + 1)) := vmk_V A.prm.pos _ _
    show Mu p lo (vpow p lo (vadd p lo.length x y) n) (vadd p lo.length x y) = _
    rw [pow_sum hx hy n, Mu_add A vB hx hy]
    refine Vc.ext (add_V A _ _) (vmk_V A.prm.pos _ _) fun i hi => Cg.trans (vmk_cg _ hi) (Cg.trans ?_ (vmk_cg _ hi).symm)
    generalize hg : (fun t => at0 (Mu p lo (vpow p lo x t) (vpow p lo y (n + 1 - t))) (i : Nat)) = g
    have g1 : ∀ t, t ≤ n → at0 (Mu p lo x (Mu p lo (vpow p lo x t) (vpow p lo y (n - t)))) (i : Nat) = g (t + 1) := fun t ht => by
      subst hg
      show _ = at0 (Mu p lo (Mu p lo (vpow p lo x t) x) (vpow p lo y (n + 1 - (t + 1)))) (i : Nat)
      rw [show n + 1 - (t + 1) = n - t from by omega, ← Mu_assoc A hx (px t) (py _), Mu_comm A.prm x]
    have g2 : ∀ t, t ≤ n → at0 (Mu p lo y (Mu p lo (vpow p lo x t) (vpow p lo y (n - t)))) (i : Nat) = g t := fun t ht => by
      subst hg
      show _ = at0 (Mu p lo (vpow p lo x t) (vpow p lo y (n + 1 - t))) (i : Nat)
      rw [show n + 1 - t = (n - t) + 1 from by omega, Mu_comm A.prm y, Mu_assoc A (px t) (py _) hy]
      rfl
    have s1 := Mu_sum A hx (fun t => (bn n t : Int)) (fun t => Mu p lo (vpow p lo x t) (vpow p lo y (n - t))) (n + 1) (fun t _ => Mu_V A (px t) (py _)) hi
    have s2 := Mu_sum A hy (fun t => (bn n t : Int)) (fun t => Mu p lo (vpow p lo x t) (vpow p lo y (n - t))) (n + 1) (fun t _ => Mu_V A (px t) (py _)) hi
    rw [Mu_comm A.prm x] at s1
    rw [Mu_comm A.prm y] at s2
    refine (s1.add s2).trans (Cg.of ?_)
    rw [sm_congr (g := fun t => (bn n t : Int) * g (t + 1)) fun t ht => by rw [g1 t (by omega)], sm_congr (f := fun t => (bn n t : Int) * at0 (Mu p lo y (Mu p lo (vpow p lo x t) (vpow p lo y (n - t)))) (i : Nat)) (g := fun t => (bn n t : Int) * g t) fun t ht => by rw [g2 t (by omega)]]
    have e1 : sm (fun t => (bn (n + 1) t : Int) * g t) (n + 2) = g 0 + (sm (fun t => (bn n t : Int) * g (t + 1)) (n + 1) + sm (fun t => (bn n (t + 1) : Int) * g (t + 1)) (n + 1)) := by
      rw [sm_shift, ← sm_add]
      congr 1
      · show ((1 : Nat) : Int) * g 0 = g 0
        rw [Int.natCast_one, Int.one_mul]
      · refine sm_congr fun t _ => ?_
        rw [bn, Int.natCast_add, Int.add_mul]
    have e2 : sm (fun t => (bn n t : Int) * g t) (n + 1) = g 0 + sm (fun t => (bn n (t + 1) : Int) * g (t + 1)) n := by
      rw [sm_shift, bn_zero, Int.natCast_one, Int.one_mul]
    have e3 : sm (fun t => (bn n (t + 1) : Int) * g (t + 1)) (n + 1) = sm (fun t => (bn n (t + 1) : Int) * g (t + 1)) n := by
      rw [sm, bn_over (Nat.lt_succ_self n), Int.natCast_zero, Int.zero_mul, Int.add_zero]
    have e0 : sm (fun t => (bn (n + 1) t : Int) * at0 (Mu p lo (vpow p lo x t) (vpow p lo y (n + 1 - t))) (i : Nat)) (n + 1 + 1) = sm (fun t => (bn (n + 1) t : Int) * g t) (n + 2) := sm_congr fun t _ => by subst hg; rfl
    rw [e0, e1, e2, e3]
    omega
omit A in
theorem sm_ends (f : Nat → Int) {P : Nat} (hP : 1 ≤ P) (h : ∀ t, 0 < t → t < P → Cg p (f t) 0) : Cg p (sm f (P + 1)) (f 0 + f P) := by
  obtain ⟨n, rfl⟩ : ∃ n, P = n + 1 := ⟨P - 1, by omega⟩
  rw [sm, sm_shift]
  refine Cg.add ?_ .rfl
  have : Cg p (sm (fun i => f (i + 1)) n) (sm (fun _ => 0) n) := Cg.sm fun i hi => h (i + 1) (by omega) (by omega)
  rw [sm_zero] at this
  have := Cg.add (Cg.rfl (p := p) (a := f 0)) this
  rwa [Int.add_zero] at this
variable {P : Nat} (hP : Pri P) (hpP : p = (P : Int))
include hP hpP
theorem frob_add {x y : List Int} (hx : Vc p lo.length x) (hy : Vc p lo.length y) : vpow p lo (vadd p lo.length x y) P = vadd p lo.length (vpow p lo x P) (vpow p lo y P) := by
  rw [pow_sum A hx hy P]
  refine Vc.ext (vmk_V A.prm.pos _ _) (add_V A _ _) fun i hi => (vmk_cg _ hi).trans (Cg.trans ?_ (vmk_cg _ hi).symm)
  refine (sm_ends _ (by have := hP.two; omega) fun t t0 t1 => ?_).trans (Cg.of ?_)
  · unfold Cg
    rw [Int.sub_zero, hpP]
    exact Int.dvd_trans (Int.ofNat_dvd.mpr (hP.bn t0 t1)) (Int.dvd_mul_right _ _)
  · rw [bn_zero, bn_self, Nat.sub_self, Nat.sub_zero, Int.natCast_one, Int.one_mul, Int.one_mul]
    show at0 (Mu p lo (vone p lo.length) (vpow p lo y P)) (i : Nat) + at0 (Mu p lo (vpow p lo x P) (vone p lo.length)) (i : Nat) = _
    rw [one_Mu A (pow_V A hy P), Mu_one A (pow_V A hx P), Int.add_comm]
omit hP hpP in
theorem sc_Mu (c : Int) {x : List Int} (hx : Vc p lo.length x) : vsc p lo.length c x = Mu p lo (vsc p lo.length c (vone p lo.length)) x := by
  rw [Mu_comm A.prm, Mu_sc A c hx (one_V A), Mu_one A hx]
theorem frob_const : ∀ c : Nat, vpow p lo (vsc p lo.length c (vone p lo.length)) P = vsc p lo.length c (vone p lo.length)
  | 0 => by
    have z : vsc p lo.length ((0 : Nat) : Int) (vone p lo.length) = vzero p lo.length := Vc.ext (sc_V A _ _) (zero_V A) fun i hi => (vmk_cg _ hi).trans (Cg.trans (Cg.of (by show ((0 : Nat) : Int) * _ = 0; rw [Int.natCast_zero, Int.zero_mul])) (vmk_cg _ hi).symm)
    rw [z]
    obtain ⟨n, rfl⟩ : ∃ n, P = n + 1 := ⟨P - 1, by have := hP.two; omega⟩
    show Mu p lo _ (vzero p lo.length) = _
    have v := pow_V A (zero_V A) n
    refine Vc.ext (Mu_V A v (zero_V A)) (zero_V A) fun i hi => (Mu_at A v (zero_V A) hi).trans (Cg.trans ?_ (vmk_cg _ hi).symm)
    refine Cg.trans (Cg.sm (g := fun _ => 0) fun a _ => Cg.trans (Cg.sm (g := fun _ => 0) fun b hb => ?_) (Cg.of (sm_zero _))) (Cg.of (sm_zero _))
    refine (Cg.mul (Cg.mul .rfl (vmk_cg _ hb)) .rfl).trans (Cg.of ?_)
    rw [Int.mul_zero, Int.zero_mul]
  | c + 1 => by
    have e : vsc p lo.length ((c + 1 : Nat) : Int) (vone p lo.length) = vadd p lo.length (vsc p lo.length (c : Nat) (vone p lo.length)) (vone p lo.length) := by
      refine Vc.ext (sc_V A _ _) (add_V A _ _) fun i hi => (vmk_cg _ hi).trans (Cg.trans ?_ (vmk_cg _ hi).symm)
      refine Cg.trans (Cg.of ?_) (Cg.add (vmk_cg (p := p) (fun i => (c : Int) * at0 (vone p lo.length) (i : Nat)) hi).symm .rfl)
      rw [Int.natCast_add, Int.add_mul, Int.natCast_one, Int.one_mul]
    rw [e, frob_add A hP hpP (sc_V A _ _) (one_V A), frob_const c, one_pow A]
theorem frob_sc {c : Int} (c0 : 0 ≤ c) {x : List Int} (hx : Vc p lo.length x) : vpow p lo (vsc p lo.length c x) P = vsc p lo.length c (vpow p lo x P) := by
  obtain ⟨n, rfl⟩ : ∃ n : Nat, c = n := ⟨c.toNat, by omega⟩
  rw [sc_Mu A _ hx, mul_pow A (sc_V A _ _) hx, frob_const A hP hpP, ← sc_Mu A _ (pow_V A hx P)]
end
end Ev
set_option maxHeartbeats 1000000
/-! Ev, part AF: what a field's numbers keep. -/
namespace Ev
def ev (p : Int) (lo : List Int) (t : Nat) : List Int := vmk p lo.length (XE lo t)
section
variable {p : Int} {lo : List Int} (A : Fld p lo)
include A
theorem ev_V (t : Nat) : Vc p lo.length (ev p lo t) := vmk_V A.prm.pos _ _
theorem ev_zero : ev p lo 0 = vone p lo.length := Vc.ext (ev_V A 0) (one_V A) fun i hi => (vmk_cg _ hi).trans (Cg.trans (Cg.of (by
  show (if 0 = i then (1 : Int) else 0) = if i = 0 then 1 else 0
  by_cases h : i = 0
  · rw [if_pos h, if_pos h.symm]
  · rw [if_neg h, if_neg (Ne.symm h)])) (vmk_cg _ hi).symm)
theorem ev_mul (s t : Nat) : Mu p lo (ev p lo s) (ev p lo t) = ev p lo (s + t) := by
  refine Vc.ext (Mu_V A (ev_V A s) (ev_V A t)) (ev_V A _) fun i hi => (Mu_at A (ev_V A s) (ev_V A t) hi).trans (Cg.trans ?_ (vmk_cg _ hi).symm)
  refine Cg.trans (Cg.sm (g := fun a => sm (fun b => XE lo s a * XE lo t b * XE lo (a + b) i) lo.length) fun a ha => Cg.sm fun b hb => Cg.mul (Cg.mul (vmk_cg _ ha) (vmk_cg _ hb)) .rfl) (Cg.of ?_)
  rw [← XE_comp A.one hi]
  refine sm_congr fun a _ => ?_
  rw [show a + t = t + a from Nat.add_comm _ _, ← XE_comp A.one (s := t) (d := a) hi, mul_sm]
  refine sm_congr fun b _ => ?_
  rw [Int.mul_assoc, Nat.add_comm a b]
theorem ev_pow : ∀ t, vpow p lo (ev p lo 1) t = ev p lo t
  | 0 => (ev_zero A).symm
  | t + 1 => by
    show Mu p lo (vpow p lo (ev p lo 1) t) _ = _
    rw [ev_pow t, ev_mul A]
omit A in
structure Lin (p : Int) (lo : List Int) (f : List Int → List Int) : Prop where
  V : ∀ x, Vc p lo.length x → Vc p lo.length (f x)
  add : ∀ x y, Vc p lo.length x → Vc p lo.length y → f (vadd p lo.length x y) = vadd p lo.length (f x) (f y)
  sc : ∀ c x, 0 ≤ c → Vc p lo.length x → f (vsc p lo.length c x) = vsc p lo.length c (f x)
omit A in
def part (p : Int) (lo x : List Int) (n : Nat) : List Int := vmk p lo.length fun i => sm (fun t => at0 x (t : Nat) * XE lo t i) n
theorem part_V (x : List Int) (n : Nat) : Vc p lo.length (part p lo x n) := vmk_V A.prm.pos _ _
theorem part_succ (x : List Int) (n : Nat) : part p lo x (n + 1) = vadd p lo.length (part p lo x n) (vsc p lo.length (at0 x (n : Nat)) (ev p lo n)) := by
  refine Vc.ext (part_V A x _) (add_V A _ _) fun i hi => (vmk_cg _ hi).trans (Cg.trans ?_ (vmk_cg _ hi).symm)
  refine Cg.add (vmk_cg (p := p) (fun i => sm (fun t => at0 x (t : Nat) * XE lo t i) n) hi).symm (Cg.trans ?_ (vmk_cg _ hi).symm)
  exact Cg.mul .rfl (vmk_cg _ hi).symm
theorem part_all {x : List Int} (hx : Vc p lo.length x) : part p lo x lo.length = x := by
  refine Vc.ext (part_V A x _) hx fun i hi => (vmk_cg _ hi).trans (Cg.of ?_)
  rw [sm_congr (g := fun t => if i = t then at0 x (t : Nat) else 0) fun t ht => ?_, sm_one, if_pos hi]
  rw [XE_low ht hi]
  by_cases h : i = t
  · rw [if_pos h, if_pos h.symm, Int.mul_one]
  · rw [if_neg h, if_neg (Ne.symm h), Int.mul_zero]
theorem lin_part {f : List Int → List Int} (L : Lin p lo f) {x : List Int} (hx : Vc p lo.length x) : ∀ n, n ≤ lo.length → ∀ i, i < lo.length → Cg p (at0 (f (part p lo x n)) (i : Nat)) (sm (fun t => at0 x (t : Nat) * at0 (f (ev p lo t)) (i : Nat)) n)
  | 0, _, i, hi => by
    have z : part p lo x 0 = vsc p lo.length 0 (part p lo x 0) := Vc.ext (part_V A x 0) (sc_V A _ _) fun i hi => (vmk_cg _ hi).trans (Cg.trans (Cg.of (Int.zero_mul _).symm) (vmk_cg (p := p) (fun i => 0 * at0 (part p lo x 0) (i : Nat)) hi).symm)
    rw [z, L.sc 0 _ (Int.le_refl 0) (part_V A x 0)]
    exact (vmk_cg _ hi).trans (Cg.of (Int.zero_mul _))
  | n + 1, hn, i, hi => by
    rw [part_succ A, L.add _ _ (part_V A x n) (sc_V A _ _), L.sc _ _ (hx.at (by omega)).1 (ev_V A n)]
    exact (vmk_cg _ hi).trans (Cg.add (lin_part L hx n (by omega) i hi) (vmk_cg _ hi))
theorem lin_at {f : List Int → List Int} (L : Lin p lo f) {x : List Int} (hx : Vc p lo.length x) {i : Nat} (hi : i < lo.length) : Cg p (at0 (f x) (i : Nat)) (sm (fun t => at0 x (t : Nat) * at0 (f (ev p lo t)) (i : Nat)) lo.length) := by
  have := lin_part A L hx lo.length (Nat.le_refl _) i hi
  rwa [part_all A hx] at this
theorem lin_ext {f g : List Int → List Int} (L : Lin p lo f) (K : Lin p lo g) (h : ∀ t, t < lo.length → f (ev p lo t) = g (ev p lo t)) {x : List Int} (hx : Vc p lo.length x) : f x = g x := by
  refine Vc.ext (L.V x hx) (K.V x hx) fun i hi => (lin_at A L hx hi).trans (Cg.trans (Cg.of ?_) (lin_at A K hx hi).symm)
  exact sm_congr fun t ht => by rw [h t ht]
theorem lin_id : Lin p lo fun x => x := ⟨fun _ h => h, fun _ _ _ _ => rfl, fun _ _ _ _ => rfl⟩
variable {P : Nat} (hP : Pri P) (hpP : p = (P : Int))
include hP hpP
theorem lin_frob : ∀ n, Lin p lo fun x => vpow p lo x (P ^ n)
  | 0 => ⟨fun x hx => pow_V A hx _, fun x y hx hy => by
      show vpow p lo _ (P ^ 0) = vadd p lo.length (vpow p lo _ (P ^ 0)) (vpow p lo _ (P ^ 0))
      rw [Nat.pow_zero, pow_1 A hx, pow_1 A hy, pow_1 A (add_V A x y)], fun c x c0 hx => by
      show vpow p lo _ (P ^ 0) = vsc p lo.length c (vpow p lo _ (P ^ 0))
      rw [Nat.pow_zero, pow_1 A hx, pow_1 A (sc_V A c x)]⟩
  | n + 1 => by
    have ih := lin_frob n
    have e : ∀ x, Vc p lo.length x → vpow p lo x (P ^ (n + 1)) = vpow p lo (vpow p lo x (P ^ n)) P := fun x hx => by rw [Nat.pow_succ, pow_mul A hx]
    refine ⟨fun x hx => pow_V A hx _, fun x y hx hy => ?_, fun c x c0 hx => ?_⟩
    · show vpow p lo _ (P ^ (n + 1)) = vadd p lo.length (vpow p lo _ (P ^ (n + 1))) (vpow p lo _ (P ^ (n + 1)))
      rw [e _ (add_V A x y), ih.add x y hx hy, e x hx, e y hy, frob_add A hP hpP (ih.V x hx) (ih.V y hy)]
    · show vpow p lo _ (P ^ (n + 1)) = vsc p lo.length c (vpow p lo _ (P ^ (n + 1)))
      rw [e _ (sc_V A c x), ih.sc c x c0 hx, e x hx, frob_sc A hP hpP c0 (ih.V x hx)]
theorem pow_size {n : Nat} (h : vpow p lo (ev p lo 1) (P ^ n) = ev p lo 1) {x : List Int} (hx : Vc p lo.length x) : vpow p lo x (P ^ n) = x := by
  refine lin_ext A (lin_frob A hP hpP n) (lin_id A) (fun t _ => ?_) hx
  show vpow p lo (ev p lo t) (P ^ n) = ev p lo t
  rw [← ev_pow A t, ← pow_mul A (ev_V A 1), Nat.mul_comm, pow_mul A (ev_V A 1), h]
theorem fix_const (W : Nat → Nat → Int) (hW : ∀ i, 1 ≤ i → i < lo.length → ∀ t, t < lo.length → Cg p (sm (fun j => W i j * (at0 (vpow p lo (ev p lo t) P) (j : Nat) - if j = t then 1 else 0)) lo.length) (if i = t then 1 else 0))
    {e : List Int} (he : Vc p lo.length e) (hf : vpow p lo e P = e) {i : Nat} (h1 : 1 ≤ i) (hi : i < lo.length) : at0 e (i : Nat) = 0 := by
  have L := lin_frob A hP hpP 1
  have key : Cg p (at0 e (i : Nat)) 0 := by
    have e1 : at0 e (i : Nat) = sm (fun t => (if i = t then 1 else 0) * at0 e (t : Nat)) lo.length := by
      rw [sm_congr (g := fun t => if i = t then at0 e (t : Nat) else 0) fun t ht => ?_, sm_one, if_pos hi]
      by_cases h : i = t
      · rw [if_pos h, if_pos h, Int.one_mul]
      · rw [if_neg h, if_neg h, Int.zero_mul]
    refine (Cg.of e1).trans (Cg.trans (Cg.sm (g := fun t => sm (fun j => W i j * (at0 (vpow p lo (ev p lo t) P) (j : Nat) - if j = t then 1 else 0) * at0 e (t : Nat)) lo.length) fun t ht => ?_) ?_)
    · rw [← sm_mul]
      exact Cg.mul (hW i h1 hi t ht).symm .rfl
    · rw [sm_swap]
      refine Cg.trans (Cg.sm (g := fun _ => 0) fun j hj => ?_) (Cg.of (sm_zero _))
      have e2 : sm (fun t => W i j * (at0 (vpow p lo (ev p lo t) P) (j : Nat) - if j = t then 1 else 0) * at0 e (t : Nat)) lo.length = W i j * (sm (fun t => at0 e (t : Nat) * at0 (vpow p lo (ev p lo t) P) (j : Nat)) lo.length - at0 e (j : Nat)) := by
        have e3 : at0 e (j : Nat) = sm (fun t => if j = t then at0 e (t : Nat) else 0) lo.length := by rw [sm_one, if_pos hj]
        rw [e3, ← sm_sub, mul_sm]
        refine sm_congr fun t _ => ?_
        rw [Int.mul_assoc]
        congr 1
        by_cases h : j = t
        · rw [if_pos h, if_pos h, Int.sub_mul, Int.one_mul, Int.mul_comm]
        · rw [if_neg h, if_neg h, Int.sub_zero, Int.sub_zero, Int.mul_comm]
      rw [e2]
      have e4 := lin_at A L he hj
      simp only [Nat.pow_one] at e4
      rw [hf] at e4
      refine (Cg.mul .rfl (Cg.sub e4.symm .rfl)).trans (Cg.of ?_)
      rw [Int.sub_self, Int.mul_zero]
  exact key.eq (he.at hi).1 (he.at hi).2 (Int.le_refl 0) A.prm.pos
end
theorem Pri.split {P : Nat} (h : Pri P) {a b : Nat} (d : P ∣ a * b) : P ∣ a ∨ P ∣ b := by
  rcases h.dv _ (Nat.gcd_dvd_left P a) with e | e
  · exact .inr (Nat.Coprime.dvd_of_dvd_mul_left e d)
  · exact .inl (e ▸ Nat.gcd_dvd_right P a)
/-- a field -/
structure FF (P : Nat) (lo : List Int) : Prop where
  A : Fld P lo
  hP : Pri P
  q : ∀ x, Vc P lo.length x → vpow P lo x (P ^ lo.length) = x
  fix : ∀ e, Vc P lo.length e → vpow P lo e P = e → ∀ i, 1 ≤ i → i < lo.length → at0 e (i : Nat) = 0
section
variable {P : Nat} {lo : List Int} (B : FF P lo)
include B
theorem zero_Mu {x : List Int} (hx : Vc P lo.length x) : Mu P lo (vzero P lo.length) x = vzero P lo.length := by
  have A := B.A
  rw [Mu_comm A.prm]
  refine Vc.ext (Mu_V A hx (zero_V A)) (zero_V A) fun i hi => (Mu_at A hx (zero_V A) hi).trans (Cg.trans ?_ (vmk_cg _ hi).symm)
  refine Cg.trans (Cg.sm (g := fun _ => 0) fun a _ => Cg.trans (Cg.sm (g := fun _ => 0) fun b hb => ?_) (Cg.of (sm_zero _))) (Cg.of (sm_zero _))
  refine (Cg.mul (Cg.mul .rfl (vmk_cg _ hb)) .rfl).trans (Cg.of ?_)
  rw [Int.mul_zero, Int.zero_mul]
theorem FF.size : 2 ≤ P ^ lo.length := by
  have h1 := B.A.one
  have h2 := B.hP.two
  obtain ⟨k, hk⟩ : ∃ k, lo.length = k + 1 := ⟨lo.length - 1, by omega⟩
  rw [hk, Nat.pow_succ]
  have : 1 ≤ P ^ k := Nat.one_le_iff_ne_zero.mpr (Nat.pos_iff_ne_zero.mp (Nat.pow_pos (by omega)))
  calc 2 ≤ 1 * P := by omega
    _ ≤ P ^ k * P := Nat.mul_le_mul_right P this
theorem FF.idem {e : List Int} (he : Vc P lo.length e) (h : Mu P lo e e = e) : e = vzero P lo.length ∨ e = vone P lo.length := by
  have A := B.A
  have pe : ∀ n, vpow P lo e (n + 1) = e := fun n => by
    induction n with
    | zero => exact pow_1 A he
    | succ n ih => show Mu P lo (vpow P lo e (n + 1)) e = e; rw [ih, h]
  obtain ⟨n, hn⟩ : ∃ n, P = n + 1 := ⟨P - 1, by have := B.hP.two; omega⟩
  have hc := B.fix e he (by have := pe n; rw [← hn] at this; exact this)
  have hk := A.one
  obtain ⟨c0, c1⟩ := he.at (i := 0) (by omega)
  generalize hcc : at0 e ((0 : Nat) : Int) = c at c0 c1
  have all : ∀ v : Int, v = c → ∀ f : Nat → Int, (∀ i, i < lo.length → f i = if i = 0 then v else 0) → e = vmk P lo.length f := fun v hv f hf => by
    refine Vc.ext he (vmk_V A.prm.pos _ _) fun i hi => Cg.trans (Cg.of ?_) (vmk_cg _ hi).symm
    rw [hf i hi]
    by_cases h0 : i = 0
    · rw [if_pos h0, h0, hcc, hv]
    · rw [if_neg h0, hc i (by omega) hi]
  have ec : e = vsc P lo.length c (vone P lo.length) := by
    refine Vc.ext he (sc_V A _ _) fun i hi => Cg.trans ?_ (vmk_cg _ hi).symm
    refine Cg.trans (Cg.of ?_) (Cg.mul .rfl (vmk_cg _ hi).symm)
    by_cases h0 : i = 0
    · rw [if_pos h0, h0, hcc, Int.mul_one]
    · rw [if_neg h0, hc i (by omega) hi, Int.mul_zero]
  have e2 : Mu P lo e e = vsc P lo.length c e := by
    have := sc_Mu A c he
    rw [← ec] at this
    exact this.symm
  rw [h] at e2
  have e3 : Cg (P : Int) c (c * c) := by
    have a := vmk_cg (p := (P : Int)) (k := lo.length) (fun i => c * at0 e (i : Nat)) (i := 0) (by omega)
    have b : at0 e ((0 : Nat) : Int) = at0 (vsc P lo.length c e) ((0 : Nat) : Int) := by rw [← e2]
    rw [hcc] at b
    rw [hcc] at a
    rw [b]
    exact a.trans (Cg.of (by rw [← b]))
  obtain ⟨m, rfl⟩ : ∃ m : Nat, c = m := ⟨c.toNat, by omega⟩
  cases m with
  | zero => exact .inl (all 0 rfl _ fun i _ => by split <;> rfl)
  | succ m =>
    have d : P ∣ (m + 1) * m := by
      have := e3.symm
      unfold Cg at this
      rw [show ((m + 1 : Nat) : Int) * ((m + 1 : Nat) : Int) - ((m + 1 : Nat) : Int) = (((m + 1) * m : Nat) : Int) from by
        rw [Int.natCast_mul, Int.natCast_add, Int.natCast_one, Int.mul_add, Int.mul_one]; omega] at this
      exact Int.ofNat_dvd.mp this
    rcases B.hP.split d with d | d
    · exact absurd (Nat.le_of_dvd (by omega) d) (by omega)
    · cases m with
      | zero => exact .inr (all 1 rfl _ fun i _ => rfl)
      | succ m => exact absurd (Nat.le_of_dvd (by omega) d) (by omega)
theorem FF.unit {x : List Int} (hx : Vc P lo.length x) (h0 : x ≠ vzero P lo.length) : vpow P lo x (P ^ lo.length - 1) = vone P lo.length := by
  have A := B.A
  have hs := B.size
  have hq := B.q x hx
  have v := pow_V A hx (P ^ lo.length - 1)
  have e1 : Mu P lo (vpow P lo x (P ^ lo.length - 1)) x = x := by
    show vpow P lo x (P ^ lo.length - 1 + 1) = x
    rw [show P ^ lo.length - 1 + 1 = P ^ lo.length from by omega, hq]
  have e2 : Mu P lo (vpow P lo x (P ^ lo.length - 1)) (vpow P lo x (P ^ lo.length - 1)) = vpow P lo x (P ^ lo.length - 1) := by
    rw [← pow_add A hx, show P ^ lo.length - 1 + (P ^ lo.length - 1) = P ^ lo.length + (P ^ lo.length - 2) from by omega, pow_add A hx, hq, Mu_comm A.prm x]
    show vpow P lo x (P ^ lo.length - 2 + 1) = _
    rw [show P ^ lo.length - 2 + 1 = P ^ lo.length - 1 from by omega]
  rcases B.idem v e2 with z | z
  · rw [z, zero_Mu B hx] at e1
    exact absurd e1.symm h0
  · exact z
theorem FF.cancel {x y : List Int} (hx : Vc P lo.length x) (hy : Vc P lo.length y) (h : Mu P lo x y = vzero P lo.length) (h0 : x ≠ vzero P lo.length) : y = vzero P lo.length := by
  have A := B.A
  have hs := B.size
  have u := B.unit hx h0
  rw [show P ^ lo.length - 1 = P ^ lo.length - 2 + 1 from by omega] at u
  rw [← one_Mu A hy, ← u]
  show Mu P lo (Mu P lo (vpow P lo x (P ^ lo.length - 2)) x) y = _
  rw [Mu_assoc A (pow_V A hx _) hx hy, h, Mu_comm A.prm, zero_Mu B (pow_V A hx _)]
end
end Ev
set_option maxHeartbeats 1000000
/-! Ev, part AG: numbers as figures; what a caller reads off a run. -/
namespace Ev
open PySem PySem.Spec PyProof.Rows L2
theorem figs_V {p : Int} (hp : Prm p) (k : Nat) (a : Int) : Vc p k (figs p k a) := ⟨figs_len p k a, figs_fig hp k a⟩
theorem figs_numb {p : Int} (hp : 0 < p) {k : Nat} {x : List Int} (hx : Vc p k x) : figs p k (numb p x) = x := by
  have hl := hx.len
  refine ext_at (by rw [figs_len, hl]) fun t ht => ?_
  rw [figs_len] at ht
  rw [← numb_dig hp hx.fig t (by omega)]
  refine at0_of ?_
  unfold figs
  rw [List.getElem?_map, List.getElem?_range ht]; rfl
theorem numb_in {p : Int} (hp : 0 < p) {k : Nat} {x : List Int} (hx : Vc p k x) : 0 ≤ numb p x ∧ numb p x < p ^ k := by
  have := numb_pos hp hx.fig
  rwa [hx.len] at this
theorem numb_inj {p : Int} (hp : 0 < p) {k : Nat} {x y : List Int} (hx : Vc p k x) (hy : Vc p k y) (h : numb p x = numb p y) : x = y := by
  rw [← figs_numb hp hx, h, figs_numb hp hy]
theorem figs_inj {p : Int} (hp : Prm p) {k : Nat} {a b : Int} (a0 : 0 ≤ a) (a1 : a < p ^ k) (b0 : 0 ≤ b) (b1 : b < p ^ k) (h : figs p k a = figs p k b) : a = b := by
  rw [← numb_figs hp k a a0 a1, h, numb_figs hp k b b0 b1]
theorem figs_eq {p : Int} (hp : Prm p) {k : Nat} {x : Int} {f : Nat → Int} (h : ∀ i, i < k → x / p ^ i % p = f i % p) : figs p k x = vmk p k f := List.map_congr_left fun j hj => h j (List.mem_range.mp hj)
theorem figs_0 {p : Int} (hp : Prm p) (k : Nat) : figs p k 0 = vzero p k := figs_eq hp fun i _ => by rw [Int.zero_ediv]
theorem figs_1 {p : Int} (hp : Prm p) (h2 : 1 < p) (k : Nat) : figs p k 1 = vone p k := figs_eq hp fun i _ => by
  cases i with
  | zero => rw [Int.pow_zero, Int.ediv_one, if_pos rfl]
  | succ i =>
    rw [if_neg (by omega), Int.ediv_eq_zero_of_lt (by decide)]
    have : (1 : Int) ≤ p ^ i := Int.pow_pos hp.pos
    rw [Int.pow_succ]
    calc (1 : Int) < 1 * p := by omega
      _ ≤ p ^ i * p := Int.mul_le_mul_of_nonneg_right this (Int.le_of_lt hp.pos)
/-- [1], filled up -/
theorem pad_one {p : Int} (h2 : 1 < p) {k : Nat} (hk : 1 ≤ k) : (1 : Int) :: List.replicate (k - 1) 0 = vone p k := by
  obtain ⟨n, rfl⟩ : ∃ n, k = n + 1 := ⟨k - 1, by omega⟩
  refine ext_at (by unfold vone vmk; rw [List.length_cons, List.length_replicate, List.length_map, List.length_range]; omega) fun t ht => ?_
  have ht' : t < n + 1 := by rw [List.length_cons, List.length_replicate] at ht; omega
  unfold vone
  rw [vmk_at _ ht']
  cases t with
  | zero => rw [if_pos rfl, Int.emod_eq_of_lt (by decide) h2]; rfl
  | succ t =>
    rw [if_neg (by omega)]
    refine at0_of ?_
    rw [List.getElem?_cons_succ, List.getElem?_replicate, if_pos (by omega)]
    simp
/-! ### a field's product of numbers -/
def fmul (p : Int) (lo : List Int) (a b : Int) : Int := numb p (Mu p lo (figs p lo.length a) (figs p lo.length b))
def fpow (p : Int) (lo : List Int) (a : Int) (n : Nat) : Int := numb p (vpow p lo (figs p lo.length a) n)
section
variable {p : Int} {lo : List Int} (A : Fld p lo)
include A
theorem fmul_in (a b : Int) : 0 ≤ fmul p lo a b ∧ fmul p lo a b < p ^ lo.length := numb_in A.prm.pos (Mu_V A (figs_V A.prm _ a) (figs_V A.prm _ b))
theorem fpow_in (a : Int) (n : Nat) : 0 ≤ fpow p lo a n ∧ fpow p lo a n < p ^ lo.length := numb_in A.prm.pos (pow_V A (figs_V A.prm _ a) n)
theorem fmul_figs (a b : Int) : figs p lo.length (fmul p lo a b) = Mu p lo (figs p lo.length a) (figs p lo.length b) := figs_numb A.prm.pos (Mu_V A (figs_V A.prm _ a) (figs_V A.prm _ b))
theorem fpow_figs (a : Int) (n : Nat) : figs p lo.length (fpow p lo a n) = vpow p lo (figs p lo.length a) n := figs_numb A.prm.pos (pow_V A (figs_V A.prm _ a) n)
theorem fpow_succ (a : Int) (n : Nat) : fpow p lo a (n + 1) = fmul p lo (fpow p lo a n) a := by
  unfold fmul
  rw [fpow_figs A]; rfl
theorem fpow_zero (a : Int) : fpow p lo a 0 = 1 := by
  show numb p (vone p lo.length) = 1
  rw [← figs_1 A.prm A.two, numb_figs A.prm _ 1 (by decide)]
  obtain ⟨n, hn⟩ : ∃ n, lo.length = n + 1 := ⟨lo.length - 1, by have := A.one; omega⟩
  have : (1 : Int) ≤ p ^ n := Int.pow_pos A.prm.pos
  rw [hn, Int.pow_succ]
  calc (1 : Int) < 1 * p := by have := A.two; omega
    _ ≤ p ^ n * p := Int.mul_le_mul_of_nonneg_right this (Int.le_of_lt A.prm.pos)
theorem fpow_one {a : Int} (a0 : 0 ≤ a) (a1 : a < p ^ lo.length) : fpow p lo a 1 = a := by
  unfold fpow
  rw [pow_1 A (figs_V A.prm _ a), numb_figs A.prm _ a a0 a1]
theorem fmul_comm (a b : Int) : fmul p lo a b = fmul p lo b a := by unfold fmul; rw [Mu_comm A.prm]
theorem fmul_assoc (a b c : Int) : fmul p lo (fmul p lo a b) c = fmul p lo a (fmul p lo b c) := by
  unfold fmul
  rw [figs_numb A.prm.pos (Mu_V A (figs_V A.prm _ a) (figs_V A.prm _ b)), figs_numb A.prm.pos (Mu_V A (figs_V A.prm _ b) (figs_V A.prm _ c)), Mu_assoc A (figs_V A.prm _ a) (figs_V A.prm _ b) (figs_V A.prm _ c)]
theorem fpow_add (a : Int) (m n : Nat) : fpow p lo a (m + n) = fmul p lo (fpow p lo a m) (fpow p lo a n) := by
  unfold fmul
  rw [fpow_figs A, fpow_figs A, ← pow_add A (figs_V A.prm _ a)]; rfl
theorem fpow_mul (a : Int) (m n : Nat) : fpow p lo a (m * n) = fpow p lo (fpow p lo a m) n := by
  unfold fpow
  rw [figs_numb A.prm.pos (pow_V A (figs_V A.prm _ a) m), pow_mul A (figs_V A.prm _ a)]
theorem fpow_is1 (a : Int) (n : Nat) : fpow p lo a n = 1 ↔ vpow p lo (figs p lo.length a) n = vone p lo.length := by
  have e := fpow_zero A a
  refine ⟨fun h => ?_, fun h => ?_⟩
  · rw [← e] at h
    exact numb_inj A.prm.pos (pow_V A (figs_V A.prm _ a) n) (one_V A) h
  · unfold fpow
    rw [h]; exact e
theorem one_fpow (n : Nat) : fpow p lo 1 n = 1 := by
  rw [fpow_is1 A, figs_1 A.prm A.two, one_pow A]
end
theorem FF.fpow1 {P : Nat} {lo : List Int} (B : FF P lo) {a : Int} (a0 : 0 < a) (a1 : a < (P : Int) ^ lo.length) : fpow P lo a (P ^ lo.length - 1) = 1 := by
  rw [fpow_is1 B.A]
  refine B.unit (figs_V B.A.prm _ a) fun z => ?_
  rw [← figs_0 B.A.prm] at z
  have := figs_inj B.A.prm (Int.le_of_lt a0) a1 (Int.le_refl 0) (Int.pow_pos B.A.prm.pos) z
  omega
/-- numbers that are prime, by trying -/
theorem pri_of {P : Nat} (h2 : 2 ≤ P) (m : Nat) (hm : P < m * m) (h : ∀ d, 2 ≤ d → d < m → P % d ≠ 0) : Pri P := by
  refine ⟨h2, fun d hd => ?_⟩
  obtain ⟨e, rfl⟩ := hd
  by_cases d1 : d = 1
  · exact .inl d1
  by_cases e1 : e = 1
  · exact .inr (by rw [e1, Nat.mul_one])
  have d0 : d ≠ 0 := fun z => by rw [z, Nat.zero_mul] at h2; omega
  have e0 : e ≠ 0 := fun z => by rw [z, Nat.mul_zero] at h2; omega
  by_cases hd : d < m
  · exact absurd (Nat.mul_mod_right d e) (h d (by omega) hd)
  · by_cases he : e < m
    · exact absurd (by rw [Nat.mul_comm]; exact Nat.mul_mod_right e d) (h e (by omega) he)
    · exact absurd (Nat.mul_le_mul (Nat.le_of_not_lt hd) (Nat.le_of_not_lt he)) (by omega)
def priT (P m : Nat) : Bool := decide (2 ≤ P) && (decide (P < m * m) && (List.range m).all fun d => decide (d < 2) || P % d != 0)
theorem priT_ok {P m : Nat} (h : priT P m = true) : Pri P := by
  unfold priT at h
  rw [Bool.and_eq_true, Bool.and_eq_true] at h
  obtain ⟨a, b, c⟩ := h
  refine pri_of (of_decide_eq_true a) m (of_decide_eq_true b) fun d d2 dm => ?_
  have := List.all_eq_true.mp c d (List.mem_range.mpr dm)
  rw [Bool.or_eq_true] at this
  rcases this with q | q
  · exact absurd (of_decide_eq_true q) (by omega)
  · simpa using q
/-! ### the kernel's test of a field -/
def figT (p : Int) (lo : List Int) : Bool := decide (0 < p) && (decide (p < 1000000) && (decide (1 < p) && (lo.all (fun y => decide (0 ≤ y ∧ y < p)) && (decide (1 ≤ lo.length) && decide (lo.length ≤ 400)))))
theorem figT_ok {p : Int} {lo : List Int} (h : figT p lo = true) : Fld p lo := by
  unfold figT at h
  simp only [Bool.and_eq_true, decide_eq_true_eq] at h
  obtain ⟨a, b, c, d, e, f⟩ := h
  exact ⟨⟨a, b⟩, c, fun y hy => of_decide_eq_true (List.all_eq_true.mp d y hy), e, f⟩
def nthL (F : List (List Int)) (t : Nat) : List Int := F.getD t []
def frobT (P : Nat) (lo F1 : List Int) (F W : List (List Int)) : Bool :=
  decide (powW P lo 64 (vone P lo.length) (ev P lo 1) (P ^ lo.length : Nat) = ev P lo 1) && (decide (powW P lo 64 (vone P lo.length) (ev P lo 1) P = F1) && (decide (nthL F 0 = vone P lo.length) &&
    ((List.range lo.length).all (fun t => decide (lo.length ≤ t + 1) || decide (Mu P lo (nthL F t) F1 = nthL F (t + 1))) &&
     (List.range lo.length).all fun i => decide (i < 1) || (List.range lo.length).all fun t =>
       decide ((sm (fun j => at0 (nthL W i) (j : Nat) * (at0 (nthL F t) (j : Nat) - if j = t then 1 else 0)) lo.length - if i = t then 1 else 0) % (P : Int) = 0))))
theorem frobT_ok {P m : Nat} {lo F1 : List Int} {F W : List (List Int)} (h0 : figT P lo = true) (h1 : priT P m = true) (hq : P ^ lo.length < 2 ^ 64) (h : frobT P lo F1 F W = true) : FF P lo := by
  have A := figT_ok h0
  have hP := priT_ok h1
  unfold frobT at h
  simp only [Bool.and_eq_true, Bool.or_eq_true, decide_eq_true_eq, List.all_eq_true, List.mem_range] at h
  obtain ⟨a, b, c, d, e⟩ := h
  have hPq : P < 2 ^ 64 := Nat.lt_of_le_of_lt (by
    obtain ⟨n, hn⟩ : ∃ n, lo.length = n + 1 := ⟨lo.length - 1, by have := A.one; omega⟩
    rw [hn, Nat.pow_succ]
    exact Nat.le_mul_of_pos_left P (Nat.pow_pos (by have := hP.two; omega))) hq
  have k1 := powW_eq A 64 (P ^ lo.length) (one_V A) (ev_V A 1) hq
  have k2 := powW_eq A 64 P (one_V A) (ev_V A 1) hPq
  rw [one_Mu A (pow_V A (ev_V A 1) _)] at k1 k2
  rw [a] at k1
  rw [b] at k2
  have hF : ∀ t, t < lo.length → vpow P lo (ev P lo t) P = nthL F t := fun t => by
    have e1 : ∀ t, vpow P lo (ev P lo t) P = vpow P lo F1 t := fun t => by
      rw [k2, ← ev_pow A t, ← pow_mul A (ev_V A 1), Nat.mul_comm, pow_mul A (ev_V A 1)]
    rw [e1]
    induction t with
    | zero => exact fun _ => c.symm
    | succ t ih =>
      intro ht
      show Mu P lo (vpow P lo F1 t) F1 = _
      rw [ih (by omega)]
      rcases d t (by omega) with z | z
      · omega
      · exact z
  refine ⟨A, hP, fun x hx => pow_size A hP rfl k1.symm hx, fun x hx hf i h1 hi => fix_const A hP rfl (fun i j => at0 (nthL W i) (j : Nat)) (fun i h1 hi t ht => ?_) hx hf h1 hi⟩
  rcases e i hi with z | z
  · omega
  · have := z t ht
    rw [hF t ht]
    exact Int.dvd_of_emod_eq_zero this
end Ev
set_option maxHeartbeats 1000000
/-! Ev, part AH: bodies of fields' defs, over any callees. -/
namespace Ev
open PySem PySem.Spec PyProof.Rows L2
variable {c : Cfg}
theorem rem1_body {p : Int} {lo : List Int} (A : Fld p lo) :
    ∃ h', remB.den c [some (.int p), some (.tup (lo.map .int)), some (.lst [.int 1]), none, none, none, none, none, none] [] = .ret (.lst ((vone p lo.length).map .int)) h' := by
  have hN := LN_eq
  have k1 := A.one
  have k2 := A.few
  have e1 := pad_one A.two k1
  have a1 : -(LN : Int) ≤ (lo.length : Int) - 1 := by omega
  have a2 : (lo.length : Int) - 1 ≤ (LN : Int) := by omega
  have a3 : ((lo.length : Int) - 1).toNat = lo.length - 1 := by omega
  have a4 : lo.length - 1 ≤ LN := by omega
  have a6 : lo.length - 1 + 1 ≤ LN := by omega
  have nf : ∀ h, newL false (D.int 1 :: (List.replicate (lo.length - 1) (0 : Int)).map D.int) h = .ok (.ref h.length) (h ++ [.lst ((vone p lo.length).map .int)]) := fun h => by
    rw [← e1]
    exact new_cell (by rw [List.length_cons, List.length_map, List.length_replicate]; omega)
  have lv : (vone p lo.length).length = lo.length := (one_V A).len
  have hsl : sliceD true (.ref 0) none (some (lo.length : Int)) [.lst ((vone p lo.length).map D.int)] = .ok (.lst ((vone p lo.length).map .int)) [.lst ((vone p lo.length).map D.int)] := by
    show newL true (cutD ((vone p lo.length).map D.int) none (some (lo.length : Int))) _ = _
    rw [cut_all (by rw [List.length_map, lv]; exact Nat.le_refl _), new_fz (by rw [List.length_map, lv]; omega)]
  have a5 : -(LN : Int) ≤ (lo.length : Int) - 1 ∧ (lo.length : Int) - 1 ≤ (LN : Int) := by omega
  refine ⟨[.lst ((vone p lo.length).map .int)], ?_⟩
  unfold remB
  simp only [List.map_replicate] at nf
  simp [rep_zero, a1, a2, a3, new_fz, a4, nf, lv, forD, hsl]
/-! ### a power by squares -/
def raiL2 : Sms := .cons (.aug 3 .fdiv (.cint 2)) .nil
def raiL1 (iR iM : Nat) : Sms := .cons (.set 2 (.call iR (.cons (.var 0) (.cons (.var 1) (.cons (.call iM (.cons (.var 0) (.cons (.var 2) (.cons (.var 2) .nil)))) .nil))))) raiL2
def raiO (iR iM : Nat) : Sms := .cons (.set 4 (.call iR (.cons (.var 0) (.cons (.var 1) (.cons (.call iM (.cons (.var 0) (.cons (.var 4) (.cons (.var 2) .nil)))) .nil))))) .nil
def raiL0 (iR iM : Nat) : Sms := .cons (.ite (.cmp .eq (.bin .mod true (.var 3) (.cint 2)) (.cint 1)) (raiO iR iM) .nil) (raiL1 iR iM)
def raiB2 : Sms := .cons (.ret (.var 4)) .nil
def raiB1 (iR iM : Nat) : Sms := .cons (.while (.cmp .gt (.var 3) (.cint 0)) (raiL0 iR iM)) raiB2
def raiB (iR iM : Nat) : Sms := .cons (.set 4 (.call iR (.cons (.var 0) (.cons (.var 1) (.cons (.lst true (.cons (.cint 1) .nil)) .nil))))) (raiB1 iR iM)
abbrev raiE (p : Int) (lo f g : List Int) (s : Nat) : Env := [some (.int p), some (.tup (lo.map .int)), some (.lst (g.map .int)), some (.int (s : Nat)), some (.lst (f.map .int))]
structure RaiP (p : Int) (lo goal : List Int) (m : Nat) (ρ : Env) (h : Hs) : Prop where
  ex : ∃ (f g : List Int), ρ = raiE p lo f g m ∧ h = [] ∧ Vc p lo.length f ∧ Vc p lo.length g ∧ Mu p lo f (vpow p lo g m) = goal
theorem rai_body {p : Int} {lo : List Int} (A : Fld p lo) {x : List Int} (hx : Vc p lo.length x) (t : Nat) (ht : t < c.F) {iR iM : Nat}
    (h1 : ∀ h, c.Γ iR [.int p, .tup (lo.map .int), .lst [.int 1]] h = .ok (.lst ((vone p lo.length).map .int)) h)
    (hm : ∀ x y, Vc p lo.length x → Vc p lo.length y → ∀ h, c.Γ iM [.int p, .lst (x.map .int), .lst (y.map .int)] h = .ok (.lst ((mulL p x y).map .int)) h)
    (hr : ∀ x y, Vc p lo.length x → Vc p lo.length y → ∀ h, c.Γ iR [.int p, .tup (lo.map .int), .lst ((mulL p x y).map .int)] h = .ok (.lst ((Mu p lo x y).map .int)) h) :
    ∃ h', (raiB iR iM).den c [some (.int p), some (.tup (lo.map .int)), some (.lst (x.map .int)), some (.int (t : Nat)), none] [] = .ret (.lst ((vpow p lo x t).map .int)) h' := by
  obtain ⟨ρ', h', e, f, g, rfl, rfl, vf, vg, q⟩ := whileD_rel (c := (Ex.dt c (.cmp .gt (.var 3) (.cint 0))).2) (b := Sms.den c (raiL0 iR iM)) (RaiP p lo (vpow p lo x t)) c.F t (raiE p lo (vone p lo.length) x t) [] ht
    ⟨⟨vone p lo.length, x, rfl, rfl, one_V A, hx, one_Mu A (pow_V A hx t)⟩⟩ (fun m ρ h ⟨f, g, e1, e2, vf, vg, q⟩ => by
      subst e1 e2
      by_cases hm0 : m = 0
      · refine .inl ⟨[], ?_, rfl, hm0⟩
        subst hm0
        simp [raiE]
      · have hpos : (0 : Int) < (m : Nat) := by omega
        have hd : ((m : Nat) : Int) / 2 = ((m / 2 : Nat) : Int) := by omega
        have e2 : vpow p lo (Mu p lo g g) (m / 2) = vpow p lo g (2 * (m / 2)) := by
          rw [pow_mul A vg]
          congr 1
          show _ = Mu p lo (vpow p lo g 1) g
          rw [pow_1 A vg]
        have m1 := hm g g vg vg
        have r1 := hr g g vg vg
        by_cases ho : ((m : Nat) : Int) % 2 = 1
        · have m2 := hm f g vf vg
          have r2 := hr f g vf vg
          refine .inr ⟨[], raiE p lo (Mu p lo f g) (Mu p lo g g) (m / 2), [], m / 2, by simp [raiE]; omega, .inl ?_, by omega, ⟨⟨_, _, rfl, rfl, Mu_V A vf vg, Mu_V A vg vg, ?_⟩⟩⟩
          · unfold raiL0
            simp [raiE, bin_mod, ho]
            unfold raiO
            simp [m2, r2]
            unfold raiL1
            simp [m1, r1]
            unfold raiL2
            simp [aug_fdiv]
          · rw [e2, Mu_assoc A vf vg (pow_V A vg _), ← q]
            congr 1
            rw [show m = 1 + 2 * (m / 2) from by omega, pow_add A vg, pow_1 A vg, show (1 + 2 * (m / 2)) / 2 = m / 2 from by omega]
        · refine .inr ⟨[], raiE p lo f (Mu p lo g g) (m / 2), [], m / 2, by simp [raiE]; omega, .inl ?_, by omega, ⟨⟨_, _, rfl, rfl, vf, Mu_V A vg vg, ?_⟩⟩⟩
          · unfold raiL0
            simp [raiE, bin_mod, ho]
            unfold raiL1
            simp [m1, r1]
            unfold raiL2
            simp [aug_fdiv]
          · rw [e2, ← q]
            congr 2
            omega)
  have q' : f = vpow p lo x t := by rw [← q]; exact (Mu_one A vf).symm
  subst q'
  refine ⟨[], ?_⟩
  unfold raiB
  simp [h1]
  unfold raiB1
  simp only [raiE] at e
  simp
  rw [e]
  unfold raiB2
  simp
/-! ### sizes -/
def sizL : Sms := .cons (.aug 2 .mul (.var 0)) .nil
def sizB2 : Sms := .cons (.ret (.var 2)) .nil
def sizB : Sms := .cons (.set 2 (.cint 1)) (.cons (.for (.name 3) (.range (.cons (.var 1) .nil)) sizL) sizB2)
def lszL : Sms := .cons (.set 2 (.bin .mul true (.var 2) (.var 0))) .nil
def lszB : Sms := .cons (.set 2 (.cint 1)) (.cons (.for (.name 3) (.range (.cons (.var 1) .nil)) lszL) sizB2)
theorem siz_any {L : Sms} {p : Int} (hp : Prm p) (k : Nat) (hk : k ≤ 400) (hL : ∀ (s : Int) (t : Option D), L.den c [some (.int p), some (.int k), some (.int s), t] [] = .nx [some (.int p), some (.int k), some (.int (s * p)), t] []) :
    ∃ h', (Sms.cons (.set 2 (.cint 1)) (.cons (.for (.name 3) (.range (.cons (.var 1) .nil)) L) sizB2)).den c [some (.int p), some (.int k), none, none] [] = .ret (.int (p ^ k)) h' := by
  obtain ⟨ρ', h', e, t, rfl, rfl⟩ := for_rng (c := c) (b := L.den c) (i := 3) k (fun j ρ h => ∃ t : Option D, ρ = [some (.int p), some (.int k), some (.int (p ^ j)), t] ∧ h = [])
    (ρ := [some (.int p), some (.int k), some (.int 1), none]) (h := []) ⟨none, by rw [Int.pow_zero], rfl⟩ (fun j ρ h hj ⟨t, e1, e2⟩ => by
      subst e1 e2
      exact ⟨by simp, _, _, hL (p ^ j) _, ⟨_, by rw [Int.pow_succ], rfl⟩⟩)
  have hm : -(LN : Int) ≤ (k : Int) ∧ (k : Int) ≤ (LN : Int) := by rw [LN_eq]; omega
  refine ⟨[], ?_⟩
  simp [hm]
  rw [e]
  unfold sizB2
  simp
theorem siz_body {p : Int} (hp : Prm p) (k : Nat) (hk : k ≤ 400) : ∃ h', sizB.den c [some (.int p), some (.int k), none, none] [] = .ret (.int (p ^ k)) h' := by
  obtain ⟨hp0, hp1⟩ := id hp
  have q1 : -18446744073709551616 < p := by omega
  have q2 : p < 18446744073709551616 := by omega
  exact siz_any hp k hk fun s t => by
    unfold sizL
    simp [aug_mul, q1, q2]
theorem lsz_body {p : Int} (hp : Prm p) (k : Nat) (hk : k ≤ 400) : ∃ h', lszB.den c [some (.int p), some (.int k), none, none] [] = .ret (.int (p ^ k)) h' := by
  obtain ⟨hp0, hp1⟩ := id hp
  have q1 : -18446744073709551616 < p := by omega
  have q2 : p < 18446744073709551616 := by omega
  exact siz_any hp k hk fun s t => by
    unfold lszL
    simp [bin_mul, q1, q2]
/-! ### primes by trying -/
def iprL1 : Sms := .cons (.aug 1 .add (.cint 1)) .nil
def iprF : Sms := .cons (.ret (.cbl false)) .nil
def iprL : Sms := .cons (.ite (.cmp .eq (.bin .mod true (.var 0) (.var 1)) (.cint 0)) iprF .nil) iprL1
def iprB2 : Sms := .cons (.ret (.cmp .gt (.var 0) (.cint 1))) .nil
def iprB : Sms := .cons (.set 1 (.cint 2)) (.cons (.while (.cmp .le (.bin .mul true (.var 1) (.var 1)) (.var 0)) iprL) iprB2)
theorem ipr_body {P : Nat} (hP : Pri P) {p : Int} (hp : p = P) (hb : p < 1000000) (hF : P + 2 < c.F) : ∃ h', iprB.den c [some (.int p), none] [] = .ret (.bl true) h' := by
  have h2 := hP.two
  obtain ⟨ρ', h', e, d, rfl, rfl, _⟩ := whileD_rel (c := (Ex.dt c (.cmp .le (.bin .mul true (.var 1) (.var 1)) (.var 0))).2) (b := Sms.den c iprL) (fun m ρ h => ∃ d : Int, ρ = [some (.int p), some (.int d)] ∧ h = [] ∧ 2 ≤ d ∧ d ≤ p + 1 ∧ m = if d * d ≤ p then (p + 1 - d).toNat else 0)
    c.F (if (2 : Int) * 2 ≤ p then (p + 1 - 2).toNat else 0) [some (.int p), some (.int 2)] [] (by split <;> omega) ⟨2, rfl, rfl, by omega, by omega, rfl⟩ (fun m ρ h ⟨d, e1, e2, d2, d3, hm⟩ => by
      subst e1 e2
      obtain ⟨w, hw⟩ : ∃ w : Int, w = d * d := ⟨_, rfl⟩
      have bm : ∀ h, binD .mul true (.int d) (.int d) h = .ok (.int w) h := fun h => by rw [hw]; exact bin_mul (.inl ⟨by omega, by omega⟩)
      by_cases hc : d * d ≤ p
      · rw [if_pos hc] at hm
        have hlt : d < p := by
          have : 2 * d ≤ d * d := Int.mul_le_mul_of_nonneg_right d2 (by omega)
          omega
        have hdv : ¬(p % d = 0) := fun z => by
          obtain ⟨n, rfl⟩ : ∃ n : Nat, d = n := ⟨d.toNat, by omega⟩
          rw [hp] at z
          have : n ∣ P := Int.ofNat_dvd.mp (Int.dvd_of_emod_eq_zero z)
          rcases hP.dv n this with q | q <;> omega
        have hc' : w ≤ p := by rw [hw]; exact hc
        refine .inr ⟨[], [some (.int p), some (.int (d + 1))], [], if (d + 1) * (d + 1) ≤ p then (p + 1 - (d + 1)).toNat else 0, ?_, .inl ?_, by split <;> omega, ⟨d + 1, rfl, rfl, by omega, by omega, rfl⟩⟩
        · simp [bm, hc']
        · have q3 : ∀ h, binD .mod true (.int p) (.int d) h = .ok (.int (p % d)) h := fun h => bin_mod (by omega)
          have q4 : p % d ≠ 0 := hdv
          generalize p % d = w at q3 q4
          unfold iprL
          simp [q3, q4]
          unfold iprL1
          simp
      · rw [if_neg hc] at hm
        refine .inl ⟨[], ?_, rfl, hm⟩
        have hc' : ¬w ≤ p := by rw [hw]; exact hc
        simp [bm, hc'])
  refine ⟨[], ?_⟩
  unfold iprB
  simp
  rw [e]
  have q : (1 : Int) < p := by omega
  unfold iprB2
  simp [q]
/-! ### drawn elements, small fields -/
def eltL : Sms := .cons (.set 3 (.bin .add true (.bin .mul true (.var 3) (.cint 1009)) (.idx (.var 0) (.bin .add true (.var 1) (.var 4))))) .nil
def eltB2 : Sms := .cons (.ret (.bin .mod true (.prim .intOf true (.cons (.var 3) .nil)) (.var 2))) .nil
def eltB : Sms := .cons (.set 3 (.cint 0)) (.cons (.for (.name 4) (.range (.cons (.cint 6) .nil)) eltL) eltB2)
theorem elt_body {ks : List Int} {at' size : Int} (h0 : 0 ≤ at') (h1 : at' + 6 ≤ ks.length) (hs : 0 < size) : ∃ a, 0 ≤ a ∧ a < size ∧ ∃ h', eltB.den c [some (.lst (ks.map .int)), some (.int at'), some (.int size), none, none] [] = .ret (.int a) h' := by
  obtain ⟨ρ', h', e, t, u, rfl, rfl⟩ := for_rng (c := c) (b := Sms.den c eltL) (i := 4) 6 (fun j ρ h => ∃ (t : Int) (u : Option D), ρ = [some (.lst (ks.map .int)), some (.int at'), some (.int size), some (.int t), u] ∧ h = [])
    (ρ := [some (.lst (ks.map .int)), some (.int at'), some (.int size), some (.int 0), none]) (h := []) ⟨0, none, rfl, rfl⟩ (fun j ρ h hj ⟨t, u, e1, e2⟩ => by
      subst e1 e2
      refine ⟨by simp, [some (.lst (ks.map .int)), some (.int at'), some (.int size), some (.int (t * 1009 + at0 ks (at' + j))), some (.int j)], [], ?_, ⟨_, _, rfl, rfl⟩⟩
      have q := idx_l (xs := ks) (k := at' + j) (h := []) (by omega) (by omega)
      unfold eltL
      simp [bin_mul, q])
  refine ⟨t % size, Int.emod_nonneg _ (by omega), Int.emod_lt_of_pos _ hs, [], ?_⟩
  have m : -(LN : Int) ≤ 6 ∧ (6 : Int) ≤ LN := by rw [LN_eq]; decide
  unfold eltB
  simp [m]
  rw [e]
  unfold eltB2
  simp [bin_mod, hs]
def sfl : List (Int × Int) := [(2, 1), (2, 2), (2, 3), (3, 2), (2, 4), (5, 2), (3, 3), (7, 1), (2, 5), (7, 2), (11, 1), (3, 4), (13, 2), (2, 6), (5, 3), (97, 1)]
def prD (q : Int × Int) : D := .tup [.int q.1, .int q.2]
/-- a written table of pairs, read at a place -/
theorem tab_at {T : List (Int × Int)} {j : Nat} (hj : j < T.length) (h : Hs) : idxD (.lst (T.map prD)) (.int (j : Nat)) h = .ok (prD (T[j]'hj)) h := by
  show (match atI (T.map prD) (j : Int) with | some v => Ev.R.ok v h | none => .stuck) = _
  have e : atI (T.map prD) (j : Int) = some (prD (T[j]'hj)) := by
    unfold atI
    rw [List.length_map, ix_ok (by omega) (by omega)]
    show (T.map prD)[((j : Nat) : Int).toNat]? = _
    rw [Int.toNat_natCast, List.getElem?_map, List.getElem?_eq_getElem hj]
    rfl
  rw [e]
def exD (q : Int × Int) : Ex := .tup (.cons (.cint q.1) (.cons (.cint q.2) .nil))
def exsD : List (Int × Int) → Exs
  | [] => .nil
  | q :: qs => .cons (exD q) (exsD qs)
theorem exsD_den (ρ : Env) (h : Hs) : ∀ T : List (Int × Int), (exsD T).den c ρ h = .ok (T.map prD) h
  | [] => rfl
  | q :: qs => by
    have l2 : 2 ≤ LN := by rw [LN_eq]; decide
    show (Exs.cons (exD q) (exsD qs)).den c ρ h = _
    rw [dens_cons]
    unfold exD
    simp [l2, exsD_den ρ h qs]
    rfl
def sflB2 : Sms := .cons (.ret (.idx (.var 2) (.bin .mod true (.prim .intOf true (.cons (.idx (.var 0) (.var 1)) .nil)) (.cint 16)))) .nil
def sflB : Sms := .cons (.set 2 (.lst true (exsD sfl))) sflB2
theorem sfl_body {ks : List Int} (h1 : 1 ≤ ks.length) : ∃ q ∈ sfl, (prD q).pure = true ∧ ∃ h', sflB.den c [some (.lst (ks.map .int)), some (.int 0), none] [] = .ret (prD q) h' := by
  obtain ⟨j, hj⟩ : ∃ j : Nat, at0 ks 0 % 16 = (j : Int) := ⟨(at0 ks 0 % 16).toNat, (Int.toNat_of_nonneg (Int.emod_nonneg _ (by omega))).symm⟩
  have hj16 : j < sfl.length := by have := Int.emod_lt_of_pos (at0 ks 0) (b := 16) (by omega); show j < 16; omega
  refine ⟨sfl[j]'hj16, List.getElem_mem _, rfl, [], ?_⟩
  have q := idx_l (xs := ks) (k := 0) (h := []) (by omega) (by omega)
  have nf : ∀ h, newL true (sfl.map prD) h = .ok (.lst (sfl.map prD)) h := fun h => new_fz (by rw [LN_eq]; decide)
  unfold sflB
  simp [exsD_den, nf]
  unfold sflB2
  simp [q, bin_mod, hj, tab_at hj16]
end Ev
set_option maxHeartbeats 1000000
/-! Ev, part AI: loops that end early; orders of elements. -/
namespace Ev
open PySem PySem.Spec PyProof.Rows L2
/-- what a loop makes of a turn's end -/
def Out.done : Out → Option Out
  | .ret d h => some (.ret d h)
  | .brk ρ h => some (.nx ρ h)
  | .exc x p ρ h => some (.exc x p ρ h)
  | _ => none
/-- a loop that ends at item J -/
theorem forD_stop {g : D → Env → Hs → Out} {b : Env → Hs → Out} (R : Nat → Env → Hs → Prop) (F : Out → Prop) {x : D} : ∀ (xs : List D) (J i : Nat) (ρ : Env) (h : Hs), xs[J]? = some x → R i ρ h →
    (∀ j y ρ h, j < J → xs[j]? = some y → R (i + j) ρ h → ∃ ρ1 h1 ρ' h', g y ρ h = .nx ρ1 h1 ∧ (b ρ1 h1 = .nx ρ' h' ∨ b ρ1 h1 = .cnt ρ' h') ∧ R (i + j + 1) ρ' h') →
    (∀ ρ h, R (i + J) ρ h → ∃ ρ1 h1 o, g x ρ h = .nx ρ1 h1 ∧ (b ρ1 h1).done = some o ∧ F o) → ∃ o, forD g b xs ρ h = o ∧ F o
  | [], J, _, _, _, hx, _, _, _ => by cases hx
  | y :: xs, 0, i, ρ, h, hx, r, _, hf => by
    cases hx
    obtain ⟨ρ1, h1, o, e1, e2, f⟩ := hf ρ h r
    refine ⟨o, ?_, f⟩
    unfold forD
    rw [e1]
    dsimp only
    cases q : b ρ1 h1 with
    | nx _ _ => rw [q] at e2; cases e2
    | cnt _ _ => rw [q] at e2; cases e2
    | stuck => rw [q] at e2; cases e2
    | ret d h => rw [q] at e2; cases e2; rfl
    | brk d h => rw [q] at e2; cases e2; rfl
    | exc _ _ _ _ => rw [q] at e2; cases e2; rfl
  | y :: xs, J + 1, i, ρ, h, hx, r, hs, hf => by
    obtain ⟨ρ1, h1, ρ2, h2, e1, e2, r2⟩ := hs 0 y ρ h (by omega) rfl r
    obtain ⟨o, e, f⟩ := forD_stop (g := g) (b := b) R F xs J (i + 1) ρ2 h2 (by simpa using hx) r2 (fun j z ρ h hj hz hr => by
      have := hs (j + 1) z ρ h (by omega) (by simpa using hz) (by rw [show i + (j + 1) = i + 1 + j from by omega]; exact hr)
      rw [show i + (j + 1) = i + 1 + j from by omega] at this
      exact this) (fun ρ h hr => hf ρ h (by rw [show i + (J + 1) = i + 1 + J from by omega]; exact hr))
    refine ⟨o, ?_, f⟩
    unfold forD
    rw [e1]
    rcases e2 with e2 | e2
    · simp only [e2]; exact e
    · simp only [e2]; exact e
/-- a range from a on -/
def rngL (a n : Nat) : List D := (List.range n).map fun k => D.int ((a : Int) + (k : Nat))
theorem rng_at {a n j : Nat} (h : j < n) : ((List.range n).map fun k => D.int ((a : Int) + (k : Nat)))[j]? = some (.int ((a : Int) + (j : Nat))) := by
  rw [List.getElem?_map, List.getElem?_range h]; rfl
/-! ### texts of numbers -/
theorem log_small {i : Int} (h0 : 0 ≤ i) (h1 : i < 1000000) : i.natAbs.log2 < 21 := by
  obtain ⟨n, rfl⟩ : ∃ n : Nat, i = n := ⟨i.toNat, by omega⟩
  rw [Int.natAbs_natCast]
  by_cases hn : n = 0
  · subst hn; decide
  · rw [Nat.log2_lt hn]
    omega
theorem pr_repr {fz : Bool} {i : Int} {h : Hs} (h0 : 0 ≤ i) (h1 : i < 1000000) : primD .repr fz [.int i] h = .ok (.str (toString i)) h := by
  have l := log_small h0 h1
  have e : (PyData.int i).shown = Str.ofString (toString i) := by simp only [PyData.shown]
  refine (if_pos ⟨by simp only [PyData.hasDict], by simp only [PyData.showable]; exact decide_eq_true (by omega), by simp [PyData.depth], ?_⟩).trans (by rw [e])
  rw [e, PySem.ofString_length]
  have := int_text_length_le (a := i) (k := 21) (by decide) l
  rw [LN_eq]
  omega
theorem pr_reprN {fz : Bool} {h : Hs} : primD .repr fz [.non] h = .ok (.str "None") h := by
  have e : PyData.none.shown = Str.ofString "None" := by simp only [PyData.shown]
  show (if PyData.none.hasDict = false ∧ PyData.none.showable = true ∧ PyData.none.depth ≤ 64 ∧ PyData.none.shown.length ≤ LN then R.ok (D.str PyData.none.shown) h else .stuck) = _
  rw [if_pos ⟨by simp only [PyData.hasDict], by simp only [PyData.showable], by simp [PyData.depth], by rw [e, LN_eq]; decide⟩, e]
theorem cmp_eqS {a b : Str} {h : Hs} : cmpD .eq (.str a) (.str b) h = .ok (.bl (a == b)) h := rfl
theorem cmp_neS {a b : Str} {h : Hs} : cmpD .ne (.str a) (.str b) h = .ok (.bl (!(a == b))) h := rfl
/-- one text twice -/
theorem cmp_same (x : Str) (h : Hs) : cmpD .eq (.str x) (.str x) h = .ok (.bl true) h := by
  rw [cmp_eqS]
  simp
theorem cmp_nsame (x : Str) (h : Hs) : cmpD .ne (.str x) (.str x) h = .ok (.bl false) h := by
  rw [cmp_neS]
  simp
/-! ### the order of an element -/
theorem least {Q : Nat → Prop} : ∀ {n : Nat}, Q n → ∃ m, Q m ∧ ∀ k, k < m → ¬Q k := fun {n} => by
  induction n using Nat.strongRecOn with
  | _ n ih =>
    intro h
    by_cases e : ∃ k, k < n ∧ Q k
    · obtain ⟨k, hk, q⟩ := e
      exact ih k hk q
    · exact ⟨n, h, fun k hk q => e ⟨k, hk, q⟩⟩
/-- T is the first number of times at which 1 is met -/
structure Ord (p : Int) (lo : List Int) (a : Int) (T : Nat) : Prop where
  pos : 0 < T
  one : fpow p lo a T = 1
  first : ∀ m, 0 < m → m < T → fpow p lo a m ≠ 1
section
variable {p : Int} {lo : List Int} (A : Fld p lo)
include A
theorem Ord.dvd {a : Int} {T : Nat} (O : Ord p lo a T) {m : Nat} : fpow p lo a m = 1 ↔ T ∣ m := by
  have key : fpow p lo a m = fpow p lo a (m % T) := by
    rw [show m = T * (m / T) + m % T from (Nat.div_add_mod m T).symm, fpow_add A, fpow_mul A, O.one, one_fpow A]
    have := fpow_figs A a ((T * (m / T) + m % T) % T)
    rw [Nat.mul_add_mod, Nat.mod_mod]
    unfold fmul
    rw [figs_1 A.prm A.two, fpow_figs A, one_Mu A (pow_V A (figs_V A.prm _ a) _)]
    rfl
  rw [key]
  refine ⟨fun h => ?_, fun h => ?_⟩
  · refine Nat.dvd_of_mod_eq_zero (Classical.byContradiction fun z => ?_)
    exact O.first _ (Nat.pos_of_ne_zero z) (Nat.mod_lt _ O.pos) h
  · rw [Nat.mod_eq_zero_of_dvd h]; exact fpow_zero A a
omit A in
theorem Ord.uniq {a : Int} {S T : Nat} (O : Ord p lo a S) (Q : Ord p lo a T) : S = T := by
  rcases Nat.lt_trichotomy S T with h | h | h
  · exact absurd O.one (Q.first S O.pos h)
  · exact h
  · exact absurd Q.one (O.first T Q.pos h)
omit A in
theorem ord_ex {a : Int} {n : Nat} (h0 : 0 < n) (h : fpow p lo a n = 1) : ∃ T, Ord p lo a T := by
  obtain ⟨m, hm, hf⟩ := least (Q := fun n => 0 < n ∧ fpow p lo a n = 1) (n := n) ⟨h0, h⟩
  exact ⟨m, hm.1, hm.2, fun k k0 hk e => hf k hk ⟨k0, e⟩⟩
end
/-- what the program's loop over prime divisors keeps -/
structure OrdG (p : Int) (lo : List Int) (a : Int) (T : Nat) (N o : Int) : Prop where
  pos : 0 < o
  up : (T : Int) ∣ o
  dn : o ∣ N
def OrdQ (p : Int) (lo : List Int) (a q o : Int) : Prop := o % q = 0 ∧ fpow p lo a (o / q).toNat = 1
section
variable {p : Int} {lo : List Int} (A : Fld p lo) {a : Int} {T : Nat} (O : Ord p lo a T) {N : Int}
include A O
theorem OrdG.div {o q : Int} (g : OrdG p lo a T N o) (hq : 0 < q) (h : OrdQ p lo a q o) : OrdG p lo a T N (o / q) := by
  obtain ⟨h1, h2⟩ := h
  have d : q ∣ o := Int.dvd_of_emod_eq_zero h1
  obtain ⟨e, rfl⟩ := d
  have gp := g.pos
  rw [Int.mul_ediv_cancel_left _ (by omega)] at h2 ⊢
  have ep : 0 < e := Int.pos_of_mul_pos_right gp hq
  refine ⟨ep, ?_, Int.dvd_trans (Int.dvd_mul_left _ _) g.dn⟩
  have := (O.dvd A).mp h2
  rw [← Int.toNat_of_nonneg (Int.le_of_lt ep)]
  exact Int.ofNat_dvd.mpr this
theorem OrdQ.up {o o' q : Int} (hq : 0 < q) (ho : 0 < o) (ho' : 0 < o') (d : o' ∣ o) (h : OrdQ p lo a q o') : OrdQ p lo a q o := by
  obtain ⟨h1, h2⟩ := h
  obtain ⟨e, rfl⟩ := Int.dvd_of_emod_eq_zero h1
  obtain ⟨f, rfl⟩ := d
  have ep : 0 < e := Int.pos_of_mul_pos_right ho' hq
  have fp : 0 < f := Int.pos_of_mul_pos_right ho ho'
  rw [Int.mul_ediv_cancel_left _ (by omega)] at h2
  refine ⟨by rw [Int.mul_assoc]; exact Int.mul_emod_right _ _, ?_⟩
  rw [Int.mul_assoc, Int.mul_ediv_cancel_left _ (by omega), Int.toNat_mul (Int.le_of_lt ep) (Int.le_of_lt fp), fpow_mul A, h2, one_fpow A]
theorem ord_end {ds : List Int} {o : Int} (hd : ∀ t : Int, 1 < t → t ∣ N → ∃ q ∈ ds, q ∣ t) (hp : ∀ q ∈ ds, 0 < q) (g : OrdG p lo a T N o) (h : ∀ q ∈ ds, ¬OrdQ p lo a q o) : o = T := by
  obtain ⟨t, ht⟩ := g.up
  have tp : 0 < t := Int.pos_of_mul_pos_right (ht ▸ g.pos) (by have := O.pos; omega)
  by_cases h1 : 1 < t
  · obtain ⟨q, hq, e, he⟩ := hd t h1 (Int.dvd_trans ⟨(T : Int), by rw [ht, Int.mul_comm]⟩ g.dn)
    have qp := hp q hq
    refine absurd ?_ (h q hq)
    have e1 : o = q * (T * e) := by rw [ht, he]; simp only [Int.mul_left_comm]
    have ep : 0 < e := Int.pos_of_mul_pos_right (he ▸ tp) qp
    refine ⟨by rw [e1]; exact Int.mul_emod_right _ _, ?_⟩
    rw [e1, Int.mul_ediv_cancel_left _ (by omega), (O.dvd A), Int.toNat_mul (by omega) (by omega), Int.toNat_natCast]
    exact Nat.dvd_mul_right _ _
  · have : t = 1 := by omega
    rw [ht, this, Int.mul_one]
end
/-- the prime divisors, by trying -/
def divT (N : Nat) (ds : List Int) : Bool := (List.range (N + 1)).all (fun t => decide (t < 2) || (N % t != 0 || ds.any fun q => decide (((t : Nat) : Int) % q = 0))) && ds.all fun q => decide (1 < q ∧ q < 1073741824)
theorem divT_ok {N : Nat} {ds : List Int} (hN : 0 < N) (h : divT N ds = true) : (∀ t : Int, 1 < t → t ∣ (N : Int) → ∃ q ∈ ds, q ∣ t) ∧ ∀ q ∈ ds, 1 < q ∧ q < 1073741824 := by
  unfold divT at h
  rw [Bool.and_eq_true] at h
  refine ⟨fun t t1 d => ?_, fun q hq => of_decide_eq_true (List.all_eq_true.mp h.2 q hq)⟩
  obtain ⟨n, rfl⟩ : ∃ n : Nat, t = n := ⟨t.toNat, by omega⟩
  have d' : n ∣ N := Int.ofNat_dvd.mp d
  have := List.all_eq_true.mp h.1 n (List.mem_range.mpr (by have := Nat.le_of_dvd hN d'; omega))
  simp only [Bool.or_eq_true, decide_eq_true_eq, bne_iff_ne, ne_eq, List.any_eq_true] at this
  rcases this with q | q | ⟨q, hq, e⟩
  · omega
  · exact absurd (Nat.mod_eq_zero_of_dvd d') q
  · exact ⟨q, hq, Int.dvd_of_emod_eq_zero e⟩
end Ev
set_option maxHeartbeats 1000000
/-! Ev, part AJ: squares and roots in a field. -/
namespace Ev
open PySem PySem.Spec PyProof.Rows L2
/-- a number's opposite -/
def fneg (p : Int) (k : Nat) (r : Int) : Int := numb p ((List.range k).map (dg (· - ·) p 0 r))
theorem dgs_sub {p : Int} (hp : Prm p) (k : Nat) (a b : Int) : (List.range k).map (dg (· - ·) p a b) = vsub p k (figs p k a) (figs p k b) := by
  unfold vsub vmk
  refine List.map_congr_left fun j hj => ?_
  have hj' := List.mem_range.mp hj
  have ea : at0 (figs p k a) (j : Nat) = a / p ^ j % p := at0_of (by unfold figs; rw [List.getElem?_map, List.getElem?_range hj']; rfl)
  have eb : at0 (figs p k b) (j : Nat) = b / p ^ j % p := at0_of (by unfold figs; rw [List.getElem?_map, List.getElem?_range hj']; rfl)
  show dg (· - ·) p a b j = (at0 (figs p k a) (j : Nat) - at0 (figs p k b) (j : Nat)) % p
  rw [ea, eb]
  exact Int.sub_emod _ _ _
section
variable {p : Int} {lo : List Int} (A : Fld p lo)
include A
theorem Mu_sub {x y z : List Int} (hx : Vc p lo.length x) (hy : Vc p lo.length y) (hz : Vc p lo.length z) : Mu p lo x (vsub p lo.length y z) = vsub p lo.length (Mu p lo x y) (Mu p lo x z) := by
  have e : vadd p lo.length (vsub p lo.length y z) z = y := by
    refine Vc.ext (add_V A _ _) hy fun i hi => (vmk_cg _ hi).trans ?_
    refine (Cg.add (vmk_cg _ hi) .rfl).trans (Cg.of ?_)
    omega
  have h := Mu_add A hx (sub_V A y z) hz
  rw [e] at h
  refine Vc.ext (Mu_V A hx (sub_V A y z)) (sub_V A _ _) fun i hi => Cg.trans ?_ (vmk_cg _ hi).symm
  have := vmk_cg (p := p) (fun i => at0 (Mu p lo x (vsub p lo.length y z)) (i : Nat) + at0 (Mu p lo x z) (i : Nat)) hi
  have h2 : Cg p (at0 (Mu p lo x y) (i : Nat)) (at0 (Mu p lo x (vsub p lo.length y z)) (i : Nat) + at0 (Mu p lo x z) (i : Nat)) := by rw [h]; exact this
  refine Cg.trans (Cg.of ?_) (Cg.sub h2.symm .rfl)
  omega
theorem fneg_in (r : Int) : 0 ≤ fneg p lo.length r ∧ fneg p lo.length r < p ^ lo.length := by
  unfold fneg; rw [dgs_sub A.prm]; exact numb_in A.prm.pos (sub_V A _ _)
theorem fneg_figs (r : Int) : figs p lo.length (fneg p lo.length r) = vsub p lo.length (vzero p lo.length) (figs p lo.length r) := by
  unfold fneg; rw [dgs_sub A.prm, figs_0 A.prm]; exact figs_numb A.prm.pos (sub_V A _ _)
theorem fpow_fmul (x y : Int) (n : Nat) : fpow p lo (fmul p lo x y) n = fmul p lo (fpow p lo x n) (fpow p lo y n) := by
  unfold fpow
  rw [fmul_figs A, mul_pow A (figs_V A.prm _ x) (figs_V A.prm _ y)]
  unfold fmul
  rw [figs_numb A.prm.pos (pow_V A (figs_V A.prm _ x) n), figs_numb A.prm.pos (pow_V A (figs_V A.prm _ y) n)]
theorem fmul_1 {x : Int} (x0 : 0 ≤ x) (x1 : x < p ^ lo.length) : fmul p lo 1 x = x := by
  unfold fmul
  rw [figs_1 A.prm A.two, one_Mu A (figs_V A.prm _ x), numb_figs A.prm _ x x0 x1]
theorem fpow_sq (x : Int) : fpow p lo x 2 = fmul p lo (fpow p lo x 1) (fpow p lo x 1) := fpow_add A x 1 1
theorem fpow_2 {x : Int} (x0 : 0 ≤ x) (x1 : x < p ^ lo.length) : fpow p lo x 2 = fmul p lo x x := by rw [fpow_sq A, fpow_one A x0 x1]
omit A in
theorem fmul_eq_vec {A : Fld p lo} {a b c d : Int} (h : fmul p lo a b = fmul p lo c d) : Mu p lo (figs p lo.length a) (figs p lo.length b) = Mu p lo (figs p lo.length c) (figs p lo.length d) := by
  rw [← fmul_figs A, h, fmul_figs A]
end
section
variable {P : Nat} {lo : List Int} (B : FF P lo)
include B
/-- equal squares have equal or opposite roots -/
theorem FF.sq_eq {b r : Int} (b0 : 0 ≤ b) (b1 : b < (P : Int) ^ lo.length) (r0 : 0 ≤ r) (r1 : r < (P : Int) ^ lo.length) (h : fmul P lo b b = fmul P lo r r) : b = r ∨ b = fneg P lo.length r := by
  have A := B.A
  have vb := figs_V A.prm lo.length b
  have vr := figs_V A.prm lo.length r
  have e := fmul_eq_vec (A := A) h
  generalize hx : figs (P : Int) lo.length b = x at *
  generalize hy : figs (P : Int) lo.length r = y at *
  have vs := sub_V A x y
  have va := add_V A x y
  have prod : Mu P lo (vadd P lo.length x y) (vsub P lo.length x y) = vzero P lo.length := by
    rw [Mu_sub A va vb vr, Mu_comm A.prm _ x, Mu_comm A.prm _ y, Mu_add A vb vb vr, Mu_add A vr vb vr, e, Mu_comm A.prm x y]
    refine Vc.ext (sub_V A _ _) (zero_V A) fun i hi => (vmk_cg _ hi).trans (Cg.trans ?_ (vmk_cg _ hi).symm)
    refine (Cg.sub (vmk_cg (p := (P : Int)) (fun i => at0 (Mu P lo y y) (i : Nat) + at0 (Mu P lo y x) (i : Nat)) hi) (vmk_cg (p := (P : Int)) (fun i => at0 (Mu P lo y x) (i : Nat) + at0 (Mu P lo y y) (i : Nat)) hi)).trans (Cg.of ?_)
    omega
  by_cases hz : vadd P lo.length x y = vzero P lo.length
  · right
    refine figs_inj A.prm b0 b1 (fneg_in A r).1 (fneg_in A r).2 ?_
    rw [fneg_figs A, hx, hy]
    refine Vc.ext vb (sub_V A _ _) fun i hi => Cg.trans ?_ (vmk_cg _ hi).symm
    have q : Cg (P : Int) (at0 x (i : Nat) + at0 y (i : Nat)) 0 := by
      refine (vmk_cg (p := (P : Int)) (fun i => at0 x (i : Nat) + at0 y (i : Nat)) hi).symm.trans ?_
      show Cg _ (at0 (vadd P lo.length x y) (i : Nat)) 0
      rw [hz]
      exact vmk_cg _ hi
    have z : Cg (P : Int) 0 (at0 (vzero P lo.length) (i : Nat)) := (vmk_cg (p := (P : Int)) (fun _ => 0) hi).symm
    refine Cg.trans (Cg.of ?_) (Cg.sub (q.trans z) (Cg.rfl (a := at0 y (i : Nat))))
    omega
  · left
    have q := B.cancel va vs prod hz
    refine figs_inj A.prm b0 b1 r0 r1 ?_
    rw [hx, hy]
    refine Vc.ext vb vr fun i hi => ?_
    have z : Cg (P : Int) (at0 x (i : Nat) - at0 y (i : Nat)) 0 := by
      refine (vmk_cg (p := (P : Int)) (fun i => at0 x (i : Nat) - at0 y (i : Nat)) hi).symm.trans ?_
      show Cg _ (at0 (vsub P lo.length x y) (i : Nat)) 0
      rw [q]
      exact vmk_cg _ hi
    refine Cg.trans (Cg.of ?_) ((z.add (Cg.rfl (a := at0 y (i : Nat)))).trans (Cg.of ?_))
    · omega
    · omega
theorem FF.neg_sq {r : Int} : fmul P lo (fneg P lo.length r) (fneg P lo.length r) = fmul P lo r r := by
  have A := B.A
  unfold fmul
  rw [fneg_figs A]
  have vr := figs_V A.prm lo.length r
  generalize figs (P : Int) lo.length r = y at *
  have z := zero_V A
  have vs := sub_V A (vzero P lo.length) y
  have e : Mu P lo (vsub P lo.length (vzero P lo.length) y) (vsub P lo.length (vzero P lo.length) y) = Mu P lo y y := by
    rw [Mu_sub A vs z vr, Mu_comm A.prm _ (vzero P lo.length), zero_Mu B vs, Mu_comm A.prm _ y, Mu_sub A vr z vr, Mu_comm A.prm y (vzero P lo.length), zero_Mu B vr]
    refine Vc.ext (sub_V A _ _) (Mu_V A vr vr) fun i hi => (vmk_cg _ hi).trans ?_
    refine (Cg.sub Cg.rfl (vmk_cg (p := (P : Int)) (fun i => at0 (vzero P lo.length) (i : Nat) - at0 (Mu P lo y y) (i : Nat)) hi)).trans (Cg.of ?_)
    omega
  rw [e]
/-- 1 has but one other root -/
theorem FF.one_uniq {x y : Int} (x0 : 0 ≤ x) (x1 : x < (P : Int) ^ lo.length) (y0 : 0 ≤ y) (y1 : y < (P : Int) ^ lo.length) (hx : fmul P lo x x = 1) (hy : fmul P lo y y = 1) (nx : x ≠ 1) (ny : y ≠ 1) : x = y := by
  have A := B.A
  have o1 : (1 : Int) < (P : Int) ^ lo.length := by have := B.size; rw [← Int.natCast_pow]; omega
  have e1 : fmul P lo 1 1 = 1 := fmul_1 A (by decide) o1
  rcases B.sq_eq x0 x1 (by decide) o1 (by rw [hx, e1]) with q | q
  · exact absurd q nx
  · rcases B.sq_eq y0 y1 (by decide) o1 (by rw [hy, e1]) with r | r
    · exact absurd r ny
    · rw [q, r]
theorem FF.fpow_size {a : Int} (a0 : 0 ≤ a) (a1 : a < (P : Int) ^ lo.length) : fpow P lo a (P ^ lo.length) = a := by
  unfold fpow
  rw [B.q _ (figs_V B.A.prm _ a), numb_figs B.A.prm _ a a0 a1]
theorem FF.fmul_0 (a : Int) : fmul P lo 0 a = 0 := by
  have A := B.A
  unfold fmul
  rw [figs_0 A.prm, zero_Mu B (figs_V A.prm _ a), ← figs_0 A.prm, numb_figs A.prm _ 0 (Int.le_refl 0) (Int.pow_pos A.prm.pos)]
theorem FF.fpow_0 {n : Nat} (hn : 0 < n) : fpow P lo 0 n = 0 := by
  obtain ⟨m, rfl⟩ : ∃ m, n = m + 1 := ⟨n - 1, by omega⟩
  rw [fpow_succ B.A, fmul_comm B.A, B.fmul_0]
theorem FF.root0 {b : Int} (b0 : 0 ≤ b) (b1 : b < (P : Int) ^ lo.length) (h : fmul P lo b b = 0) : b = 0 := by
  have A := B.A
  have z : (0 : Int) < (P : Int) ^ lo.length := Int.pow_pos A.prm.pos
  rcases B.sq_eq b0 b1 (Int.le_refl 0) z (by rw [h, B.fmul_0]) with q | q
  · exact q
  · rw [q]
    refine figs_inj A.prm (fneg_in A 0).1 (fneg_in A 0).2 (Int.le_refl 0) z ?_
    rw [fneg_figs A, figs_0 A.prm]
    refine Vc.ext (sub_V A _ _) (zero_V A) fun i hi => (vmk_cg _ hi).trans (Cg.trans (Cg.of ?_) (vmk_cg _ hi).symm)
    omega
end
/-! ### the loop for roots, by powers of a number that is no square -/
/-- what it keeps: twos, root, step, left -/
structure Ton (p : Int) (lo : List Int) (a : Int) (w : Nat) (root step left : Int) : Prop where
  one : 1 ≤ w
  r : 0 ≤ root ∧ root < p ^ lo.length
  s : 0 ≤ step ∧ step < p ^ lo.length
  l : 0 ≤ left ∧ left < p ^ lo.length
  sq : fmul p lo root root = fmul p lo a left
  hs : fpow p lo step (2 ^ (w - 1)) ≠ 1
  hs2 : fpow p lo step (2 ^ w) = 1
  hl : fpow p lo left (2 ^ (w - 1)) = 1
section
variable {P : Nat} {lo : List Int} (B : FF P lo)
include B
theorem pow2_half {x : Int} {n : Nat} : fmul P lo (fpow P lo x (2 ^ n)) (fpow P lo x (2 ^ n)) = fpow P lo x (2 ^ (n + 1)) := by
  rw [← fpow_add B.A]
  congr 1
  rw [Nat.pow_succ]; omega
/-- one turn: many is the least with left ^ 2 ^ many = 1 -/
theorem Ton.turn {a : Int} {w : Nat} {root step left : Int} (T : Ton P lo a w root step left) {m : Nat} (m1 : 1 ≤ m) (mw : m + 1 ≤ w) (hm : fpow P lo left (2 ^ m) = 1) (hn : fpow P lo left (2 ^ (m - 1)) ≠ 1) :
    Ton P lo a m (fmul P lo root (fpow P lo step (2 ^ (w - m - 1)))) (fmul P lo (fpow P lo step (2 ^ (w - m - 1))) (fpow P lo step (2 ^ (w - m - 1)))) (fmul P lo left (fmul P lo (fpow P lo step (2 ^ (w - m - 1))) (fpow P lo step (2 ^ (w - m - 1))))) := by
  have A := B.A
  have hb : fmul P lo (fpow P lo step (2 ^ (w - m - 1))) (fpow P lo step (2 ^ (w - m - 1))) = fpow P lo step (2 ^ (w - m)) := by
    rw [pow2_half B, show w - m - 1 + 1 = w - m from by omega]
  have st : ∀ j, fpow P lo (fpow P lo step (2 ^ (w - m))) (2 ^ j) = fpow P lo step (2 ^ (w - m + j)) := fun j => by rw [← fpow_mul A, ← Nat.pow_add]
  have mm : ∀ x y z u : Int, fmul P lo (fmul P lo x y) (fmul P lo z u) = fmul P lo (fmul P lo x z) (fmul P lo y u) := fun x y z u => by
    rw [fmul_assoc A, ← fmul_assoc A y, fmul_comm A y z, fmul_assoc A z, ← fmul_assoc A]
  refine ⟨m1, fmul_in A _ _, fmul_in A _ _, fmul_in A _ _, ?_, ?_, ?_, ?_⟩
  · rw [mm, T.sq, fmul_assoc A]
  · rw [hb, st, show w - m + (m - 1) = w - 1 from by omega]
    exact T.hs
  · rw [hb, st, show w - m + m = w from by omega]
    exact T.hs2
  · rw [hb, fpow_fmul A, st, show w - m + (m - 1) = w - 1 from by omega]
    have e1 : fpow P lo left (2 ^ (m - 1)) = fpow P lo step (2 ^ (w - 1)) := by
      refine B.one_uniq (fpow_in A _ _).1 (fpow_in A _ _).2 (fpow_in A _ _).1 (fpow_in A _ _).2 ?_ ?_ hn T.hs
      · rw [pow2_half B, show m - 1 + 1 = m from by omega, hm]
      · rw [pow2_half B, show w - 1 + 1 = w from by have := T.one; omega, T.hs2]
    rw [e1, pow2_half B, show w - 1 + 1 = w from by have := T.one; omega, T.hs2]
/-- the start -/
theorem ton_start {a u : Int} {w odd : Nat} (w1 : 1 ≤ w) (a0 : 0 ≤ a) (a1 : a < (P : Int) ^ lo.length) (hu0 : 0 < u) (hu1 : u < (P : Int) ^ lo.length) (ho : odd % 2 = 1) (hN : P ^ lo.length - 1 = odd * 2 ^ w)
    (hu : fpow P lo u (odd * 2 ^ (w - 1)) ≠ 1) (ha : fpow P lo a (odd * 2 ^ (w - 1)) = 1) : Ton P lo a w (fpow P lo a ((odd + 1) / 2)) (fpow P lo u odd) (fpow P lo a odd) := by
  have A := B.A
  refine ⟨w1, fpow_in A _ _, fpow_in A _ _, fpow_in A _ _, ?_, ?_, ?_, ?_⟩
  · rw [← fpow_add A, show (odd + 1) / 2 + (odd + 1) / 2 = 1 + odd from by omega, fpow_add A, fpow_one A a0 a1]
  · rw [← fpow_mul A]; exact hu
  · rw [← fpow_mul A, ← hN]; exact B.fpow1 hu0 hu1
  · rw [← fpow_mul A]; exact ha
end
end Ev
set_option maxHeartbeats 1000000
/-! Ev, part AK: comprehensions with a test; truth values compared. -/
namespace Ev
open PySem PySem.Spec PyProof.Rows L2
theorem lc_filt {c : Cfg} {i : Nat} {ρ : Env} {cond : Env → Hs → R Bool} {e : Env → Hs → R D} {h : Hs} (q : Nat → Bool) (hl : i < ρ.length) : ∀ (xs : List Nat) (acc : List D), (∀ x ∈ xs, cond (ρ.set i (some (.int (x : Nat)))) h = .ok (q x) h ∧ e (ρ.set i (some (.int (x : Nat)))) h = .ok (.int (x : Nat)) h) → acc.length + xs.length ≤ LN →
    lcD (Tg.den c (.name i)) cond e ρ (xs.map fun k => D.int (k : Nat)) acc h = .ok (acc ++ (xs.filter q).map fun k => D.int (k : Nat)) h
  | [], acc, _, _ => by
    show R.ok acc h = .ok (acc ++ []) h
    rw [List.append_nil]
  | x :: xs, acc, he, hz => by
    obtain ⟨h1, h2⟩ := he x List.mem_cons_self
    have hn : acc.length < LN := by simp at hz; omega
    rw [List.map_cons]
    unfold lcD
    simp only [tg_name, if_pos hl, h1]
    cases hq : q x with
    | true =>
      have ih := lc_filt (c := c) (ρ := ρ) (cond := cond) (e := e) (h := h) q hl xs (acc ++ [.int (x : Nat)]) (fun y hy => he y (List.mem_cons_of_mem _ hy)) (by simp at hz ⊢; omega)
      simp only [h2, if_pos hn]
      rw [ih, List.filter_cons, if_pos hq, List.append_assoc]
      rfl
    | false =>
      have ih := lc_filt (c := c) (ρ := ρ) (cond := cond) (e := e) (h := h) q hl xs acc (fun y hy => he y (List.mem_cons_of_mem _ hy)) (by simp at hz ⊢; omega)
      simp only []
      rw [ih, List.filter_cons, if_neg (by rw [hq]; exact fun z => nomatch z)]
theorem filt_none {q : Nat → Bool} {n : Nat} (h : ∀ j, j < n → q j = false) : (List.range n).filter q = [] := List.filter_eq_nil_iff.mpr fun j hj => by rw [h j (List.mem_range.mp hj)]; exact fun z => nomatch z
theorem filt_first {q : Nat → Bool} {m : Nat} (hm : q m = true) (hf : ∀ j, j < m → q j = false) : ∀ {n : Nat}, m < n → ∃ r, (List.range n).filter q = m :: r
  | 0, h => absurd h (Nat.not_lt_zero m)
  | n + 1, h => by
    rw [List.range_succ, List.filter_append]
    by_cases e : m < n
    · obtain ⟨r, hr⟩ := filt_first hm hf e
      exact ⟨r ++ [n].filter q, by rw [hr]; rfl⟩
    · have : m = n := by omega
      subst this
      refine ⟨[], ?_⟩
      rw [filt_none hf, List.filter_cons, if_pos hm]; rfl
theorem shp_bool (b : Bool) : SeqAt.shaped (.bool b) = true := by simp [SeqAt.shaped, PyData.canLay0, PyData.depth]
@[simp] theorem cmp_neB (b : Bool) (h : Hs) : cmpD .ne (.bl b) (.bl b) h = .ok (.bl false) h := by
  show (if (SeqAt.shaped (.bool b) && SeqAt.shaped (.bool b)) = true then R.ok (D.bl (!PyData.eqv (.bool b) (.bool b))) h else .stuck) = _
  rw [if_pos (by rw [shp_bool]; rfl)]
  cases b <;> simp [PyData.eqv]
@[simp] theorem cmp_isT (b : Bool) (h : Hs) : cmpD .is (.bl b) (.bl true) h = .ok (.bl b) h := by cases b <;> rfl
theorem idx_head {x : D} {xs : List D} {h : Hs} : idxD (.lst (x :: xs)) (.int 0) h = .ok x h := by
  show (match atI (x :: xs) 0 with | some v => R.ok v h | none => .stuck) = _
  rw [show atI (x :: xs) 0 = some x from by
    unfold atI
    rw [ix_ok (by omega) (by rw [List.length_cons]; omega)]; rfl]
/-! ### what a root's search must give -/
structure Root (p : Int) (lo : List Int) (a b : Int) : Prop where
  b0 : 0 ≤ b
  b1 : b < p ^ lo.length
  sq : fmul p lo b b = a
  min : ∀ x, 0 ≤ x → x < p ^ lo.length → fmul p lo x x = a → b ≤ x
section
variable {P : Nat} {lo : List Int} (B : FF P lo)
include B
theorem FF.root_two {a : Int} (a0 : 0 ≤ a) (a1 : a < (P : Int) ^ lo.length) {m : Nat} (hm : P ^ lo.length = m * 2) : Root P lo a (fpow P lo a m) := by
  have A := B.A
  refine ⟨(fpow_in A _ _).1, (fpow_in A _ _).2, ?_, fun x x0 x1 hx => ?_⟩
  · rw [← fpow_add A, show m + m = P ^ lo.length from by omega, B.fpow_size a0 a1]
  · have e := B.fpow_size x0 x1
    rw [hm, Nat.mul_comm, fpow_mul A, fpow_2 A x0 x1, hx] at e
    omega
theorem FF.root_zero {m : Nat} (hm : 0 < m) : Root P lo 0 (fpow P lo 0 m) := by
  rw [B.fpow_0 hm]
  exact ⟨Int.le_refl 0, Int.pow_pos B.A.prm.pos, B.fmul_0 0, fun x x0 _ _ => x0⟩
theorem FF.root_min {a r : Int} (r0 : 0 ≤ r) (r1 : r < (P : Int) ^ lo.length) (h : fmul P lo r r = a) : Root P lo a (if fneg P lo.length r < r then fneg P lo.length r else r) := by
  have A := B.A
  obtain ⟨n0, n1⟩ := fneg_in A r
  have hn : fmul P lo (fneg P lo.length r) (fneg P lo.length r) = a := by rw [B.neg_sq, h]
  refine ⟨by split <;> assumption, by split <;> assumption, by split <;> assumption, fun x x0 x1 hx => ?_⟩
  rcases B.sq_eq x0 x1 r0 r1 (by rw [hx, h]) with q | q
  · rw [q]; split <;> omega
  · rw [q]; split <;> omega
theorem FF.sq_pow {a b : Int} (b0 : 0 ≤ b) (b1 : b < (P : Int) ^ lo.length) (h : fmul P lo b b = a) (a0 : a ≠ 0) {m : Nat} (hm : P ^ lo.length - 1 = m * 2) : fpow P lo a m = 1 := by
  have A := B.A
  have bp : 0 < b := by
    by_cases z : b = 0
    · rw [z, B.fmul_0] at h; exact absurd h.symm a0
    · omega
  rw [← h, ← fpow_2 A b0 b1, ← fpow_mul A, Nat.mul_comm, ← hm]
  exact B.fpow1 bp b1
end
end Ev
set_option maxHeartbeats 1000000
/-! Ev, part AL: repr of rows of small numbers. -/
namespace Ev
open PySem PySem.Spec PyProof.Rows L2
def Sml (xs : List Int) : Prop := ∀ x ∈ xs, 0 ≤ x ∧ x < 1000000
theorem show_all : ∀ {xs : List Int}, Sml xs → PyData.showableAll (xs.map .int) = true
  | [], _ => by simp only [List.map_nil, PyData.showableAll]
  | x :: xs, h => by
    have := h x List.mem_cons_self
    have l := log_small this.1 this.2
    simp only [List.map_cons, PyData.showableAll, PyData.showable, show_all (xs := xs) fun y hy => h y (List.mem_cons_of_mem _ hy), Bool.and_true]
    exact decide_eq_true (by omega)
theorem nodict_all : ∀ xs : List Int, PyData.hasDictAll (xs.map .int) = false
  | [] => by simp only [List.map_nil, PyData.hasDictAll]
  | x :: xs => by simp only [List.map_cons, PyData.hasDictAll, PyData.hasDict, nodict_all xs, Bool.or_self]
theorem depth_all : ∀ xs : List Int, PyData.depthAll (xs.map .int) ≤ 1
  | [] => by simp [PyData.depthAll]
  | x :: xs => by
    have := depth_all xs
    simp only [List.map_cons, PyData.depthAll, PyData.depth]
    omega
theorem pys_int : ∀ xs : List Int, D.pys (xs.map .int) = some (xs.map .int)
  | [] => rfl
  | x :: xs => by
    show (match (D.int x).py, D.pys (xs.map .int) with | some x, some xs => some (x :: xs) | _, _ => none) = _
    rw [pys_int xs]; rfl
theorem shown_sum : ∀ {xs : List Int}, Sml xs → ((PyData.shownAll (xs.map .int)).map (·.length)).sum ≤ 22 * xs.length ∧ (PyData.shownAll (xs.map .int)).length = xs.length
  | [], _ => by simp [PyData.shownAll]
  | x :: xs, h => by
    obtain ⟨a, b⟩ := shown_sum (xs := xs) fun y hy => h y (List.mem_cons_of_mem _ hy)
    have := h x List.mem_cons_self
    have l := int_text_length_le (a := x) (k := 21) (by decide) (log_small this.1 this.2)
    have e : (PyData.int x).shown = Str.ofString (toString x) := by simp only [PyData.shown]
    have e2 : ((PyData.int x).shown).length ≤ 22 := by rw [e, PySem.ofString_length]; omega
    rw [List.map_cons, PyData.shownAll, List.map_cons, List.sum_cons, List.length_cons, List.length_cons, b]
    omega
/-- the text of a row -/
def shL (xs : List Int) : Str := (PyData.list (xs.map .int)).shown
def shT (xs : List Int) : Str := (PyData.tuple (xs.map .int)).shown
theorem pr_reprL {fz : Bool} {xs : List Int} {h : Hs} (s : Sml xs) (l : xs.length ≤ 10000) : primD .repr fz [.lst (xs.map .int)] h = .ok (.str (shL xs)) h := by
  show (match (D.pys (xs.map .int)).map PyData.list with
    | some x => if x.hasDict = false ∧ x.showable = true ∧ x.depth ≤ 64 ∧ x.shown.length ≤ LN then R.ok (D.str x.shown) h else .stuck
    | none => .stuck) = _
  rw [pys_int]
  obtain ⟨a, b⟩ := shown_sum s
  have d := depth_all xs
  have n := listText_len_le (PyData.shownAll (xs.map .int))
  refine if_pos ⟨by simp only [PyData.hasDict, nodict_all], by simp only [PyData.showable, show_all s], by simp only [PyData.depth]; omega, ?_⟩
  simp only [PyData.shown]
  rw [LN_eq]
  omega
theorem pr_reprT {fz : Bool} {xs : List Int} {h : Hs} (s : Sml xs) (l : xs.length ≤ 10000) : primD .repr fz [.tup (xs.map .int)] h = .ok (.str (shT xs)) h := by
  show (match (D.pys (xs.map .int)).map PyData.tuple with
    | some x => if x.hasDict = false ∧ x.showable = true ∧ x.depth ≤ 64 ∧ x.shown.length ≤ LN then R.ok (D.str x.shown) h else .stuck
    | none => .stuck) = _
  rw [pys_int]
  obtain ⟨a, b⟩ := shown_sum s
  have d := depth_all xs
  have n := tupleText_len_le (PyData.shownAll (xs.map .int))
  refine if_pos ⟨by simp only [PyData.hasDict, nodict_all], by simp only [PyData.showable, show_all s], by simp only [PyData.depth]; omega, ?_⟩
  simp only [PyData.shown]
  rw [LN_eq]
  omega
end Ev
set_option maxHeartbeats 1000000
/-! Ev, part AM: sums of numbers in a field. -/
namespace Ev
open PySem PySem.Spec PyProof.Rows L2
theorem figs_atn {p : Int} {k : Nat} {x : Int} {j : Nat} (hj : j < k) : at0 (figs p k x) (j : Nat) = x / p ^ j % p := at0_of (by unfold figs; rw [List.getElem?_map, List.getElem?_range hj]; rfl)
def fadd (p : Int) (k : Nat) (a b : Int) : Int := numb p ((List.range k).map (dg (· + ·) p a b))
def fsub (p : Int) (k : Nat) (a b : Int) : Int := numb p ((List.range k).map (dg (· - ·) p a b))
theorem dgs_add {p : Int} (hp : Prm p) (k : Nat) (a b : Int) : (List.range k).map (dg (· + ·) p a b) = vadd p k (figs p k a) (figs p k b) := by
  unfold vadd vmk
  refine List.map_congr_left fun j hj => ?_
  have hj' := List.mem_range.mp hj
  have ea : at0 (figs p k a) (j : Nat) = a / p ^ j % p := at0_of (by unfold figs; rw [List.getElem?_map, List.getElem?_range hj']; rfl)
  have eb : at0 (figs p k b) (j : Nat) = b / p ^ j % p := at0_of (by unfold figs; rw [List.getElem?_map, List.getElem?_range hj']; rfl)
  show dg (· + ·) p a b j = (at0 (figs p k a) (j : Nat) + at0 (figs p k b) (j : Nat)) % p
  rw [ea, eb]
  exact Int.add_emod _ _ _
section
variable {p : Int} {lo : List Int} (A : Fld p lo)
include A
theorem fadd_in (a b : Int) : 0 ≤ fadd p lo.length a b ∧ fadd p lo.length a b < p ^ lo.length := by
  unfold fadd; rw [dgs_add A.prm]; exact numb_in A.prm.pos (add_V A _ _)
theorem fsub_in (a b : Int) : 0 ≤ fsub p lo.length a b ∧ fsub p lo.length a b < p ^ lo.length := by
  unfold fsub; rw [dgs_sub A.prm]; exact numb_in A.prm.pos (sub_V A _ _)
theorem fadd_figs (a b : Int) : figs p lo.length (fadd p lo.length a b) = vadd p lo.length (figs p lo.length a) (figs p lo.length b) := by
  unfold fadd; rw [dgs_add A.prm]; exact figs_numb A.prm.pos (add_V A _ _)
theorem fsub_figs (a b : Int) : figs p lo.length (fsub p lo.length a b) = vsub p lo.length (figs p lo.length a) (figs p lo.length b) := by
  unfold fsub; rw [dgs_sub A.prm]; exact figs_numb A.prm.pos (sub_V A _ _)
theorem num_ext {a b : Int} (ha : 0 ≤ a ∧ a < p ^ lo.length) (hb : 0 ≤ b ∧ b < p ^ lo.length) (h : ∀ i, i < lo.length → Cg p (at0 (figs p lo.length a) (i : Nat)) (at0 (figs p lo.length b) (i : Nat))) : a = b :=
  figs_inj A.prm ha.1 ha.2 hb.1 hb.2 (Vc.ext (figs_V A.prm _ a) (figs_V A.prm _ b) h)
theorem fadd_cg (a b : Int) {i : Nat} (hi : i < lo.length) : Cg p (at0 (figs p lo.length (fadd p lo.length a b)) (i : Nat)) (at0 (figs p lo.length a) (i : Nat) + at0 (figs p lo.length b) (i : Nat)) := by rw [fadd_figs A]; exact vmk_cg _ hi
theorem fsub_cg (a b : Int) {i : Nat} (hi : i < lo.length) : Cg p (at0 (figs p lo.length (fsub p lo.length a b)) (i : Nat)) (at0 (figs p lo.length a) (i : Nat) - at0 (figs p lo.length b) (i : Nat)) := by rw [fsub_figs A]; exact vmk_cg _ hi
theorem fadd_comm (a b : Int) : fadd p lo.length a b = fadd p lo.length b a := num_ext A (fadd_in A a b) (fadd_in A b a) fun i hi => (fadd_cg A a b hi).trans (Cg.trans (Cg.of (Int.add_comm _ _)) (fadd_cg A b a hi).symm)
theorem fadd_assoc (a b c : Int) : fadd p lo.length (fadd p lo.length a b) c = fadd p lo.length a (fadd p lo.length b c) := num_ext A (fadd_in A _ _) (fadd_in A _ _) fun i hi => by
  refine (fadd_cg A _ c hi).trans (Cg.trans ?_ (fadd_cg A a _ hi).symm)
  refine (Cg.add (fadd_cg A a b hi) .rfl).trans (Cg.trans (Cg.of (Int.add_assoc _ _ _)) (Cg.add .rfl (fadd_cg A b c hi).symm))
theorem fmul_add (a b c : Int) : fmul p lo a (fadd p lo.length b c) = fadd p lo.length (fmul p lo a b) (fmul p lo a c) := by
  refine figs_inj A.prm (fmul_in A _ _).1 (fmul_in A _ _).2 (fadd_in A _ _).1 (fadd_in A _ _).2 ?_
  rw [fmul_figs A, fadd_figs A, fadd_figs A, fmul_figs A, fmul_figs A, Mu_add A (figs_V A.prm _ a) (figs_V A.prm _ b) (figs_V A.prm _ c)]
theorem fsub_add {a : Int} (ha : 0 ≤ a ∧ a < p ^ lo.length) (b : Int) : fsub p lo.length (fadd p lo.length a b) b = a := num_ext A (fsub_in A _ _) ha fun i hi => by
  refine (fsub_cg A _ b hi).trans ((Cg.sub (fadd_cg A a b hi) .rfl).trans (Cg.of ?_))
  omega
theorem fadd_0 {a : Int} (ha : 0 ≤ a ∧ a < p ^ lo.length) : fadd p lo.length 0 a = a := num_ext A (fadd_in A _ _) ha fun i hi => by
  refine (fadd_cg A 0 a hi).trans ?_
  rw [figs_0 A.prm]
  have z : Cg p (at0 (vzero p lo.length) (i : Nat)) 0 := vmk_cg _ hi
  exact (Cg.add z .rfl).trans (Cg.of (Int.zero_add _))
end
/-- what takes a product back -/
theorem FF.inv {P : Nat} {lo : List Int} (B : FF P lo) {a : Int} (a0 : 0 < a) (a1 : a < (P : Int) ^ lo.length) : fmul P lo a (fpow P lo a (P ^ lo.length - 2)) = 1 := by
  have hs := B.size
  have u := B.fpow1 a0 a1
  rw [show P ^ lo.length - 1 = P ^ lo.length - 2 + 1 from by omega, fpow_succ B.A] at u
  rw [fmul_comm B.A, u]
end Ev
set_option maxHeartbeats 1000000
/-! Ev, part AN: powers by the prime, sums and products of them. -/
namespace Ev
open PySem PySem.Spec PyProof.Rows L2
/-- t times the power by the prime -/
def fr (P : Nat) (lo : List Int) (a : Int) (t : Nat) : Int := fpow P lo a (P ^ t)
def trs (P : Nat) (lo : List Int) (a : Int) : Nat → Int
  | 0 => 0
  | n + 1 => fadd P lo.length (trs P lo a n) (fr P lo a n)
def nrm (P : Nat) (lo : List Int) (a : Int) : Nat → Int
  | 0 => 1
  | n + 1 => fmul P lo (nrm P lo a n) (fr P lo a n)
abbrev Rg (P : Nat) (lo : List Int) (a : Int) : Prop := 0 ≤ a ∧ a < (P : Int) ^ lo.length
structure Cnj (P : Nat) (lo : List Int) (a : Int) (d : Nat) : Prop where
  pos : 0 < d
  back : fr P lo a d = a
  first : ∀ t, 0 < t → t < d → fr P lo a t ≠ a
section
variable {P : Nat} {lo : List Int} (B : FF P lo)
include B
theorem fr_in (a : Int) (t : Nat) : Rg P lo (fr P lo a t) := fpow_in B.A _ _
theorem fr_0 {a : Int} (ha : Rg P lo a) : fr P lo a 0 = a := by unfold fr; rw [Nat.pow_zero]; exact fpow_one B.A ha.1 ha.2
theorem fr_1 (a : Int) : fr P lo a 1 = fpow P lo a P := by unfold fr; rw [Nat.pow_one]
theorem fr_add (a : Int) (s t : Nat) : fr P lo a (s + t) = fr P lo (fr P lo a s) t := by unfold fr; rw [Nat.pow_add, fpow_mul B.A]
theorem fr_succ (a : Int) (t : Nat) : fr P lo a (t + 1) = fpow P lo (fr P lo a t) P := by rw [fr_add B, fr_1 B]
theorem fr_k {a : Int} (ha : Rg P lo a) : fr P lo a lo.length = a := B.fpow_size ha.1 ha.2
theorem cnj_ex {a : Int} (ha : Rg P lo a) : ∃ d, Cnj P lo a d ∧ d ≤ lo.length := by
  obtain ⟨d, ⟨d0, hd⟩, hf⟩ := least (Q := fun n => 0 < n ∧ fr P lo a n = a) (n := lo.length) ⟨B.A.one, fr_k B ha⟩
  exact ⟨d, ⟨d0, hd, fun t t0 td e => hf t td ⟨t0, e⟩⟩, Nat.le_of_not_lt fun z => hf _ z ⟨B.A.one, fr_k B ha⟩⟩
theorem Cnj.mul {a : Int} {d : Nat} (C : Cnj P lo a d) (ha : Rg P lo a) : ∀ q, fr P lo a (d * q) = a
  | 0 => fr_0 B ha
  | q + 1 => by rw [Nat.mul_succ, fr_add B, C.mul ha q, C.back]
theorem Cnj.mod {a : Int} {d : Nat} (C : Cnj P lo a d) (ha : Rg P lo a) (t : Nat) : fr P lo a t = fr P lo a (t % d) := by
  rw [show t = d * (t / d) + t % d from (Nat.div_add_mod t d).symm, fr_add B, C.mul B ha, Nat.mul_add_mod, Nat.mod_mod]
theorem Cnj.per {a : Int} {d : Nat} (C : Cnj P lo a d) (ha : Rg P lo a) (t : Nat) : fr P lo a (d + t) = fr P lo a t := by rw [fr_add B, C.back]
theorem Cnj.dvd {a : Int} {d : Nat} (C : Cnj P lo a d) (ha : Rg P lo a) : d ∣ lo.length := by
  refine Nat.dvd_of_mod_eq_zero (Classical.byContradiction fun z => ?_)
  refine C.first _ (Nat.pos_of_ne_zero z) (Nat.mod_lt _ C.pos) ?_
  rw [← C.mod B ha, fr_k B ha]
theorem Cnj.apart {a : Int} {d : Nat} (C : Cnj P lo a d) {s t : Nat} (st : s < t) (td : t < d) : fr P lo a s ≠ fr P lo a t := fun e => by
  refine C.first (s + (d - t)) (by omega) (by omega) ?_
  rw [fr_add B, e, ← fr_add B, show t + (d - t) = d from by omega, C.back]
theorem Cnj.next {a : Int} {d : Nat} (C : Cnj P lo a d) : Cnj P lo (fr P lo a 1) d := by
  refine ⟨C.pos, ?_, fun t t0 td e => ?_⟩
  · rw [← fr_add B, Nat.add_comm, fr_add B, C.back]
  · rw [← fr_add B, Nat.add_comm] at e
    have h2 : fr P lo (fr P lo a (t + 1)) (d - 1) = fr P lo (fr P lo a 1) (d - 1) := by rw [e]
    rw [← fr_add B, ← fr_add B, show t + 1 + (d - 1) = d + t from by have := C.pos; omega, show 1 + (d - 1) = d from by have := C.pos; omega, C.back, fr_add B, C.back] at h2
    exact C.first t t0 td h2
theorem fpow_fadd (a b : Int) (t : Nat) : fr P lo (fadd P lo.length a b) t = fadd P lo.length (fr P lo a t) (fr P lo b t) := by
  have A := B.A
  have L := lin_frob A B.hP rfl t
  unfold fr
  refine figs_inj A.prm (fpow_in A _ _).1 (fpow_in A _ _).2 (fadd_in A _ _).1 (fadd_in A _ _).2 ?_
  rw [fpow_figs A, fadd_figs A, fadd_figs A, fpow_figs A, fpow_figs A]
  exact L.add _ _ (figs_V A.prm _ a) (figs_V A.prm _ b)
theorem fr_fmul (a b : Int) (t : Nat) : fr P lo (fmul P lo a b) t = fmul P lo (fr P lo a t) (fr P lo b t) := fpow_fmul B.A a b _
theorem fr_zero (t : Nat) : fr P lo 0 t = 0 := B.fpow_0 (Nat.pow_pos (by have := B.hP.two; omega))
theorem fr_one (t : Nat) : fr P lo 1 t = 1 := one_fpow B.A _
/-- what the power by the prime leaves is a number below the prime -/
theorem const_of {e : Int} (he : Rg P lo e) (h : fr P lo e 1 = e) : e < P := by
  have A := B.A
  have k1 := A.one
  have v := figs_V A.prm lo.length e
  have hf : vpow P lo (figs P lo.length e) P = figs P lo.length e := by
    rw [fr_1 B] at h
    rw [← fpow_figs A, h]
  have m := Int.emod_nonneg e (b := (P : Int)) (by have := B.hP.two; omega)
  have m2 := Int.emod_lt_of_pos e A.prm.pos
  have small : e % (P : Int) < (P : Int) ^ lo.length := by
    obtain ⟨n, hn⟩ : ∃ n, lo.length = n + 1 := ⟨lo.length - 1, by omega⟩
    have : (1 : Int) ≤ (P : Int) ^ n := Int.pow_pos A.prm.pos
    rw [hn, Int.pow_succ]
    calc e % (P : Int) < P := m2
      _ = 1 * P := (Int.one_mul _).symm
      _ ≤ (P : Int) ^ n * P := Int.mul_le_mul_of_nonneg_right this (Int.le_of_lt A.prm.pos)
  have e1 : e = e % (P : Int) := by
    refine num_ext A he ⟨m, small⟩ fun i hi => ?_
    by_cases h0 : i = 0
    · subst h0
      have q : ∀ x : Int, at0 (figs P lo.length x) ((0 : Nat) : Int) = x % P := fun x => by
        rw [figs_atn hi, Int.pow_zero, Int.ediv_one]
      rw [q, q, Int.emod_emod]
      exact .rfl
    · rw [B.fix _ v hf i (by omega) hi, figs_atn hi]
      refine Cg.of ?_
      have : e % (P : Int) / (P : Int) ^ i = 0 := by
        refine Int.ediv_eq_zero_of_lt m (Int.lt_of_lt_of_le m2 ?_)
        obtain ⟨n, rfl⟩ : ∃ n, i = n + 1 := ⟨i - 1, by omega⟩
        have : (1 : Int) ≤ (P : Int) ^ n := Int.pow_pos A.prm.pos
        rw [Int.pow_succ]
        calc (P : Int) = 1 * P := (Int.one_mul _).symm
          _ ≤ (P : Int) ^ n * P := Int.mul_le_mul_of_nonneg_right this (Int.le_of_lt A.prm.pos)
      rw [this]
      rfl
  omega
/-! sums -/
theorem trs_in (a : Int) : ∀ n, Rg P lo (trs P lo a n)
  | 0 => ⟨Int.le_refl 0, Int.pow_pos B.A.prm.pos⟩
  | n + 1 => fadd_in B.A _ _
theorem trs_fr (a : Int) : ∀ n, fr P lo (trs P lo a n) 1 = trs P lo (fr P lo a 1) n
  | 0 => fr_zero B 1
  | n + 1 => by
    show fr P lo (fadd P lo.length (trs P lo a n) (fr P lo a n)) 1 = fadd P lo.length (trs P lo (fr P lo a 1) n) (fr P lo (fr P lo a 1) n)
    rw [fpow_fadd B, trs_fr a n, ← fr_add B, ← fr_add B, Nat.add_comm]
theorem trs_shift {a : Int} (ha : Rg P lo a) : ∀ n, fadd P lo.length a (trs P lo (fr P lo a 1) n) = trs P lo a (n + 1)
  | 0 => by
    show fadd P lo.length a 0 = fadd P lo.length 0 (fr P lo a 0)
    rw [fr_0 B ha, fadd_comm B.A]
  | n + 1 => by
    show fadd P lo.length a (fadd P lo.length (trs P lo (fr P lo a 1) n) (fr P lo (fr P lo a 1) n)) = fadd P lo.length (trs P lo a (n + 1)) (fr P lo a (n + 1))
    rw [← fadd_assoc B.A, trs_shift ha n, ← fr_add B, Nat.add_comm 1 n]
theorem trs_conj {a : Int} (ha : Rg P lo a) : trs P lo (fr P lo a 1) lo.length = trs P lo a lo.length := by
  have A := B.A
  have h := trs_shift B ha lo.length
  have e : trs P lo a (lo.length + 1) = fadd P lo.length (trs P lo a lo.length) a := by
    show fadd P lo.length (trs P lo a lo.length) (fr P lo a lo.length) = _
    rw [fr_k B ha]
  rw [e, fadd_comm A a] at h
  rw [← fsub_add A (trs_in B _ _) a, h, fsub_add A (trs_in B _ _) a]
theorem trs_const {a : Int} (ha : Rg P lo a) : trs P lo a lo.length < P := const_of B (trs_in B a _) (by rw [trs_fr B, trs_conj B ha])
/-! products -/
theorem nrm_in (a : Int) : ∀ n, Rg P lo (nrm P lo a n)
  | 0 => ⟨by show (0 : Int) ≤ 1; decide, by have := B.size; show (1 : Int) < _; rw [← Int.natCast_pow]; omega⟩
  | n + 1 => fmul_in B.A _ _
theorem nrm_fr (a : Int) : ∀ n, fr P lo (nrm P lo a n) 1 = nrm P lo (fr P lo a 1) n
  | 0 => fr_one B 1
  | n + 1 => by
    show fr P lo (fmul P lo (nrm P lo a n) (fr P lo a n)) 1 = fmul P lo (nrm P lo (fr P lo a 1) n) (fr P lo (fr P lo a 1) n)
    rw [fr_fmul B, nrm_fr a n, ← fr_add B, ← fr_add B, Nat.add_comm]
theorem nrm_shift {a : Int} (ha : Rg P lo a) : ∀ n, fmul P lo a (nrm P lo (fr P lo a 1) n) = nrm P lo a (n + 1)
  | 0 => by
    show fmul P lo a 1 = fmul P lo 1 (fr P lo a 0)
    rw [fr_0 B ha, fmul_comm B.A]
  | n + 1 => by
    show fmul P lo a (fmul P lo (nrm P lo (fr P lo a 1) n) (fr P lo (fr P lo a 1) n)) = fmul P lo (nrm P lo a (n + 1)) (fr P lo a (n + 1))
    rw [← fmul_assoc B.A, nrm_shift ha n, ← fr_add B, Nat.add_comm 1 n]
theorem nrm_conj {a : Int} (ha : Rg P lo a) : nrm P lo (fr P lo a 1) lo.length = nrm P lo a lo.length := by
  have A := B.A
  by_cases a0 : a = 0
  · rw [a0, fr_zero B]
  · have h := nrm_shift B ha lo.length
    have e : nrm P lo a (lo.length + 1) = fmul P lo (nrm P lo a lo.length) a := by
      show fmul P lo (nrm P lo a lo.length) (fr P lo a lo.length) = _
      rw [fr_k B ha]
    rw [e, fmul_comm A a] at h
    have iv := B.inv (a := a) (by have := ha.1; omega) ha.2
    have back : ∀ x, Rg P lo x → fmul P lo (fmul P lo x a) (fpow P lo a (P ^ lo.length - 2)) = x := fun x hx => by
      rw [fmul_assoc A, iv, fmul_comm A, fmul_1 A hx.1 hx.2]
    rw [← back _ (nrm_in B _ _), h, back _ (nrm_in B _ _)]
theorem nrm_const {a : Int} (ha : Rg P lo a) : nrm P lo a lo.length < P := const_of B (nrm_in B a _) (by rw [nrm_fr B, nrm_conj B ha])
end
end Ev
set_option maxHeartbeats 1000000
/-! Ev, part AO: rows that repeat, rows in cells. -/
namespace Ev
open PySem PySem.Spec PyProof.Rows L2
theorem flat_per {α : Type} (f : Nat → α) {d : Nat} (h : ∀ t, f (d + t) = f t) : ∀ q, (List.replicate q ((List.range d).map f)).flatten = (List.range (d * q)).map f
  | 0 => rfl
  | q + 1 => by
    rw [List.replicate_succ, List.flatten_cons, flat_per f h q, Nat.mul_succ, Nat.add_comm (d * q) d, List.range_add, List.map_append, List.map_map]
    congr 1
    exact List.map_congr_left fun t _ => (h t).symm
theorem mul_row {fz : Bool} {xs : List D} {k : Int} {h : Hs} (h0 : -(LN : Int) ≤ k) (h1 : k ≤ (LN : Int)) : binD .mul fz (.lst xs) (.int k) h = newL fz (List.replicate k.toNat xs).flatten h := if_pos ⟨h0, h1⟩
theorem pr_reprR {fz : Bool} {xs : List Int} {h : Hs} (s : Sml xs) (l : xs.length ≤ 10000) : primD .repr fz [.ref 0] (.lst (xs.map .int) :: h) = .ok (.str (shL xs)) (.lst (xs.map .int) :: h) := by
  show (match (D.pys (xs.map .int)).map PyData.list with
    | some x => if x.hasDict = false ∧ x.showable = true ∧ x.depth ≤ 64 ∧ x.shown.length ≤ LN then R.ok (D.str x.shown) _ else .stuck
    | none => .stuck) = _
  rw [pys_int]
  obtain ⟨a, b⟩ := shown_sum s
  have d := depth_all xs
  have n := listText_len_le (PyData.shownAll (xs.map .int))
  refine if_pos ⟨by simp only [PyData.hasDict, nodict_all], by simp only [PyData.showable, show_all s], by simp only [PyData.depth]; omega, ?_⟩
  simp only [PyData.shown]
  rw [LN_eq]
  omega
theorem map_snoc {α β : Type} (f : α → β) (g : Nat → α) (n : Nat) : ((List.range n).map g).map f ++ [f (g n)] = ((List.range (n + 1)).map g).map f := by
  rw [List.range_succ, List.map_append, List.map_append]; rfl
end Ev
namespace Ev
open PySem PySem.Spec PyProof.Rows L2
theorem lc_any {c : Cfg} {α : Type} {i : Nat} {ρ : Env} {e : Env → Hs → R D} {h : Hs} (g f : α → D) (hl : i < ρ.length) : ∀ (xs : List α) (acc : List D), (∀ x ∈ xs, e (ρ.set i (some (g x))) h = .ok (f x) h) → acc.length + xs.length ≤ LN →
    lcD (Tg.den c (.name i)) (Exs.tsts c .nil) e ρ (xs.map g) acc h = .ok (acc ++ xs.map f) h
  | [], acc, _, _ => by
    show R.ok acc h = .ok (acc ++ []) h
    rw [List.append_nil]
  | x :: xs, acc, he, hz => by
    have ih := lc_any (c := c) (ρ := ρ) (e := e) (h := h) g f hl xs (acc ++ [f x]) (fun y hy => he y (List.mem_cons_of_mem _ hy)) (by simp at hz ⊢; omega)
    have hn : acc.length < LN := by simp at hz; omega
    rw [List.map_cons]
    unfold lcD
    simp only [tg_name, if_pos hl, tsts_nil, he x List.mem_cons_self, if_pos hn]
    rw [ih, List.append_assoc]
    rfl
end Ev
set_option maxHeartbeats 1000000
/-! Ev, part Sq: squares of signs, renamed, turned; the first pair that stands twice. -/
namespace Ev
open PySem PySem.Spec PyProof.Rows L2
def rng (n : Nat) : List Int := (List.range n).map fun k : Nat => (k : Int)
theorem rng_len (n : Nat) : (rng n).length = n := by unfold rng; rw [List.length_map, List.length_range]
theorem rng_mem {n : Nat} {x : Int} : x ∈ rng n ↔ 0 ≤ x ∧ x < n := by
  unfold rng
  rw [List.mem_map]
  constructor
  · rintro ⟨k, hk, rfl⟩
    have := List.mem_range.mp hk
    omega
  · rintro ⟨h0, h1⟩
    exact ⟨x.toNat, List.mem_range.mpr (by omega), by omega⟩
theorem rng_get {n k : Nat} (h : k < n) : (rng n).getD k 0 = k := by
  unfold rng
  rw [List.getD_eq_getElem?_getD, List.getElem?_map, List.getElem?_range h]; rfl
def colI (m : List (List Int)) (c : Nat) : List Int := m.map fun r => r.getD c 0
structure Lat (n : Nat) (m : List (List Int)) : Prop where
  len : m.length = n
  row : ∀ r ∈ m, r.Perm (rng n)
  col : ∀ c, c < n → (colI m c).Perm (rng n)
theorem rng_sorted (n : Nat) : (rng n).Pairwise (· ≤ ·) := by
  unfold rng
  rw [List.pairwise_map]
  exact List.Pairwise.imp (fun h => by omega) (List.pairwise_lt_range (n := n))
theorem sort_rng {l : List Int} {n : Nat} : sortI l = rng n ↔ l.Perm (rng n) := by
  constructor
  · intro h; rw [← h]; exact (sortI_perm l).symm
  · intro h; exact sorted_uniq (sortI_sorted l) (rng_sorted n) ((sortI_perm l).trans h)
def latB (m : List (List Int)) : Bool := decide (1 ≤ m.length ∧ m.length ≤ 12) && (m.all (fun r => sortI r == rng m.length) && (List.range m.length).all fun c => sortI (colI m c) == rng m.length)
theorem Lat.b {n : Nat} {m : List (List Int)} (L : Lat n m) (h1 : 1 ≤ n) (h2 : n ≤ 12) : latB m = true := by
  unfold latB
  rw [L.len, Bool.and_eq_true, Bool.and_eq_true, decide_eq_true_eq, List.all_eq_true, List.all_eq_true]
  refine ⟨⟨h1, h2⟩, fun r hr => ?_, fun c hc => ?_⟩
  · rw [beq_iff_eq]; exact sort_rng.mpr (L.row r hr)
  · rw [beq_iff_eq]; exact sort_rng.mpr (L.col c (List.mem_range.mp hc))
theorem lat_of {m : List (List Int)} (h : latB m = true) : Lat m.length m ∧ 1 ≤ m.length ∧ m.length ≤ 12 := by
  unfold latB at h
  rw [Bool.and_eq_true, Bool.and_eq_true, decide_eq_true_eq, List.all_eq_true, List.all_eq_true] at h
  exact ⟨⟨rfl, fun r hr => sort_rng.mp (beq_iff_eq.mp (h.2.1 r hr)), fun c hc => sort_rng.mp (beq_iff_eq.mp (h.2.2 c (List.mem_range.mpr hc)))⟩, h.1⟩
theorem map_getD {α β : Type} (f : α → β) (d : α) : ∀ (l : List α), (List.range l.length).map (fun i => f (l.getD i d)) = l.map f := fun l => by
  refine List.ext_getElem? fun i => ?_
  rw [List.getElem?_map, List.getElem?_map]
  by_cases h : i < l.length
  · rw [List.getElem?_range h, List.getElem?_eq_getElem h, Option.map_some, Option.map_some, List.getD_eq_getElem?_getD, List.getElem?_eq_getElem h]; rfl
  · rw [List.getElem?_eq_none (by simpa using h), List.getElem?_eq_none (l := l) (by omega)]; rfl
theorem map_rng {β : Type} (f : Int → β) (n : Nat) : (rng n).map f = (List.range n).map fun k : Nat => f (k : Int) := by
  unfold rng; rw [List.map_map]; rfl
/-- an arrangement's images -/
theorem perm_im {n : Nat} {l p : List Int} (hl : l.Perm (rng n)) (hp : p.length = n) : (l.map fun c => p.getD c.toNat 0).Perm p := by
  refine (hl.map _).trans ?_
  rw [map_rng]
  have e : (fun k : Nat => p.getD (k : Int).toNat 0) = fun k => p.getD k 0 := by funext k; rw [Int.toNat_natCast]
  rw [e]
  have := map_getD (fun x : Int => x) 0 p
  rw [hp, List.map_id'] at this
  rw [this]
def at2 (P : List (List Int)) (r c : Int) : Int := (P.getD r.toNat []).getD c.toNat 0
def ren (P : List (List Int)) (rs cs ss : List Int) : List (List Int) := rs.map fun r => cs.map fun c => ss.getD (at2 P r c).toNat 0
theorem Lat.at {n : Nat} {m : List (List Int)} (L : Lat n m) {r : Nat} (h : r < n) : m.getD r [] ∈ m := by
  rw [List.getD_eq_getElem?_getD, List.getElem?_eq_getElem (by rw [L.len]; exact h)]
  exact List.getElem_mem _
theorem Lat.rlen {n : Nat} {m : List (List Int)} (L : Lat n m) {r : List Int} (h : r ∈ m) : r.length = n := by rw [(L.row r h).length_eq, rng_len]
theorem Lat.ren {n : Nat} {P : List (List Int)} (L : Lat n P) {rs cs ss : List Int} (hr : rs.Perm (rng n)) (hc : cs.Perm (rng n)) (hs : ss.Perm (rng n)) : Lat n (ren P rs cs ss) := by
  have ls : ss.length = n := by rw [hs.length_eq, rng_len]
  have lc : cs.length = n := by rw [hc.length_eq, rng_len]
  refine ⟨by unfold Ev.ren; rw [List.length_map, hr.length_eq, rng_len], fun row hm => ?_, fun j hj => ?_⟩
  · unfold Ev.ren at hm
    obtain ⟨r, hrm, rfl⟩ := List.mem_map.mp hm
    have hb := rng_mem.mp (hr.subset hrm)
    have hp := L.at (r := r.toNat) (by omega)
    have e : (cs.map fun c => ss.getD (at2 P r c).toNat 0) = (cs.map fun c => (P.getD r.toNat []).getD c.toNat 0).map fun v => ss.getD v.toNat 0 := by rw [List.map_map]; rfl
    rw [e]
    exact ((((perm_im hc (L.rlen hp)).trans (L.row _ hp)).map _).trans (perm_im (l := rng n) (List.Perm.refl _) ls)).trans hs
  · have hj' : j < cs.length := by omega
    have e : colI (Ev.ren P rs cs ss) j = (rs.map fun r => at2 P r (cs.getD j 0)).map fun v => ss.getD v.toNat 0 := by
      unfold colI Ev.ren
      rw [List.map_map, List.map_map]
      refine List.map_congr_left fun r _ => ?_
      show (cs.map _).getD j 0 = _
      rw [List.getD_eq_getElem?_getD, List.getElem?_map, List.getElem?_eq_getElem hj', List.getD_eq_getElem?_getD, List.getElem?_eq_getElem hj']
      rfl
    rw [e]
    have hcj : cs.getD j 0 ∈ cs := by
      rw [List.getD_eq_getElem?_getD, List.getElem?_eq_getElem hj']; exact List.getElem_mem _
    have hb := rng_mem.mp (hc.subset hcj)
    have e2 : (rs.map fun r => at2 P r (cs.getD j 0)).Perm (colI P (cs.getD j 0).toNat) := by
      refine (hr.map _).trans ?_
      rw [map_rng]
      have : (fun k : Nat => at2 P (k : Int) (cs.getD j 0)) = fun k => (P.getD k []).getD (cs.getD j 0).toNat 0 := by
        funext k; unfold at2; rw [Int.toNat_natCast]
      rw [this]
      have q := map_getD (fun x : List Int => x.getD (cs.getD j 0).toNat 0) [] P
      rw [L.len] at q
      rw [q]
      exact List.Perm.refl _
    exact (((e2.trans (L.col _ (by omega))).map _).trans (perm_im (l := rng n) (List.Perm.refl _) ls)).trans hs
def tr (n : Nat) (m : List (List Int)) : List (List Int) := (List.range n).map fun c => colI m c
theorem Lat.tr {n : Nat} {m : List (List Int)} (L : Lat n m) : Lat n (tr n m) := by
  refine ⟨by unfold Ev.tr; rw [List.length_map, List.length_range], fun r hr => ?_, fun c hc => ?_⟩
  · unfold Ev.tr at hr
    obtain ⟨k, hk, rfl⟩ := List.mem_map.mp hr
    exact L.col k (List.mem_range.mp hk)
  · have hm := L.at hc
    have e : colI (Ev.tr n m) c = (m.getD c []) := by
      unfold colI Ev.tr
      rw [List.map_map]
      have q := map_getD (fun x : Int => x) 0 (m.getD c [])
      rw [L.rlen hm, List.map_id'] at q
      refine Eq.trans (List.map_congr_left fun k _ => ?_) q
      show (colI m k).getD c 0 = _
      unfold colI
      have hc' : c < m.length := by rw [L.len]; exact hc
      rw [List.getD_eq_getElem?_getD, List.getElem?_map, List.getElem?_eq_getElem hc', List.getD_eq_getElem?_getD (l := m), List.getElem?_eq_getElem hc']
      rfl
    rw [e]
    exact L.row _ hm
/-- signs renamed alone -/
def sgn (m : List (List Int)) (ss : List Int) : List (List Int) := m.map fun r => r.map fun v => ss.getD v.toNat 0
theorem Lat.sgn {n : Nat} {m : List (List Int)} (L : Lat n m) {ss : List Int} (hs : ss.Perm (rng n)) : Lat n (sgn m ss) := by
  have ls : ss.length = n := by rw [hs.length_eq, rng_len]
  refine ⟨by unfold Ev.sgn; rw [List.length_map, L.len], fun row hm => ?_, fun c hc => ?_⟩
  · unfold Ev.sgn at hm
    obtain ⟨r, hr, rfl⟩ := List.mem_map.mp hm
    exact (((L.row r hr).map _).trans (perm_im (l := rng n) (List.Perm.refl _) ls)).trans hs
  · have e : colI (Ev.sgn m ss) c = (colI m c).map fun v => ss.getD v.toNat 0 := by
      unfold colI Ev.sgn
      rw [List.map_map, List.map_map]
      refine List.map_congr_left fun r hr => ?_
      have hl := L.rlen hr
      show (r.map _).getD c 0 = _
      rw [List.getD_eq_getElem?_getD, List.getElem?_map, List.getElem?_eq_getElem (by omega)]
      show _ = ss.getD (r.getD c 0).toNat 0
      rw [List.getD_eq_getElem?_getD (l := r), List.getElem?_eq_getElem (by omega)]
      rfl
    rw [e]
    exact (((L.col c hc).map _).trans (perm_im (l := rng n) (List.Perm.refl _) ls)).trans hs
/-! ### two places exchanged -/
theorem swap_perm (l : List Int) {i j : Nat} (hi : i < l.length) (hj : j < l.length) : ((l.set i (l.getD j 0)).set j (l.getD i 0)).Perm l := by
  have e := Array.swap_perm (xs := l.toArray) (i := i) (j := j) (by simpa using hi) (by simpa using hj)
  have e2 := Array.perm_iff_toList_perm.mp e
  rw [Array.toList_swap] at e2
  have g1 : l.toArray[i]'(by simpa using hi) = l.getD i 0 := by
    rw [List.getD_eq_getElem?_getD, List.getElem?_eq_getElem hi]; rfl
  have g2 : l.toArray[j]'(by simpa using hj) = l.getD j 0 := by
    rw [List.getD_eq_getElem?_getD, List.getElem?_eq_getElem hj]; rfl
  rw [g1, g2] at e2
  exact e2
/-! ### the first pair that stands twice -/
abbrev Sn := List ((Int × Int) × (Nat × Nat))
def cellS (f g : Nat → Nat → Int) (r c : Nat) (s : Sn) : Sum (List Int) Sn := match s.lookup (f r c, g r c) with
  | some p => .inl [(p.1 : Int), (p.2 : Int), (r : Int), (c : Int)]
  | none => .inr (s ++ [((f r c, g r c), (r, c))])
def rowS (f g : Nat → Nat → Int) (r : Nat) : List Nat → Sn → Sum (List Int) Sn
  | [], s => .inr s
  | c :: cs, s => match cellS f g r c s with
    | .inl x => .inl x
    | .inr s' => rowS f g r cs s'
def allS (f g : Nat → Nat → Int) (n : Nat) : List Nat → Sn → Sum (List Int) Sn
  | [], s => .inr s
  | r :: rs, s => match rowS f g r (List.range n) s with
    | .inl x => .inl x
    | .inr s' => allS f g n rs s'
def repS (f g : Nat → Nat → Int) (n : Nat) : Option (List Int) := match allS f g n (List.range n) [] with
  | .inl x => some x
  | .inr _ => none
def toKV (s : Sn) : List (DKey × D) := s.map fun p => (.inr [.inl p.1.1, .inl p.1.2], .tup [.int (p.2.1 : Nat), .int (p.2.2 : Nat)])
theorem toKV_get (s : Sn) (a b : Int) : dget (toKV s) (.inr [.inl a, .inl b]) = (s.lookup (a, b)).map fun p => D.tup [.int (p.1 : Nat), .int (p.2 : Nat)] := by
  induction s with
  | nil => rfl
  | cons p s ih =>
    obtain ⟨⟨x, y⟩, q⟩ := p
    unfold toKV dget at ih ⊢
    rw [List.map_cons, List.find?_cons, List.lookup_cons]
    by_cases e : (a, b) = (x, y)
    · cases e
      simp
    · have e1 : ((a, b) == (x, y)) = false := by simpa using e
      have e2 : decide ((Sum.inr [Sum.inl x, Sum.inl y] : DKey) = Sum.inr [Sum.inl a, Sum.inl b]) = false := by
        rw [decide_eq_false_iff_not]
        intro z
        injection z with z
        injection z with z1 z2
        injection z2 with z2 _
        injection z1 with z1
        injection z2 with z2
        exact e (by rw [z1, z2])
      rw [e1]
      simp only [e2]
      exact ih
theorem toKV_put (s : Sn) (a b : Int) (r c : Nat) (h : s.lookup (a, b) = none) : dput (toKV s) (.inr [.inl a, .inl b]) (.tup [.int (r : Nat), .int (c : Nat)]) = toKV (s ++ [((a, b), (r, c))]) := by
  have hn : (toKV s).any (fun kv => decide (kv.1 = (.inr [.inl a, .inl b] : DKey))) = false := by
    have := toKV_get s a b
    rw [h] at this
    unfold dget at this
    rw [Option.map_none, Option.map_eq_none_iff, List.find?_eq_none] at this
    rw [List.any_eq_false]
    exact this
  unfold dput
  rw [hn]
  unfold toKV
  rw [List.map_append]; rfl
theorem toKV_len (s : Sn) : (toKV s).length = s.length := by unfold toKV; rw [List.length_map]
/-- what a walk over pairs gives back -/
def repD : Option (List Int) → D
  | some x => .tup (x.map .int)
  | none => .non
theorem cellS_len {f g : Nat → Nat → Int} {r c : Nat} {s s' : Sn} (h : cellS f g r c s = .inr s') : s'.length = s.length + 1 := by
  unfold cellS at h
  split at h
  · cases h
  · cases h; rw [List.length_append]; rfl
theorem rowS_len {f g : Nat → Nat → Int} {r : Nat} : ∀ {cs : List Nat} {s s' : Sn}, rowS f g r cs s = .inr s' → s'.length = s.length + cs.length
  | [], s, s', h => by unfold rowS at h; cases h; rfl
  | c :: cs, s, s', h => by
    unfold rowS at h
    split at h
    · cases h
    · rename_i s1 e
      rw [rowS_len h, cellS_len e, List.length_cons]; omega
/-- the inner loop -/
theorem in_rep {cf : Cfg} {ic : Nat} {b : Env → Hs → Out} {f g : Nat → Nat → Int} {r : Nat} {E : Option D → Option D → Env}
    (hset : ∀ u t (j : Nat), ic < (E u t).length ∧ (E u t).set ic (some (.int (j : Nat))) = E (some (.int (j : Nat))) t)
    (cs : List Nat) (hb : ∀ j ∈ cs, ∀ t (s : Sn), s.length < LN → b (E (some (.int (j : Nat))) t) [.dct true (toKV s)] = match cellS f g r j s with
      | .inl x => .ret (.tup (x.map .int)) [.dct true (toKV s)]
      | .inr s' => .nx (E (some (.int (j : Nat))) (some (.tup [.int (f r j), .int (g r j)]))) [.dct true (toKV s')]) :
    ∀ u t (s : Sn), s.length + cs.length < LN → ∃ u' t' s', forD (Tg.den cf (.name ic)) b (cs.map fun k => D.int (k : Nat)) (E u t) [.dct true (toKV s)] = match rowS f g r cs s with
      | .inl x => .ret (.tup (x.map .int)) [.dct true (toKV s')]
      | .inr s' => .nx (E u' t') [.dct true (toKV s')] := by
  induction cs with
  | nil => exact fun u t s _ => ⟨u, t, s, rfl⟩
  | cons c cs ih =>
    intro u t s hl
    have h1 := hb c List.mem_cons_self t s (by simp at hl; omega)
    obtain ⟨hlt, hs⟩ := hset u t c
    rw [List.map_cons]
    unfold forD rowS
    rw [tg_name, if_pos hlt, hs]
    simp only []
    rw [h1]
    cases e : cellS f g r c s with
    | inl x => exact ⟨u, t, s, rfl⟩
    | inr s1 =>
      obtain ⟨u', t', s', q⟩ := ih (fun j hj => hb j (List.mem_cons_of_mem _ hj)) (some (.int (c : Nat))) (some (.tup [.int (f r c), .int (g r c)])) s1 (by rw [cellS_len e]; simp at hl; omega)
      exact ⟨u', t', s', q⟩
/-- both loops -/
theorem out_rep {cf : Cfg} {ir : Nat} {b : Env → Hs → Out} {f g : Nat → Nat → Int} {n : Nat} {E : Option D → Option D → Option D → Env}
    (hset : ∀ v u t (j : Nat), ir < (E v u t).length ∧ (E v u t).set ir (some (.int (j : Nat))) = E (some (.int (j : Nat))) u t)
    (rs : List Nat) (hb : ∀ j ∈ rs, ∀ u t (s : Sn), s.length + n < LN → ∃ u' t' s', b (E (some (.int (j : Nat))) u t) [.dct true (toKV s)] = match rowS f g j (List.range n) s with
      | .inl x => .ret (.tup (x.map .int)) [.dct true (toKV s')]
      | .inr s' => .nx (E (some (.int (j : Nat))) u' t') [.dct true (toKV s')]) :
    ∀ v u t (s : Sn), s.length + rs.length * n < LN → n < LN → ∃ v' u' t' s', forD (Tg.den cf (.name ir)) b (rs.map fun k => D.int (k : Nat)) (E v u t) [.dct true (toKV s)] = match allS f g n rs s with
      | .inl x => .ret (.tup (x.map .int)) [.dct true (toKV s')]
      | .inr s' => .nx (E v' u' t') [.dct true (toKV s')] := by
  induction rs with
  | nil => exact fun v u t s _ _ => ⟨v, u, t, s, rfl⟩
  | cons r rs ih =>
    intro v u t s hl hn
    have hm : (r :: rs).length * n = n + rs.length * n := by rw [List.length_cons, Nat.succ_mul, Nat.add_comm]
    obtain ⟨u1, t1, s1, h1⟩ := hb r List.mem_cons_self u t s (by rw [hm] at hl; omega)
    obtain ⟨hlt, hs⟩ := hset v u t r
    rw [List.map_cons]
    unfold forD allS
    rw [tg_name, if_pos hlt, hs]
    simp only []
    rw [h1]
    cases e : rowS f g r (List.range n) s with
    | inl x => exact ⟨v, u, t, s1, rfl⟩
    | inr s2 =>
      obtain ⟨v', u', t', s', q⟩ := ih (fun j hj => hb j (List.mem_cons_of_mem _ hj)) (some (.int (r : Nat))) u1 t1 s2 (by rw [rowS_len e, List.length_range]; rw [hm] at hl; omega) hn
      exact ⟨v', u', t', s', q⟩
end Ev
set_option maxHeartbeats 1000000
/-! Ev, part Sr: data compared, kind by kind; loops that look and raise; squares as data. -/
namespace Ev
open PySem PySem.Spec PyProof.Rows L2
/-! ### compared -/
/-- how values of a type lie as data: equality is equality -/
structure Emb {α : Type} [DecidableEq α] (f : α → D) (k : Nat) : Prop where
  ex : ∃ g : α → PyData, (∀ a h, (f a).pyH h = some (g a) ∧ (f a).py = some (g a)) ∧ (∀ a b, PyData.eqv (g a) (g b) = decide (a = b)) ∧ ∀ a, (g a).canLay0 = true ∧ (g a).depth ≤ k
  ns : ∀ a b, strEq (f a) (f b) = none
section
variable {α : Type} [DecidableEq α] {f : α → D} {k : Nat}
theorem Emb.eq (E : Emb f k) (hk : k ≤ 64) (a b : α) (h : Hs) : cmpD .eq (f a) (f b) h = .ok (.bl (decide (a = b))) h := by
  obtain ⟨g, h1, h2, h3⟩ := E.ex
  unfold cmpD
  dsimp only
  rw [E.ns a b]
  dsimp only
  rw [(h1 a h).1, (h1 b h).1]
  have s : ∀ a, SeqAt.shaped (g a) = true := fun a => by
    unfold SeqAt.shaped
    rw [(h3 a).1, decide_eq_true (Nat.le_trans (h3 a).2 hk)]; rfl
  dsimp only
  rw [s a, s b, h2 a b]; rfl
theorem Emb.ne (E : Emb f k) (hk : k ≤ 64) (a b : α) (h : Hs) : cmpD .ne (f a) (f b) h = .ok (.bl (!decide (a = b))) h := by
  obtain ⟨g, h1, h2, h3⟩ := E.ex
  unfold cmpD
  dsimp only
  rw [E.ns a b]
  dsimp only
  rw [(h1 a h).1, (h1 b h).1]
  have s : ∀ a, SeqAt.shaped (g a) = true := fun a => by
    unfold SeqAt.shaped
    rw [(h3 a).1, decide_eq_true (Nat.le_trans (h3 a).2 hk)]; rfl
  dsimp only
  rw [s a, s b, h2 a b]; rfl
theorem emb_int : Emb D.int 0 := ⟨⟨PyData.int, fun _ _ => ⟨rfl, rfl⟩, fun a b => by simp [PyData.eqv]; rfl, fun a => by simp [PyData.canLay0, PyData.depth]⟩, fun _ _ => rfl⟩
theorem all_py {g : α → PyData} (h1 : ∀ a h, (f a).pyH h = some (g a) ∧ (f a).py = some (g a)) : ∀ xs : List α, D.pys (xs.map f) = some (xs.map g)
  | [] => rfl
  | x :: xs => by
    rw [List.map_cons, List.map_cons]
    unfold D.pys
    rw [(h1 x []).2, all_py h1 xs]
theorem all_eqv {g : α → PyData} (h2 : ∀ a b, PyData.eqv (g a) (g b) = decide (a = b)) : ∀ xs ys : List α, PyData.eqvAll (xs.map g) (ys.map g) = decide (xs = ys)
  | [], [] => by simp [PyData.eqvAll]
  | [], _ :: _ => by simp [PyData.eqvAll]
  | _ :: _, [] => by simp [PyData.eqvAll]
  | x :: xs, y :: ys => by
    rw [List.map_cons, List.map_cons]
    unfold PyData.eqvAll
    rw [h2, all_eqv h2 xs ys]
    by_cases e1 : x = y <;> by_cases e2 : xs = ys <;> simp [e1, e2]
theorem all_lay {g : α → PyData} (h3 : ∀ a, (g a).canLay0 = true ∧ (g a).depth ≤ k) : ∀ xs : List α, PyData.canLayAll0 (xs.map g) = true ∧ PyData.depthAll (xs.map g) ≤ k
  | [] => by simp [PyData.canLayAll0, PyData.depthAll]
  | x :: xs => by
    obtain ⟨a, b⟩ := all_lay h3 xs
    have c := h3 x
    rw [List.map_cons]
    refine ⟨by simp [PyData.canLayAll0, c.1, a], ?_⟩
    simp only [PyData.depthAll]
    omega
theorem emb_lst (E : Emb f k) : Emb (fun xs : List α => D.lst (xs.map f)) (k + 1) := by
  obtain ⟨g, h1, h2, h3⟩ := E.ex
  refine ⟨⟨fun xs => .list (xs.map g), fun xs h => ?_, fun a b => ?_, fun a => ?_⟩, fun _ _ => rfl⟩
  · have := all_py h1 xs
    constructor
    · show (D.pys (xs.map f)).map PyData.list = _
      rw [this]; rfl
    · show (D.pys (xs.map f)).map PyData.list = _
      rw [this]; rfl
  · rw [PyData.eqv]; exact all_eqv h2 a b
  · obtain ⟨q1, q2⟩ := all_lay h3 a
    refine ⟨by rw [PyData.canLay0]; exact q1, ?_⟩
    rw [PyData.depth]; omega
theorem emb_tup (E : Emb f k) : Emb (fun xs : List α => D.tup (xs.map f)) (k + 1) := by
  obtain ⟨g, h1, h2, h3⟩ := E.ex
  refine ⟨⟨fun xs => .tuple (xs.map g), fun xs h => ?_, fun a b => ?_, fun a => ?_⟩, fun _ _ => rfl⟩
  · have := all_py h1 xs
    constructor
    · show (D.pys (xs.map f)).map PyData.tuple = _
      rw [this]; rfl
    · show (D.pys (xs.map f)).map PyData.tuple = _
      rw [this]; rfl
  · rw [PyData.eqv]; exact all_eqv h2 a b
  · obtain ⟨q1, q2⟩ := all_lay h3 a
    refine ⟨by rw [PyData.canLay0]; exact q1, ?_⟩
    rw [PyData.depth]; omega
/-- .. or nothing -/
theorem emb_opt (E : Emb (fun xs : List α => D.tup (xs.map f)) (k + 1)) (hf : ∃ g : α → PyData, (∀ a h, (f a).pyH h = some (g a) ∧ (f a).py = some (g a)) ∧ (∀ a b, PyData.eqv (g a) (g b) = decide (a = b)) ∧ ∀ a, (g a).canLay0 = true ∧ (g a).depth ≤ k) :
    Emb (fun o : Option (List α) => match o with | some xs => D.tup (xs.map f) | none => .non) (k + 1) := by
  obtain ⟨g, h1, h2, h3⟩ := hf
  refine ⟨⟨fun o => match o with | some xs => .tuple (xs.map g) | none => .none, fun o h => ?_, fun a b => ?_, fun a => ?_⟩, fun a b => ?_⟩
  · cases o with
    | none => exact ⟨rfl, rfl⟩
    | some xs =>
      have := all_py h1 xs
      constructor
      · show (D.pys (xs.map f)).map PyData.tuple = some (.tuple (xs.map g))
        rw [this]; rfl
      · show (D.pys (xs.map f)).map PyData.tuple = some (.tuple (xs.map g))
        rw [this]; rfl
  · cases a with
    | none => cases b with
      | none => simp [PyData.eqv]
      | some y => simp [PyData.eqv]
    | some x => cases b with
      | none => simp [PyData.eqv]
      | some y =>
        show PyData.eqv (.tuple (x.map g)) (.tuple (y.map g)) = _
        rw [PyData.eqv, all_eqv h2]
        simp
  · cases a with
    | none => exact ⟨by simp [PyData.canLay0], by simp [PyData.depth]⟩
    | some xs =>
      obtain ⟨q1, q2⟩ := all_lay h3 xs
      refine ⟨by show (PyData.tuple _).canLay0 = true; rw [PyData.canLay0]; exact q1, ?_⟩
      show (PyData.tuple _).depth ≤ _
      rw [PyData.depth]; omega
  · cases a <;> cases b <;> rfl
end
theorem Emb.congr {α : Type} [DecidableEq α] {f g : α → D} {k : Nat} (E : Emb f k) (h : ∀ a, f a = g a) : Emb g k := by
  have e : f = g := funext h
  rw [← e]; exact E
theorem emb_rep : Emb repD 1 := (emb_opt (emb_tup emb_int) emb_int.ex).congr fun o => by cases o <;> rfl
/-! ### loops that look and raise -/
theorem for_chk {cf : Cfg} {i : Nat} {α : Type} {k : Str} (f : α → D) (ok : α → Bool) {b : Env → Hs → Out} {h : Hs} {E : Option D → Env} (hE : ∀ t x, i < (E t).length ∧ (E t).set i (some x) = E (some x)) :
    ∀ (xs : List α), (∀ x ∈ xs, b (E (some (f x))) h = if ok x = true then .nx (E (some (f x))) h else .exc k none (E (some (f x))) h) → ∀ t,
    ∃ t', forD (Tg.den cf (.name i)) b (xs.map f) (E t) h = if xs.all ok = true then .nx (E t') h else .exc k none (E t') h
  | [], _, t => ⟨t, rfl⟩
  | x :: xs, hb, t => by
    obtain ⟨h1, h2⟩ := hE t (f x)
    have q := hb x List.mem_cons_self
    rw [List.map_cons]
    unfold forD
    rw [tg_name, if_pos h1, h2]
    simp only []
    rw [q]
    by_cases e : ok x = true
    · obtain ⟨t', q2⟩ := for_chk f ok hE xs (fun y hy => hb y (List.mem_cons_of_mem _ hy)) (some (f x))
      refine ⟨t', ?_⟩
      rw [if_pos e]
      simp only []
      rw [q2, List.all_cons, e, Bool.true_and]
    · refine ⟨some (f x), ?_⟩
      rw [if_neg e, List.all_cons, Bool.eq_false_iff.mpr e]; rfl
/-! ### squares as data -/
def mkD (t : Bool) (xs : List D) : D := if t then .tup xs else .lst xs
def rowU (u : Bool) (r : List Int) : D := mkD u (r.map .int)
def sqD (t u : Bool) (m : List (List Int)) : D := mkD t (m.map (rowU u))
abbrev sqT (m : List (List Int)) : D := .tup (m.map fun r => .tup (r.map .int))
theorem rowU_pure (u : Bool) (r : List Int) : (rowU u r).pure = true := by
  cases u <;> exact pures_ints r
theorem pures_map {α : Type} {f : α → D} (h : ∀ a, (f a).pure = true) : ∀ xs : List α, D.pures (xs.map f) = true
  | [] => rfl
  | x :: xs => by
    show ((f x).pure && D.pures (xs.map f)) = true
    rw [h x, pures_map h xs]; rfl
theorem sqD_pure (t u : Bool) (m : List (List Int)) : (sqD t u m).pure = true := by
  cases t <;> exact pures_map (rowU_pure u) m
theorem sqT_eq (m : List (List Int)) : sqT m = sqD true true m := rfl
theorem sqT_pure (m : List (List Int)) : (sqT m).pure = true := sqD_pure true true m
theorem ints_map : ∀ xs : List Int, D.ints (xs.map .int) = some xs
  | [] => rfl
  | x :: xs => by
    show (D.ints (xs.map .int)).map (x :: ·) = _
    rw [ints_map xs]; rfl
theorem pr_sortU {fz : Bool} {u : Bool} (r : List Int) (h : Hs) : primD .sorted fz [rowU u r] h = newL fz ((sortI r).map .int) h := by
  cases u
  · show (match D.ints (r.map .int) with | some ns => newL fz ((sortI ns).map .int) h | none => .stuck) = _
    rw [ints_map]
  · show (match D.ints (r.map .int) with | some ns => newL fz ((sortI ns).map .int) h | none => .stuck) = _
    rw [ints_map]
theorem pr_sortT {fz : Bool} (r : List Int) (h : Hs) : primD .sorted fz [.tup (r.map .int)] h = newL fz ((sortI r).map .int) h := pr_sortU (u := true) r h
theorem pr_sortL {fz : Bool} (r : List Int) (h : Hs) : primD .sorted fz [.lst (r.map .int)] h = newL fz ((sortI r).map .int) h := pr_sortU (u := false) r h
theorem pr_tupU {fz : Bool} {u : Bool} (r : List Int) (h : Hs) : primD .tupleOf fz [rowU u r] h = .ok (.tup (r.map .int)) h := by cases u <;> rfl
theorem pr_lstU {u : Bool} (r : List Int) (h : Hs) (q : r.length ≤ LN) : primD .listOf true [rowU u r] h = .ok (.lst (r.map .int)) h := by
  cases u
  · show newL true _ h = _; exact new_fz (by rw [List.length_map]; exact q)
  · show newL true _ h = _; exact new_fz (by rw [List.length_map]; exact q)
theorem tups_sq : ∀ m : List (List Int), tupsOf (m.map fun r => D.tup (r.map .int)) = some (m.map fun r => r.map .int)
  | [] => rfl
  | r :: m => by
    show (tupsOf (m.map fun r => D.tup (r.map .int))).map (_ :: ·) = _
    rw [tups_sq m]; rfl
theorem cols_sq {m : List (List Int)} {n : Nat} (hn : m ≠ []) (h13 : m.length ≤ 13) (hr : ∀ r ∈ m, r.length = n) : colsD (m.map fun r => r.map .int) = some ((List.range n).map fun c => D.tup ((colI m c).map .int)) := by
  cases m with
  | nil => exact absurd rfl hn
  | cons r rs =>
    rw [List.map_cons]
    unfold colsD
    dsimp only
    have hr0 := hr r List.mem_cons_self
    have e1 : (rs.map fun r => r.map D.int).all (fun x => x.length == (r.map D.int).length) = true := by
      rw [List.all_map, List.all_eq_true]
      intro x hx
      simp [hr x (List.mem_cons_of_mem _ hx), hr0]
    have e2 : decide (((r.map D.int) :: rs.map fun r => r.map D.int).length ≤ 13) = true := by
      simpa using h13
    rw [e1, e2, Bool.and_self, if_pos rfl, List.length_map, hr0]
    congr 1
    refine List.map_congr_left fun c hc => ?_
    have hc' := List.mem_range.mp hc
    congr 1
    show ((r :: rs).map fun r => r.map D.int).map _ = _
    unfold colI
    rw [List.map_map, List.map_map]
    refine List.map_congr_left fun x hx => ?_
    have hl := hr x hx
    show (x.map D.int).getD c .non = D.int (x.getD c 0)
    rw [List.getD_eq_getElem?_getD, List.getElem?_map, List.getElem?_eq_getElem (by omega), List.getD_eq_getElem?_getD, List.getElem?_eq_getElem (by omega)]
    rfl
/-! ### comprehensions, whole -/
theorem lc_den {c : Cfg} {α : Type} {fz : Bool} {x : Str} {i : Nat} {it : Itx} {elt : Ex} {ρ : Env} {h : Hs} (g f : α → D) (xs : List α) (hl : i < ρ.length) (hz : xs.length ≤ LN) (hit : it.den c ρ h = .ok (xs.map g) h)
    (he : ∀ y ∈ xs, (elt.dt c).1 (ρ.set i (some (g y))) h = .ok (f y) h) : (Ex.dt c (.lc fz [(x, i)] (.name i) it .nil elt)).1 ρ h = newL fz (xs.map f) h := by
  rw [den_lc, hit, bd_ok]
  show (lcD (Tg.den c (.name i)) (Exs.tsts c .nil) (elt.dt c).1 (ρ.set i none) (xs.map g) [] h).bd _ _ = _
  rw [lc_any g f (by rw [List.length_set]; exact hl) xs [] (fun y hy => by rw [List.set_set]; exact he y hy) (by simpa using hz)]
  rfl
/-- .. frozen -/
theorem lc_denF {c : Cfg} {α : Type} {x : Str} {i : Nat} {it : Itx} {elt : Ex} {ρ : Env} {h : Hs} (g f : α → D) (xs : List α) (hl : i < ρ.length) (hz : xs.length ≤ LN) (hit : it.den c ρ h = .ok (xs.map g) h)
    (he : ∀ y ∈ xs, (elt.dt c).1 (ρ.set i (some (g y))) h = .ok (f y) h) : (Ex.dt c (.lc true [(x, i)] (.name i) it .nil elt)).1 ρ h = .ok (.lst (xs.map f)) h := by
  rw [lc_den g f xs hl hz hit he, new_fz (by rw [List.length_map]; exact hz)]
theorem it_rng1 {c : Cfg} {e : Ex} {ρ : Env} {h : Hs} {n : Nat} (he : (e.dt c).1 ρ h = .ok (.int (n : Nat)) h) (hn : n ≤ LN) : Itx.den c (.range (.cons e .nil)) ρ h = .ok ((List.range n).map fun k : Nat => D.int (k : Nat)) h := by
  have : -(LN : Int) ≤ (n : Int) ∧ (n : Int) ≤ (LN : Int) := by omega
  rw [it_range, dens_cons, he, bd_ok, dens_nil, bd_ok, bd_ok]
  show (if _ then _ else _) = _
  rw [if_pos this, Int.toNat_natCast]
theorem it_sqD {c : Cfg} {e : Ex} {ρ : Env} {h : Hs} {t u : Bool} {m : List (List Int)} (he : (e.dt c).1 ρ h = .ok (sqD t u m) h) : Itx.den c (.seq e) ρ h = .ok (m.map (rowU u)) h := by
  rw [it_seq, he, bd_ok]
  cases t <;> rfl
end Ev
set_option maxHeartbeats 1000000
/-! Ev, part Fm: points in several fields at once, part by part; plain. -/
namespace Ev
open PySem PySem.Spec PyProof.Rows L2
def prd : List Int → Int
  | [] => 1
  | s :: r => s * prd r
/-- the figures of a point, the first part highest -/
def spl : List Int → Int → List Int
  | [], _ => []
  | s :: r, x => (x / prd r % s) :: spl r x
def jo : List Int → List Int → Int
  | _ :: r, f :: fs => f * prd r + jo r fs
  | _, _ => 0
def Inr : List Int → List Int → Prop
  | [], [] => True
  | s :: r, f :: fs => (0 ≤ f ∧ f < s) ∧ Inr r fs
  | _, _ => False
def AllP (ss : List Int) : Prop := ∀ s ∈ ss, 0 < s
theorem prd_pos : ∀ {ss : List Int}, AllP ss → 0 < prd ss
  | [], _ => Int.one_pos
  | s :: r, h => Int.mul_pos (h s List.mem_cons_self) (prd_pos fun t ht => h t (List.mem_cons_of_mem _ ht))
theorem spl_len : ∀ (ss : List Int) (x : Int), (spl ss x).length = ss.length
  | [], _ => rfl
  | _ :: r, x => by show (spl r x).length + 1 = r.length + 1; rw [spl_len r]
theorem spl_in : ∀ {ss : List Int} (x : Int), AllP ss → Inr ss (spl ss x)
  | [], _, _ => trivial
  | s :: r, x, h => by
    have hs := h s List.mem_cons_self
    exact ⟨⟨Int.emod_nonneg _ (by omega), Int.emod_lt_of_pos _ hs⟩, spl_in x fun t ht => h t (List.mem_cons_of_mem _ ht)⟩
theorem jo_in : ∀ {ss fs : List Int}, AllP ss → Inr ss fs → 0 ≤ jo ss fs ∧ jo ss fs < prd ss
  | [], [], _, _ => ⟨Int.le_refl 0, Int.one_pos⟩
  | s :: r, f :: fs, h, i => by
    have hr : AllP r := fun t ht => h t (List.mem_cons_of_mem _ ht)
    obtain ⟨a, b⟩ := jo_in hr i.2
    have p := prd_pos hr
    have h1 : 0 ≤ f * prd r := Int.mul_nonneg i.1.1 (Int.le_of_lt p)
    have h2 : (f + 1) * prd r ≤ s * prd r := Int.mul_le_mul_of_nonneg_right (by have := i.1.2; omega) (Int.le_of_lt p)
    rw [Int.add_mul, Int.one_mul] at h2
    show 0 ≤ f * prd r + jo r fs ∧ f * prd r + jo r fs < s * prd r
    omega
  | [], _ :: _, _, i => i.elim
  | _ :: _, [], _, i => i.elim
theorem spl_shift : ∀ {ss : List Int} (x k : Int), AllP ss → spl ss (x + k * prd ss) = spl ss x
  | [], _, _, _ => rfl
  | s :: r, x, k, h => by
    have hr : AllP r := fun t ht => h t (List.mem_cons_of_mem _ ht)
    have p := prd_pos hr
    have e : x + k * (s * prd r) = x + k * s * prd r := by rw [Int.mul_assoc]
    show ((x + k * (s * prd r)) / prd r % s) :: spl r (x + k * (s * prd r)) = _
    rw [e, spl_shift x (k * s) hr, Int.add_mul_ediv_right _ _ (by omega), Int.add_mul_emod_self_right]
    rfl
theorem jo_spl : ∀ {ss : List Int} (x : Int), AllP ss → jo ss (spl ss x) = x % prd ss
  | [], x, _ => by show 0 = x % 1; rw [Int.emod_one]
  | s :: r, x, h => by
    have hr : AllP r := fun t ht => h t (List.mem_cons_of_mem _ ht)
    have hs := h s List.mem_cons_self
    have p := prd_pos hr
    have J := jo_in (ss := s :: r) (fs := spl (s :: r) x) h (spl_in x h)
    have e : jo (s :: r) (spl (s :: r) x) = (x / prd r % s) * prd r + x % prd r := by
      show (x / prd r % s) * prd r + jo r (spl r x) = _
      rw [jo_spl x hr]
    have e1 := Int.mul_ediv_add_emod x (prd r)
    have e2 := Int.mul_ediv_add_emod (x / prd r) s
    have e3 : x = jo (s :: r) (spl (s :: r) x) + (s * prd r) * (x / prd r / s) := by
      rw [e]
      generalize x / prd r / s = u at e2 ⊢
      generalize x / prd r % s = v at e2 ⊢
      generalize x % prd r = w at e1 ⊢
      rw [← e2] at e1
      rw [← e1]
      rw [Int.mul_add, Int.mul_comm (prd r) v, Int.mul_comm s (prd r), Int.mul_assoc]
      omega
    show _ = x % (s * prd r)
    rw [e3, Int.add_mul_emod_self_left]
    rw [← e3]
    exact (Int.emod_eq_of_lt J.1 J.2).symm
theorem jo_spl' {ss : List Int} {x : Int} (h : AllP ss) (x0 : 0 ≤ x) (x1 : x < prd ss) : jo ss (spl ss x) = x := by rw [jo_spl x h, Int.emod_eq_of_lt x0 x1]
theorem spl_jo : ∀ {ss fs : List Int}, AllP ss → Inr ss fs → spl ss (jo ss fs) = fs
  | [], [], _, _ => rfl
  | s :: r, f :: fs, h, i => by
    have hr : AllP r := fun t ht => h t (List.mem_cons_of_mem _ ht)
    have p := prd_pos hr
    obtain ⟨a, b⟩ := jo_in hr i.2
    show ((f * prd r + jo r fs) / prd r % s) :: spl r (f * prd r + jo r fs) = _
    rw [Int.add_comm, spl_shift _ f hr, spl_jo hr i.2, Int.add_mul_ediv_right _ _ (by omega), Int.ediv_eq_zero_of_lt a b, Int.zero_add, Int.emod_eq_of_lt i.1.1 i.1.2]
  | [], _ :: _, _, i => i.elim
  | _ :: _, [], _, i => i.elim
theorem Inr.at : ∀ {ss fs : List Int}, Inr ss fs → ∀ i, i < ss.length → 0 ≤ fs.getD i 0 ∧ fs.getD i 0 < ss.getD i 0
  | [], [], _, i, hi => absurd hi (Nat.not_lt_zero i)
  | s :: r, f :: fs, h, 0, _ => h.1
  | s :: r, f :: fs, h, i + 1, hi => h.2.at i (Nat.lt_of_succ_lt_succ hi)
  | [], _ :: _, i, _, _ => i.elim
  | _ :: _, [], i, _, _ => i.elim
theorem Inr.of : ∀ {ss fs : List Int}, fs.length = ss.length → (∀ i, i < ss.length → 0 ≤ fs.getD i 0 ∧ fs.getD i 0 < ss.getD i 0) → Inr ss fs
  | [], [], _, _ => trivial
  | s :: r, f :: fs, hl, h => ⟨h 0 (Nat.zero_lt_succ _), Inr.of (Nat.succ.inj hl) fun i hi => h (i + 1) (Nat.succ_lt_succ hi)⟩
  | [], _ :: _, hl, _ => nomatch hl
  | _ :: _, [], hl, _ => nomatch hl
theorem getD_rng (g : Nat → Int) {n i : Nat} (hi : i < n) : ((List.range n).map g).getD i 0 = g i := by
  rw [List.getD_eq_getElem?_getD, List.getElem?_map, List.getElem?_range hi]; rfl
theorem drop_at {α : Type} {xs : List α} {j : Nat} {x : α} (e : xs[j]? = some x) : xs.drop j = x :: xs.drop (j + 1) := by
  obtain ⟨hj, rfl⟩ := List.getElem?_eq_some_iff.mp e
  exact List.drop_eq_getElem_cons hj
theorem allp_drop {ss : List Int} (h : AllP ss) (j : Nat) : AllP (ss.drop j) := fun s hs => h s (List.mem_of_mem_drop hs)
theorem div_div' {x p s : Int} (hp : 0 < p) : x / p / s = x / (s * p) := by
  rw [Int.ediv_ediv, if_neg (by omega), Int.sub_zero, Int.mul_comm]
/-- one part: a prime, what its polynomial has below -/
structure Cmp where
  P : Nat
  lo : List Int
def Cmp.z (c : Cmp) : Int := (c.P : Int) ^ c.lo.length
def szs (F : List Cmp) : List Int := F.map Cmp.z
theorem szs_len (F : List Cmp) : (szs F).length = F.length := by unfold szs; rw [List.length_map]
def cat (F : List Cmp) (i : Nat) : Cmp := F.getD i ⟨2, []⟩
def fg (F : List Cmp) (x : Int) (i : Nat) : Int := (spl (szs F) x).getD i 0
def op (F : List Cmp) (g : Nat → Int → Int → Int) (x y : Int) : Int := jo (szs F) ((List.range F.length).map fun i => g i (fg F x i) (fg F y i))
/-- sizes that one division takes -/
structure Sz (F : List Cmp) : Prop where
  pos : AllP (szs F)
  few : F.length ≤ 100
  top : ∀ s ∈ szs F, s < 1073741824
structure Fam (F : List Cmp) (many : Int) : Prop where
  ff : ∀ i, i < F.length → FF (cat F i).P (cat F i).lo
  most : ∀ i, i < F.length → many < (cat F i).z
  one : 1 ≤ many
theorem szs_at (F : List Cmp) {i : Nat} (hi : i < F.length) : (szs F).getD i 0 = (cat F i).z := by
  unfold cat szs
  rw [List.getD_eq_getElem?_getD, List.getD_eq_getElem?_getD, List.getElem?_map, List.getElem?_eq_getElem hi]; rfl
def Pt (F : List Cmp) (x : Int) : Prop := 0 ≤ x ∧ x < prd (szs F)
def finv (c : Cmp) (d : Int) : Int := fpow c.P c.lo d (c.P ^ c.lo.length - 2)
def hasF (F : List Cmp) (κ r c : Int) : Int := if κ = -1 then c else op F (fun i a b => fadd (cat F i).P (cat F i).lo.length a (fmul (cat F i).P (cat F i).lo κ b)) r c
def lesF (F : List Cmp) (x y κ : Int) : Int := op F (fun i a b => fsub (cat F i).P (cat F i).lo.length a (fmul (cat F i).P (cat F i).lo κ b)) x y
def divF (F : List Cmp) (x κ κ' : Int) : Int := op F (fun i a _ => fmul (cat F i).P (cat F i).lo a (finv (cat F i) (fsub (cat F i).P (cat F i).lo.length κ κ'))) x x
def cellO (F : List Cmp) (κ x κ' x' : Int) : Int × Int := if κ' = -1 then (lesF F x x' κ, x') else (lesF F x (divF F (lesF F x x' 1) κ κ') κ, divF F (lesF F x x' 1) κ κ')
def cellF (F : List Cmp) (κ x κ' x' : Int) : Int × Int := if κ = -1 then cellO F κ' x' κ x else cellO F κ x κ' x'
section
variable {F : List Cmp} {many : Int} (A : Fam F many)
include A
theorem Fam.szP : AllP (szs F) := fun s hs => by
  obtain ⟨c, hc, rfl⟩ := List.mem_map.mp hs
  obtain ⟨i, hi, e⟩ := List.mem_iff_getElem.mp hc
  have := (A.ff i hi).A.prm.pos
  have e2 : cat F i = c := by unfold cat; rw [List.getD_eq_getElem?_getD, List.getElem?_eq_getElem hi]; exact e
  rw [e2] at this
  exact Int.pow_pos this
theorem Fam.fgR (x : Int) {i : Nat} (hi : i < F.length) : 0 ≤ fg F x i ∧ fg F x i < (cat F i).z := by
  have := (spl_in x A.szP).at i (by rw [szs_len]; exact hi)
  rw [szs_at F hi] at this
  exact this
theorem Fam.opI {g : Nat → Int → Int → Int} (hg : ∀ i a b, i < F.length → 0 ≤ g i a b ∧ g i a b < (cat F i).z) (x y : Int) : Inr (szs F) ((List.range F.length).map fun i => g i (fg F x i) (fg F y i)) := by
  refine Inr.of (by rw [List.length_map, List.length_range, szs_len]) fun i hi => ?_
  rw [szs_len] at hi
  rw [getD_rng _ hi, szs_at F hi]
  exact hg i _ _ hi
theorem Fam.opP {g : Nat → Int → Int → Int} (hg : ∀ i a b, i < F.length → 0 ≤ g i a b ∧ g i a b < (cat F i).z) (x y : Int) : Pt F (op F g x y) := jo_in A.szP (A.opI hg x y)
theorem Fam.fg_op {g : Nat → Int → Int → Int} (hg : ∀ i a b, i < F.length → 0 ≤ g i a b ∧ g i a b < (cat F i).z) (x y : Int) {i : Nat} (hi : i < F.length) : fg F (op F g x y) i = g i (fg F x i) (fg F y i) := by
  unfold fg op
  rw [spl_jo A.szP (A.opI hg x y), getD_rng _ hi]
  rfl
theorem Fam.ext {x y : Int} (hx : Pt F x) (hy : Pt F y) (h : ∀ i, i < F.length → fg F x i = fg F y i) : x = y := by
  rw [← jo_spl' A.szP hx.1 hx.2, ← jo_spl' A.szP hy.1 hy.2]
  congr 1
  refine List.ext_getElem (by rw [spl_len, spl_len]) fun i h1 h2 => ?_
  have := h i (by rw [spl_len, szs_len] at h1; exact h1)
  unfold fg at this
  rw [List.getD_eq_getElem?_getD, List.getD_eq_getElem?_getD, List.getElem?_eq_getElem h1, List.getElem?_eq_getElem h2] at this
  exact this
theorem Fam.fa (i : Nat) (a b : Int) (hi : i < F.length) : 0 ≤ fadd (cat F i).P (cat F i).lo.length a b ∧ fadd (cat F i).P (cat F i).lo.length a b < (cat F i).z := fadd_in (A.ff i hi).A a b
theorem Fam.fs (i : Nat) (a b : Int) (hi : i < F.length) : 0 ≤ fsub (cat F i).P (cat F i).lo.length a b ∧ fsub (cat F i).P (cat F i).lo.length a b < (cat F i).z := fsub_in (A.ff i hi).A a b
theorem Fam.fm (i : Nat) (a b : Int) (hi : i < F.length) : 0 ≤ fmul (cat F i).P (cat F i).lo a b ∧ fmul (cat F i).P (cat F i).lo a b < (cat F i).z := fmul_in (A.ff i hi).A a b
theorem Fam.hasP {κ r c : Int} (hc : Pt F c) : Pt F (hasF F κ r c) := by
  unfold hasF
  split
  · exact hc
  · exact A.opP (fun i a b hi => A.fa i _ _ hi) _ _
theorem Fam.lesP (x y κ : Int) : Pt F (lesF F x y κ) := A.opP (fun i a b hi => A.fs i _ _ hi) _ _
theorem Fam.divP (x κ κ' : Int) : Pt F (divF F x κ κ') := A.opP (fun i a b hi => A.fm i _ _ hi) _ _
theorem Fam.fg_has {κ : Int} (hκ : κ ≠ -1) (r c : Int) {i : Nat} (hi : i < F.length) : fg F (hasF F κ r c) i = fadd (cat F i).P (cat F i).lo.length (fg F r i) (fmul (cat F i).P (cat F i).lo κ (fg F c i)) := by
  unfold hasF
  rw [if_neg hκ, A.fg_op (fun i a b hi => A.fa i _ _ hi) _ _ hi]
theorem Fam.fg_les (x y κ : Int) {i : Nat} (hi : i < F.length) : fg F (lesF F x y κ) i = fsub (cat F i).P (cat F i).lo.length (fg F x i) (fmul (cat F i).P (cat F i).lo κ (fg F y i)) := by
  unfold lesF
  rw [A.fg_op (fun i a b hi => A.fs i _ _ hi) _ _ hi]
theorem Fam.fg_div (x κ κ' : Int) {i : Nat} (hi : i < F.length) : fg F (divF F x κ κ') i = fmul (cat F i).P (cat F i).lo (fg F x i) (finv (cat F i) (fsub (cat F i).P (cat F i).lo.length κ κ')) := by
  unfold divF
  rw [A.fg_op (fun i a b hi => A.fm i _ _ hi) _ _ hi]
end
/-! ### one field -/
section
variable {P : Nat} {lo : List Int} (B : FF P lo)
include B
theorem FF.sub_add {a : Int} (ha : 0 ≤ a ∧ a < (P : Int) ^ lo.length) (b : Int) : fadd P lo.length (fsub P lo.length a b) b = a := less_plus B.A.prm ha.1 ha.2
theorem FF.add_sub {a : Int} (ha : 0 ≤ a ∧ a < (P : Int) ^ lo.length) (b : Int) : fsub P lo.length (fadd P lo.length a b) b = a := fsub_add B.A ha b
theorem FF.cancel_l {a b : Int} (c : Int) (ha : 0 ≤ a ∧ a < (P : Int) ^ lo.length) (hb : 0 ≤ b ∧ b < (P : Int) ^ lo.length) (h : fadd P lo.length c a = fadd P lo.length c b) : a = b := by
  rw [fadd_comm B.A c a, fadd_comm B.A c b] at h
  rw [← B.add_sub ha c, h, B.add_sub hb c]
theorem FF.add_fmul (a b c : Int) : fmul P lo (fadd P lo.length a b) c = fadd P lo.length (fmul P lo a c) (fmul P lo b c) := by
  rw [fmul_comm B.A _ c, fmul_add B.A, fmul_comm B.A c a, fmul_comm B.A c b]
theorem FF.sub_ne {a b : Int} (ha : 0 ≤ a ∧ a < (P : Int) ^ lo.length) (hb : 0 ≤ b ∧ b < (P : Int) ^ lo.length) (h : a ≠ b) : 0 < fsub P lo.length a b := by
  have r := fsub_in B.A a b
  have q := B.sub_add ha b
  by_cases z : fsub P lo.length a b = 0
  · rw [z, fadd_0 B.A hb] at q
    exact absurd q.symm h
  · omega
/-- the line through two signs -/
theorem FF.line {κ κ' r c : Int} (hκ : 0 ≤ κ ∧ κ < (P : Int) ^ lo.length) (hκ' : 0 ≤ κ' ∧ κ' < (P : Int) ^ lo.length) (hr : 0 ≤ r ∧ r < (P : Int) ^ lo.length) :
    fsub P lo.length (fadd P lo.length r (fmul P lo κ c)) (fadd P lo.length r (fmul P lo κ' c)) = fmul P lo (fsub P lo.length κ κ') c := by
  have A := B.A
  have e : fmul P lo κ c = fadd P lo.length (fmul P lo (fsub P lo.length κ κ') c) (fmul P lo κ' c) := by
    rw [← B.add_fmul, B.sub_add hκ]
  rw [e, ← fadd_assoc A, fadd_comm A r, fadd_assoc A]
  exact B.add_sub (fmul_in A _ _) _
theorem FF.back {d c : Int} (d0 : 0 < d) (d1 : d < (P : Int) ^ lo.length) (hc : 0 ≤ c ∧ c < (P : Int) ^ lo.length) : fmul P lo (fmul P lo d c) (finv ⟨P, lo⟩ d) = c := by
  have A := B.A
  show fmul P lo (fmul P lo d c) (fpow P lo d (P ^ lo.length - 2)) = c
  rw [fmul_comm A d c, fmul_assoc A, B.inv d0 d1, fmul_comm A, fmul_1 A hc.1 hc.2]
theorem FF.fore {d c : Int} (d0 : 0 < d) (d1 : d < (P : Int) ^ lo.length) (hc : 0 ≤ c ∧ c < (P : Int) ^ lo.length) : fmul P lo d (fmul P lo c (finv ⟨P, lo⟩ d)) = c := by
  rw [← fmul_assoc B.A]; exact B.back d0 d1 hc
end
/-! ### the cell of two kinds -/
section
variable {F : List Cmp} {many : Int} (A : Fam F many)
include A
theorem Fam.kind {κ : Int} (h0 : 0 ≤ κ) (h1 : κ ≤ many) {i : Nat} (hi : i < F.length) : 0 ≤ κ ∧ κ < (cat F i).z := ⟨h0, by have := A.most i hi; omega⟩
theorem Fam.les1 {x y : Int} {i : Nat} (hi : i < F.length) : fg F (lesF F x y 1) i = fsub (cat F i).P (cat F i).lo.length (fg F x i) (fg F y i) := by
  have R := A.fgR y hi
  rw [A.fg_les x y 1 hi, fmul_1 (A.ff i hi).A R.1 R.2]
theorem Fam.O_has {κ κ' r c : Int} (hκ : 0 ≤ κ ∧ κ ≤ many) (hκ' : -1 ≤ κ' ∧ κ' ≤ many) (ne : κ ≠ κ') (hr : Pt F r) (hc : Pt F c) : cellO F κ (hasF F κ r c) κ' (hasF F κ' r c) = (r, c) := by
  have back : lesF F (hasF F κ r c) c κ = r := A.ext (A.lesP _ _ _) hr fun i hi => by
    rw [A.fg_les _ _ _ hi, A.fg_has (by omega) _ _ hi]
    exact (A.ff i hi).add_sub (A.fgR r hi) _
  unfold cellO
  by_cases e : κ' = -1
  · rw [if_pos e]
    subst e
    rw [show hasF F (-1) r c = c from if_pos rfl, back]
  · rw [if_neg e]
    have hc' : divF F (lesF F (hasF F κ r c) (hasF F κ' r c) 1) κ κ' = c := A.ext (A.divP _ _ _) hc fun i hi => by
      have k1 := A.kind hκ.1 hκ.2 hi
      have k2 := A.kind (by omega) hκ'.2 hi
      have B := A.ff i hi
      rw [A.fg_div _ _ _ hi, A.les1 hi, A.fg_has (by omega) _ _ hi, A.fg_has e _ _ hi, B.line k1 k2 (A.fgR r hi)]
      exact B.back (B.sub_ne k1 k2 ne) (fsub_in B.A _ _).2 (A.fgR c hi)
    rw [hc', back]
theorem Fam.has_O {κ κ' x x' : Int} (hκ : 0 ≤ κ ∧ κ ≤ many) (hκ' : -1 ≤ κ' ∧ κ' ≤ many) (ne : κ ≠ κ') (hx : Pt F x) (hx' : Pt F x') :
    Pt F (cellO F κ x κ' x').1 ∧ Pt F (cellO F κ x κ' x').2 ∧ hasF F κ (cellO F κ x κ' x').1 (cellO F κ x κ' x').2 = x ∧ hasF F κ' (cellO F κ x κ' x').1 (cellO F κ x κ' x').2 = x' := by
  have fore : ∀ c, Pt F c → hasF F κ (lesF F x c κ) c = x := fun c hc => A.ext (A.hasP hc) hx fun i hi => by
    rw [A.fg_has (by omega) _ _ hi, A.fg_les _ _ _ hi]
    exact (A.ff i hi).sub_add (A.fgR x hi) _
  unfold cellO
  by_cases e : κ' = -1
  · rw [if_pos e]
    subst e
    exact ⟨A.lesP _ _ _, hx', fore _ hx', if_pos rfl⟩
  · rw [if_neg e]
    have pc := A.divP (lesF F x x' 1) κ κ'
    refine ⟨A.lesP _ _ _, pc, fore _ pc, A.ext (A.hasP pc) hx' fun i hi => ?_⟩
    have k1 := A.kind hκ.1 hκ.2 hi
    have k2 := A.kind (by omega) hκ'.2 hi
    have B := A.ff i hi
    have f1 : fg F (hasF F κ (lesF F x (divF F (lesF F x x' 1) κ κ') κ) (divF F (lesF F x x' 1) κ κ')) i = fg F x i := by rw [fore _ pc]
    rw [A.fg_has (by omega) _ _ hi] at f1
    rw [A.fg_has e _ _ hi]
    have fc : fmul (cat F i).P (cat F i).lo (fsub (cat F i).P (cat F i).lo.length κ κ') (fg F (divF F (lesF F x x' 1) κ κ') i) = fsub (cat F i).P (cat F i).lo.length (fg F x i) (fg F x' i) := by
      rw [A.fg_div _ _ _ hi, A.les1 hi]
      exact B.fore (B.sub_ne k1 k2 ne) (fsub_in B.A _ _).2 (fsub_in B.A _ _)
    generalize fg F (divF F (lesF F x x' 1) κ κ') i = c at f1 fc ⊢
    generalize fg F (lesF F x (divF F (lesF F x x' 1) κ κ') κ) i = r at f1 ⊢
    have e1 : fmul (cat F i).P (cat F i).lo κ c = fadd (cat F i).P (cat F i).lo.length (fsub (cat F i).P (cat F i).lo.length (fg F x i) (fg F x' i)) (fmul (cat F i).P (cat F i).lo κ' c) := by
      rw [← fc, ← B.add_fmul, B.sub_add k1]
    rw [e1, ← fadd_assoc B.A, fadd_comm B.A r, fadd_assoc B.A] at f1
    have f2 := B.sub_add (A.fgR x hi) (fg F x' i)
    rw [← f2] at f1
    rw [B.add_sub (fsub_in B.A _ _)] at f1
    exact B.cancel_l _ (fadd_in B.A _ _) (A.fgR x' hi) f1
theorem Fam.cell_has {κ κ' r c : Int} (hκ : -1 ≤ κ ∧ κ ≤ many) (hκ' : -1 ≤ κ' ∧ κ' ≤ many) (ne : κ ≠ κ') (hr : Pt F r) (hc : Pt F c) : cellF F κ (hasF F κ r c) κ' (hasF F κ' r c) = (r, c) := by
  unfold cellF
  split
  · exact A.O_has (by omega) hκ (Ne.symm ne) hr hc
  · exact A.O_has (by omega) hκ' ne hr hc
theorem Fam.has_cell {κ κ' x x' : Int} (hκ : -1 ≤ κ ∧ κ ≤ many) (hκ' : -1 ≤ κ' ∧ κ' ≤ many) (ne : κ ≠ κ') (hx : Pt F x) (hx' : Pt F x') :
    Pt F (cellF F κ x κ' x').1 ∧ Pt F (cellF F κ x κ' x').2 ∧ hasF F κ (cellF F κ x κ' x').1 (cellF F κ x κ' x').2 = x ∧ hasF F κ' (cellF F κ x κ' x').1 (cellF F κ x κ' x').2 = x' := by
  unfold cellF
  split
  · obtain ⟨a, b, c, d⟩ := A.has_O (κ := κ') (κ' := κ) (by omega) hκ (Ne.symm ne) hx' hx
    exact ⟨a, b, d, c⟩
  · exact A.has_O (by omega) hκ' ne hx hx'
theorem Fam.row0 {r c : Int} (hr : Pt F r) : hasF F 0 r c = r := A.ext (by unfold hasF; rw [if_neg (by decide)]; exact A.opP (fun i a b hi => A.fa i _ _ hi) _ _) hr fun i hi => by
  have B := A.ff i hi
  rw [A.fg_has (by decide) _ _ hi, B.fmul_0, fadd_comm B.A, fadd_0 B.A (A.fgR r hi)]
end
end Ev
namespace Ev
open PySem PySem.Spec PyProof.Rows L2
/-- a loop over a range's items -/
theorem for_map {g : D → Env → Hs → Out} {b : Env → Hs → Out} (n : Nat) (f : Nat → D) (R : Nat → Env → Hs → Prop) {ρ : Env} {h : Hs} (hr : R 0 ρ h)
    (hs : ∀ j ρ h, j < n → R j ρ h → ∃ ρ1 h1 ρ' h', g (f j) ρ h = .nx ρ1 h1 ∧ b ρ1 h1 = .nx ρ' h' ∧ R (j + 1) ρ' h') :
    ∃ ρ' h', forD g b ((List.range n).map f) ρ h = .nx ρ' h' ∧ R n ρ' h' := by
  obtain ⟨ρ', h', e, r⟩ := forD_rel (σ := Unit) (g := g) (b := b) R ((List.range n).map f) 0 ρ h hr fun j x ρ h hx hR => by
    have hj : j < n := by
      have := (List.getElem?_eq_some_iff.mp hx).1
      rw [List.length_map, List.length_range] at this; exact this
    rw [List.getElem?_map, List.getElem?_range hj] at hx
    cases hx
    rw [Nat.zero_add] at hR ⊢
    obtain ⟨ρ1, h1, ρ2, h2, a, b, c⟩ := hs j ρ h hj hR
    exact ⟨ρ1, h1, ρ2, h2, a, .inl b, c⟩
  rw [List.length_map, List.length_range, Nat.zero_add] at r
  exact ⟨ρ', h', e, r⟩
theorem getD_ints (xs : List Int) {j : Nat} (hj : j < xs.length) : (xs.map D.int).getD j .non = .int (xs.getD j 0) := by
  rw [List.getD_eq_getElem?_getD, List.getD_eq_getElem?_getD, List.getElem?_map, List.getElem?_eq_getElem hj]; rfl
theorem getD_get (xs : List Int) {j : Nat} (hj : j < xs.length) : xs[j]? = some (xs.getD j 0) := by
  rw [List.getD_eq_getElem?_getD, List.getElem?_eq_getElem hj]; rfl
theorem szs_cat (F : List Cmp) {i : Nat} (hi : i < F.length) : (szs F)[i]? = some (cat F i).z := by
  rw [getD_get _ (by rw [szs_len]; exact hi), szs_at F hi]
theorem jo_step {ss fs : List Int} {j : Nat} {s f t : Int} (e : ss[j]? = some s) (e' : fs[j]? = some f) : (t * s + f) * prd (ss.drop (j + 1)) + jo (ss.drop (j + 1)) (fs.drop (j + 1)) = t * prd (ss.drop j) + jo (ss.drop j) (fs.drop j) := by
  rw [drop_at e, drop_at e']
  show _ = t * (s * prd _) + (f * prd _ + jo _ _)
  rw [Int.add_mul, Int.mul_assoc, Int.add_assoc]
theorem Sz.at {F : List Cmp} (Z : Sz F) {i : Nat} (hi : i < F.length) : 0 < (cat F i).z ∧ (cat F i).z < 1073741824 := by
  have := List.mem_of_getElem? (szs_cat F hi)
  exact ⟨Z.pos _ this, Z.top _ this⟩
theorem getD_F {α : Type} (f : Cmp → α) (d : α) (F : List Cmp) {j : Nat} (hj : j < F.length) : (F.map f).getD j d = f (cat F j) := by
  unfold cat
  rw [List.getD_eq_getElem?_getD, List.getD_eq_getElem?_getD, List.getElem?_map, List.getElem?_eq_getElem hj]; rfl
end Ev
set_option maxHeartbeats 1000000
/-! Ev, part Fn: what a family's square has in rows and columns: one place each; comprehensions over a range. -/
namespace Ev
open PySem PySem.Spec PyProof.Rows L2
theorem lc_rngF {c : Cfg} {i : Nat} {x : Str} {ρ : Env} {h : Hs} {it : Itx} {cond elt : Ex} {n : Nat} (q : Nat → Bool) (hl : i < ρ.length) (hn : n ≤ LN) (hit : it.den c ρ h = .ok ((List.range n).map fun k : Nat => D.int (k : Nat)) h)
    (hc : ∀ k : Nat, k < n → (cond.dt c).2 ((ρ.set i none).set i (some (.int (k : Nat)))) h = .ok (q k) h) (he : ∀ k : Nat, k < n → (elt.dt c).1 ((ρ.set i none).set i (some (.int (k : Nat)))) h = .ok (.int (k : Nat)) h) :
    (Ex.dt c (.lc true [(x, i)] (.name i) it (.cons cond .nil) elt)).1 ρ h = .ok (.lst (((List.range n).filter q).map fun k : Nat => D.int (k : Nat))) h := by
  rw [den_lc, hit]
  have w : wipeE ρ ([(x, i)].map (·.2)) = ρ.set i none := rfl
  have key := lc_filt (c := c) (i := i) (ρ := ρ.set i none) (cond := (cond.dt c).2) (e := (elt.dt c).1) (h := h) q (by rw [List.length_set]; exact hl) (List.range n) [] (fun k hk => ⟨hc k (List.mem_range.mp hk), he k (List.mem_range.mp hk)⟩) (by rw [List.length_range]; simpa using hn)
  rw [bd_ok, w]
  show ((lcD (Tg.den c (.name i)) (cond.dt c).2 (elt.dt c).1 (ρ.set i none) _ [] h).bd _ .mk) = _
  rw [key, bd_ok, List.nil_append, new_fz (by rw [List.length_map]; exact Nat.le_trans (List.length_filter_le _ _) (by rw [List.length_range]; exact hn))]
theorem filt_one {q : Nat → Bool} {m : Nat} (hq : ∀ j, q j = true ↔ j = m) : ∀ {n : Nat}, m < n → (List.range n).filter q = [m]
  | 0, h => absurd h (Nat.not_lt_zero m)
  | n + 1, h => by
    rw [List.range_succ, List.filter_append]
    by_cases e : m = n
    · subst e
      rw [filt_none fun j hj => by
        cases z : q j with
        | false => rfl
        | true => exact absurd ((hq j).mp z) (by omega)]
      rw [List.filter_cons, if_pos ((hq m).mpr rfl)]; rfl
    · rw [filt_one hq (by omega), List.filter_cons, if_neg (by rw [hq]; omega)]; rfl
theorem filt_oneL {q : Nat → Bool} {m : Nat} : ∀ {n : Nat}, (∀ j, j < n → (q j = true ↔ j = m)) → m < n → (List.range n).filter q = [m] := fun {n} hq hm => by
  have : (List.range n).filter q = (List.range n).filter fun j => decide (j = m) := List.filter_congr fun j hj => by
    have := hq j (List.mem_range.mp hj)
    cases z : q j with
    | false => rw [z] at this; symm; rw [decide_eq_false_iff_not]; intro w; have := this.mpr w; cases this
    | true => rw [z] at this; symm; rw [decide_eq_true_iff]; exact this.mp rfl
  rw [this]
  exact filt_one (fun j => decide_eq_true_iff) hm
section
variable {F : List Cmp} {many : Int} (A : Fam F many)
include A
/-- the row of a sign in a column -/
theorem Fam.row_iff {m c s r : Int} (hm : 1 ≤ m ∧ m ≤ many) (hc : Pt F c) (hs : Pt F s) (hr : Pt F r) : hasF F m r c = s ↔ r = (cellF F (-1) c m s).1 := by
  constructor
  · rintro rfl
    have := A.cell_has (κ := -1) (κ' := m) (r := r) (c := c) (by omega) (by omega) (by omega) hr hc
    rw [show hasF F (-1) r c = c from if_pos rfl] at this
    rw [this]
  · rintro rfl
    obtain ⟨p1, p2, q1, q2⟩ := A.has_cell (κ := -1) (κ' := m) (x := c) (x' := s) (by omega) (by omega) (by omega) hc hs
    rw [show ∀ a b, hasF F (-1) a b = b from fun _ _ => if_pos rfl] at q1
    rw [q1] at q2
    exact q2
theorem Fam.col_iff {m c s r : Int} (hm : 1 ≤ m ∧ m ≤ many) (hc : Pt F c) (hs : Pt F s) (hr : Pt F r) : hasF F m r c = s ↔ c = (cellF F 0 r m s).2 := by
  constructor
  · rintro rfl
    have := A.cell_has (κ := 0) (κ' := m) (r := r) (c := c) (by omega) (by omega) (by omega) hr hc
    rw [A.row0 hr] at this
    rw [this]
  · rintro rfl
    obtain ⟨p1, p2, q1, q2⟩ := A.has_cell (κ := 0) (κ' := m) (x := r) (x' := s) (by omega) (by omega) (by omega) hr hs
    rw [A.row0 p1] at q1
    rw [q1] at q2
    exact q2
end
end Ev
set_option maxHeartbeats 1000000
/-! Ev, part Fk: the kinds in a cell, some of them taken out. -/
namespace Ev
open PySem PySem.Spec PyProof.Rows L2
theorem erase_map {α β : Type} (f : α → β) : ∀ (xs : List α) (i : Nat), (xs.map f).eraseIdx i = (xs.eraseIdx i).map f
  | [], _ => by simp
  | x :: xs, 0 => by simp
  | x :: xs, i + 1 => by simp only [List.map_cons, List.eraseIdx_cons_succ, erase_map f xs i]
/-- columns, rows, squares -/
def kin (many : Int) : List Int := (List.range (many + 2).toNat).map fun k : Nat => -1 + (k : Int)
theorem kin_len {many : Int} (h : 0 ≤ many) : ((kin many).length : Int) = many + 2 := by
  unfold kin; rw [List.length_map, List.length_range]; omega
theorem kin_at {many : Int} {i : Nat} (hi : i < (kin many).length) : (kin many).getD i 0 = -1 + (i : Int) := by
  unfold kin at hi ⊢
  rw [List.length_map, List.length_range] at hi
  exact getD_rng _ hi
theorem lr_kin {many : Int} (h0 : 0 ≤ many) (h1 : many < 1000) (h : Hs) : lr2D false (.int (-1)) (.int (many + 1)) h = .ok (.ref h.length) (h ++ [.lst ((kin many).map .int)]) := by
  have hN := LN_eq
  have e : (List.range (many + 1 - -1).toNat).map (fun k : Nat => D.int (-1 + (k : Int))) = (kin many).map .int := by
    unfold kin
    rw [List.map_map, show many + 1 - -1 = many + 2 from by omega]
    rfl
  unfold lr2D
  dsimp only
  rw [if_pos (by omega), e, new_cell (by rw [List.length_map]; have := kin_len h0; omega)]
theorem lr_kinF {many : Int} (h0 : 0 ≤ many) (h1 : many < 1000) (h : Hs) : lr2D true (.int (-1)) (.int (many + 1)) h = .ok (.lst ((kin many).map .int)) h := by
  have hN := LN_eq
  have e : (List.range (many + 1 - -1).toNat).map (fun k : Nat => D.int (-1 + (k : Int))) = (kin many).map .int := by
    unfold kin
    rw [List.map_map, show many + 1 - -1 = many + 2 from by omega]
    rfl
  unfold lr2D
  dsimp only
  rw [if_pos (by omega), e, new_fz (by rw [List.length_map]; have := kin_len h0; omega)]
section
variable {h : Hs} {n : Nat} {xs : List Int} (e : h[n]? = some (.lst (xs.map D.int)))
include e
theorem popAt_n {i : Int} (i0 : 0 ≤ i) (hi : i < xs.length) (hl : xs.length ≤ LN) : methD .popAt (.ref n) [.int i] h = .ok (.int (xs.getD i.toNat 0)) (h.set n (.lst ((xs.eraseIdx i.toNat).map .int))) := by
  unfold methD
  simp only [e, List.length_map]
  rw [if_pos ⟨i0, hi, hl⟩, List.getElem?_map, getD_get xs (by omega)]
  show R.ok _ _ = _
  rw [erase_map]
theorem idx_n {i : Int} (i0 : 0 ≤ i) (hi : i < xs.length) : idxD (.ref n) (.int i) h = .ok (.int (xs.getD i.toNat 0)) h := by
  have q : dctOf h (.ref n) = none := by unfold dctOf; simp only [e]
  unfold idxD
  rw [q]
  simp only [seq_ref e]
  rw [at_ok i0 hi]
  rfl
theorem len_n {fz : Bool} : primD .len fz [.ref n] h = .ok (.int xs.length) h := by
  rw [pr_lenR e, List.length_map]
end
/-- two of them: apart -/
theorem kin_two {many : Int} (h0 : 0 ≤ many) {i j : Nat} (hi : i < (kin many).length) (hj : j < ((kin many).eraseIdx i).length) :
    (-1 ≤ (kin many).getD i 0 ∧ (kin many).getD i 0 ≤ many) ∧ (-1 ≤ ((kin many).eraseIdx i).getD j 0 ∧ ((kin many).eraseIdx i).getD j 0 ≤ many) ∧ (kin many).getD i 0 ≠ ((kin many).eraseIdx i).getD j 0 := by
  have hl := kin_len h0
  have le : ((kin many).eraseIdx i).length = (kin many).length - 1 := List.length_eraseIdx_of_lt hi
  have e : ((kin many).eraseIdx i).getD j 0 = (kin many).getD (if j < i then j else j + 1) 0 := by
    rw [List.getD_eq_getElem?_getD, List.getD_eq_getElem?_getD, List.getElem?_eraseIdx]
    split <;> rfl
  rw [e, kin_at hi]
  by_cases q : j < i
  · rw [if_pos q, kin_at (by omega)]; omega
  · rw [if_neg q, kin_at (by omega)]; omega
end Ev
set_option maxHeartbeats 0
namespace K40
open PySem PySem.Spec PyProof.Rows L2 Ev
def FUEL : Nat := 2000000
def DEEP : Nat := 60
/-! the defs in their small forms (printed by wip/gen.py) -/
def b0_4 : Sms := .cons (.ret (.freeze (.var 2))) .nil
def b0_3a_1a_1 : Sms := .cons (.set 3 (.bin .fdiv true (.var 3) (.cint 1009))) .nil
def b0_3a_1a_0 : Sms := .cons (.expr (.meth .append (.var 2) (.cons (.bin .mod true (.prim .intOf true (.cons (.var 3) .nil)) (.cint 1009)) .nil))) b0_3a_1a_1
def b0_3a_1b_0 : Sms := .cons (.expr (.meth .append (.var 2) (.cons (.bin .mod true (.prim .intOf true (.cons (.bin .fdiv true (.var 4) (.cint 7)) .nil)) (.cint 1009)) .nil))) .nil
def b0_3a_1 : Sms := .cons (.ite (.cmp .ge (.prim .abs true (.cons (.var 0) .nil)) (.bin .pow true (.cint 10) (.cint 18))) b0_3a_1a_0 b0_3a_1b_0) .nil
def b0_3a_0 : Sms := .cons (.set 4 (.bin .mod true (.prim .intOf true (.cons (.bin .add true (.bin .mul true (.var 4) (.cint 16807)) (.bin .mul true (.cint 271) (.bin .add true (.var 5) (.cint 3)))) .nil)) (.cint 2147483629))) b0_3a_1
def b0_3 : Sms := .cons (.for (.name 5) (.range (.cons (.var 1) .nil)) b0_3a_0) b0_4
def b0_2 : Sms := .cons (.set 4 (.bin .mod true (.prim .intOf true (.cons (.bin .add true (.bin .mul true (.var 3) (.cint 48271)) (.cint 69621)) .nil)) (.cint 2147483647))) b0_3
def b0_1 : Sms := .cons (.set 3 (.prim .abs true (.cons (.var 0) .nil))) b0_2
def b0_0 : Sms := .cons (.set 2 (.lst false .nil)) b0_1
def f0 : Fn := ⟨("_law_row" : Str), ["_law_cell", "_law_many_here"], ["_law_cell", "_law_many_here", "_law_row_here", "_law_rest", "_law_mixed", "_law_k"], b0_0, false, none, ("_law_row" : Str)⟩
def b1_5 : Sms := .cons (.ret (.slice true (.var 4) .nil (.cons (.var 1) .nil))) .nil
def b1_4a_0 : Sms := .cons (.expr (.meth .append (.var 4) (.cons (.cint 0) .nil))) .nil
def b1_4 : Sms := .cons (.while (.cmp .lt (.prim .len true (.cons (.var 4) .nil)) (.var 1)) b1_4a_0) b1_5
def b1_3a_0a_0 : Sms := .cons (.expr (.meth .append (.var 4) (.cons (.var 6) .nil))) .nil
def b1_3a_0 : Sms := .cons (.for (.name 6) (.seq (.call 0 (.cons (.var 5) (.cons (.var 3) .nil)))) b1_3a_0a_0) .nil
def b1_3 : Sms := .cons (.for (.name 5) (.seq (.var 2)) b1_3a_0) b1_4
def b1_2 : Sms := .cons (.set 4 (.lst false .nil)) b1_3
def b1_1 : Sms := .cons (.set 3 (.bin .add true (.cint 1) (.bin .fdiv true (.var 1) (.prim .max2 true (.cons (.cint 1) (.cons (.prim .len true (.cons (.var 2) .nil)) .nil)))))) b1_2
def b1_0 : Sms := .cons (.set 2 (.slice true (.var 0) .nil (.cons (.cint 63) .nil))) b1_1
def f1 : Fn := ⟨("_law_numbers" : Str), ["_law_script", "_law_many_here"], ["_law_script", "_law_many_here", "_law_cells", "_law_each", "_law_numbers_here", "_law_cell", "_law_number_here"], b1_0, false, none, ("_law_numbers" : Str)⟩
def b2_2 : Sms := .cons (.ret (.cmp .gt (.var 0) (.cint 1))) .nil
def b2_1a_1 : Sms := .cons (.aug 1 .add (.cint 1)) .nil
def b2_1a_0a_0 : Sms := .cons (.ret (.cbl false)) .nil
def b2_1a_0 : Sms := .cons (.ite (.cmp .eq (.bin .mod true (.var 0) (.var 1)) (.cint 0)) b2_1a_0a_0 .nil) b2_1a_1
def b2_1 : Sms := .cons (.while (.cmp .le (.bin .mul true (.var 1) (.var 1)) (.var 0)) b2_1a_0) b2_2
def b2_0 : Sms := .cons (.set 1 (.cint 2)) b2_1
def f2 : Fn := ⟨("is_prime" : Str), ["number"], ["number", "divisor"], b2_0, false, none, ("is_prime" : Str)⟩
def b3_2 : Sms := .cons (.ret (.var 2)) .nil
def b3_1a_0 : Sms := .cons (.aug 2 .mul (.var 0)) .nil
def b3_1 : Sms := .cons (.for (.name 3) (.range (.cons (.var 1) .nil)) b3_1a_0) b3_2
def b3_0 : Sms := .cons (.set 2 (.cint 1)) b3_1
def f3 : Fn := ⟨("size_of" : Str), ["prime", "degree"], ["prime", "degree", "size", "_"], b3_0, false, none, ("size_of" : Str)⟩
def b4_2 : Sms := .cons (.ret (.and (.call 2 (.cons (.var 0) .nil)) (.cmp .le (.call 3 (.cons (.var 0) (.cons (.var 1) .nil))) (.glob ("MOST_SIZE" : Str))))) .nil
def b4_1a_0 : Sms := .cons (.ret (.cbl false)) .nil
def b4_1 : Sms := .cons (.ite (.or (.not (.chain .le .le (.cint 2) (.var 1) (.glob ("MOST_DEGREE" : Str)))) (.not (.chain .le .le (.cint 2) (.var 0) (.glob ("MOST_BASE" : Str))))) b4_1a_0 .nil) b4_2
def b4_0a_0 : Sms := .cons (.ret (.and (.cmp .le (.var 0) (.glob ("MOST_PRIME" : Str))) (.call 2 (.cons (.var 0) .nil)))) .nil
def b4_0 : Sms := .cons (.ite (.cmp .eq (.var 1) (.cint 1)) b4_0a_0 .nil) b4_1
def f4 : Fn := ⟨("is_field" : Str), ["prime", "degree"], ["prime", "degree"], b4_0, false, none, ("is_field" : Str)⟩
def b5_2 : Sms := .cons (.ret (.freeze (.var 3))) .nil
def b5_1a_1 : Sms := .cons (.aug 2 .fdiv (.var 0)) .nil
def b5_1a_0 : Sms := .cons (.expr (.meth .append (.var 3) (.cons (.bin .mod true (.var 2) (.var 0)) .nil))) b5_1a_1
def b5_1 : Sms := .cons (.for (.name 4) (.range (.cons (.var 1) .nil)) b5_1a_0) b5_2
def b5_0 : Sms := .cons (.set 3 (.lst false .nil)) b5_1
def f5 : Fn := ⟨("figures_of" : Str), ["prime", "many", "number"], ["prime", "many", "number", "found", "_"], b5_0, false, none, ("figures_of" : Str)⟩
def b6_2 : Sms := .cons (.ret (.var 2)) .nil
def b6_1a_0 : Sms := .cons (.set 2 (.bin .add true (.bin .mul true (.var 2) (.var 0)) (.var 3))) .nil
def b6_1 : Sms := .cons (.for (.name 3) (.seq (.rev true (.var 1))) b6_1a_0) b6_2
def b6_0 : Sms := .cons (.set 2 (.cint 0)) b6_1
def f6 : Fn := ⟨("number_of" : Str), ["prime", "figures"], ["prime", "figures", "found", "figure"], b6_0, false, none, ("number_of" : Str)⟩
def b7_3 : Sms := .cons (.ret (.slice true (.var 4) .nil (.cons (.var 3) .nil))) .nil
def b7_2a_1a_0 : Sms := .cons (.asg (.idx (.var 4) (.bin .add true (.bin .sub true (.var 5) (.var 3)) (.var 7))) (.bin .mod true (.bin .sub true (.idx (.var 4) (.bin .add true (.bin .sub true (.var 5) (.var 3)) (.var 7))) (.bin .mul true (.var 6) (.var 8))) (.var 0))) .nil
def b7_2a_1 : Sms := .cons (.for (.tup (.cons (.name 7) (.cons (.name 8) .nil))) (.enum (.var 1)) b7_2a_1a_0) .nil
def b7_2a_0 : Sms := .cons (.set 6 (.idx (.var 4) (.var 5))) b7_2a_1
def b7_2 : Sms := .cons (.for (.name 5) (.range (.cons (.bin .sub true (.prim .len true (.cons (.var 4) .nil)) (.cint 1)) (.cons (.bin .sub true (.var 3) (.cint 1)) (.cons (.neg (.cint 1)) .nil)))) b7_2a_0) b7_3
def b7_1 : Sms := .cons (.set 4 (.bin .add false (.prim .listOf true (.cons (.var 2) .nil)) (.bin .mul true (.lst true (.cons (.cint 0) .nil)) (.bin .sub true (.var 3) (.prim .len true (.cons (.var 2) .nil)))))) b7_2
def b7_0 : Sms := .cons (.set 3 (.prim .len true (.cons (.var 1) .nil))) b7_1
def f7 : Fn := ⟨("remainder" : Str), ["prime", "lower", "figures"], ["prime", "lower", "figures", "degree", "row", "at", "top", "place", "part"], b7_0, false, none, ("remainder" : Str)⟩
def b8_2 : Sms := .cons (.ret (.freeze (.var 3))) .nil
def b8_1a_0a_0 : Sms := .cons (.asg (.idx (.var 3) (.bin .add true (.var 4) (.var 6))) (.bin .mod true (.bin .add true (.idx (.var 3) (.bin .add true (.var 4) (.var 6))) (.bin .mul true (.var 5) (.var 7))) (.var 0))) .nil
def b8_1a_0 : Sms := .cons (.for (.tup (.cons (.name 6) (.cons (.name 7) .nil))) (.enum (.var 2)) b8_1a_0a_0) .nil
def b8_1 : Sms := .cons (.for (.tup (.cons (.name 4) (.cons (.name 5) .nil))) (.enum (.var 1)) b8_1a_0) b8_2
def b8_0 : Sms := .cons (.set 3 (.bin .mul false (.lst true (.cons (.cint 0) .nil)) (.bin .sub true (.bin .add true (.prim .len true (.cons (.var 1) .nil)) (.prim .len true (.cons (.var 2) .nil))) (.cint 1)))) b8_1
def f8 : Fn := ⟨("multiplied" : Str), ["prime", "one", "other"], ["prime", "one", "other", "found", "at", "part", "place", "far"], b8_0, false, none, ("multiplied" : Str)⟩
def b9_2 : Sms := .cons (.ret (.var 4)) .nil
def b9_1a_2 : Sms := .cons (.aug 3 .fdiv (.cint 2)) .nil
def b9_1a_1 : Sms := .cons (.set 2 (.call 7 (.cons (.var 0) (.cons (.var 1) (.cons (.call 8 (.cons (.var 0) (.cons (.var 2) (.cons (.var 2) .nil)))) .nil))))) b9_1a_2
def b9_1a_0a_0 : Sms := .cons (.set 4 (.call 7 (.cons (.var 0) (.cons (.var 1) (.cons (.call 8 (.cons (.var 0) (.cons (.var 4) (.cons (.var 2) .nil)))) .nil))))) .nil
def b9_1a_0 : Sms := .cons (.ite (.cmp .eq (.bin .mod true (.var 3) (.cint 2)) (.cint 1)) b9_1a_0a_0 .nil) b9_1a_1
def b9_1 : Sms := .cons (.while (.cmp .gt (.var 3) (.cint 0)) b9_1a_0) b9_2
def b9_0 : Sms := .cons (.set 4 (.call 7 (.cons (.var 0) (.cons (.var 1) (.cons (.lst true (.cons (.cint 1) .nil)) .nil))))) b9_1
def f9 : Fn := ⟨("raised" : Str), ["prime", "lower", "figures", "times"], ["prime", "lower", "figures", "times", "found"], b9_0, false, none, ("raised" : Str)⟩
def b10_2 : Sms := .cons (.ret (.prim .listOf true (.cons (.slice true (.var 0) .nil (.cons (.var 1) .nil)) .nil))) .nil
def b10_1a_0 : Sms := .cons (.aug 1 .sub (.cint 1)) .nil
def b10_1 : Sms := .cons (.while (.and (.cmp .gt (.var 1) (.cint 0)) (.cmp .eq (.idx (.var 0) (.bin .sub true (.var 1) (.cint 1))) (.cint 0))) b10_1a_0) b10_2
def b10_0 : Sms := .cons (.set 1 (.prim .len true (.cons (.var 0) .nil))) b10_1
def f10 : Fn := ⟨("trimmed" : Str), ["figures"], ["figures", "many"], b10_0, false, none, ("trimmed" : Str)⟩
def b11_3 : Sms := .cons (.ret (.cmp .gt (.prim .len true (.cons (.var 3) .nil)) (.cint 1))) .nil
def b11_2a_2 : Sms := .cons (.par [3, 4] (.cons (.var 4) (.cons (.call 10 (.cons (.call 7 (.cons (.var 0) (.cons (.var 6) (.cons (.var 3) .nil)))) .nil)) .nil))) .nil
def b11_2a_1 : Sms := .cons (.set 6 (.lc true [(("part" : Str), 7)] (.name 7) (.seq (.slice true (.var 4) .nil (.cons (.neg (.cint 1)) .nil))) .nil (.bin .mod true (.bin .mul true (.var 7) (.var 5)) (.var 0)))) b11_2a_2
def b11_2a_0 : Sms := .cons (.set 5 (.call 12 (.cons (.var 0) (.cons (.idx (.var 4) (.neg (.cint 1))) .nil)))) b11_2a_1
def b11_2 : Sms := .cons (.while (.var 4) b11_2a_0) b11_3
def b11_1 : Sms := .cons (.set 4 (.call 10 (.cons (.var 2) .nil))) b11_2
def b11_0 : Sms := .cons (.set 3 (.call 10 (.cons (.var 1) .nil))) b11_1
def f11 : Fn := ⟨("have_common" : Str), ["prime", "one", "other"], ["prime", "one", "other", "first", "second", "lead", "lower", "part"], b11_0, false, none, ("have_common" : Str)⟩
def b12_3 : Sms := .cons (.ret (.var 2)) .nil
def b12_2a_2 : Sms := .cons (.aug 3 .fdiv (.cint 2)) .nil
def b12_2a_1 : Sms := .cons (.set 1 (.bin .mod true (.bin .mul true (.var 1) (.var 1)) (.var 0))) b12_2a_2
def b12_2a_0a_0 : Sms := .cons (.set 2 (.bin .mod true (.bin .mul true (.var 2) (.var 1)) (.var 0))) .nil
def b12_2a_0 : Sms := .cons (.ite (.cmp .eq (.bin .mod true (.var 3) (.cint 2)) (.cint 1)) b12_2a_0a_0 .nil) b12_2a_1
def b12_2 : Sms := .cons (.while (.cmp .gt (.var 3) (.cint 0)) b12_2a_0) b12_3
def b12_1 : Sms := .cons (.set 3 (.bin .sub true (.var 0) (.cint 2))) b12_2
def b12_0 : Sms := .cons (.set 2 (.cint 1)) b12_1
def f12 : Fn := ⟨("turned_round" : Str), ["prime", "number"], ["prime", "number", "found", "times"], b12_0, false, none, ("turned_round" : Str)⟩
def b13_3 : Sms := .cons (.ret (.cbl true)) .nil
def b13_2a_3a_0 : Sms := .cons (.ret (.cbl false)) .nil
def b13_2a_3 : Sms := .cons (.ite (.call 11 (.cons (.var 0) (.cons (.bin .add true (.prim .listOf true (.cons (.var 1) .nil)) (.lst true (.cons (.cint 1) .nil))) (.cons (.freeze (.var 5)) .nil)))) b13_2a_3a_0 .nil) .nil
def b13_2a_2 : Sms := .cons (.asg (.idx (.var 5) (.cint 1)) (.bin .mod true (.bin .sub true (.idx (.var 5) (.cint 1)) (.cint 1)) (.var 0))) b13_2a_3
def b13_2a_1 : Sms := .cons (.set 5 (.prim .listOf false (.cons (.var 3) .nil))) b13_2a_2
def b13_2a_0 : Sms := .cons (.set 3 (.call 9 (.cons (.var 0) (.cons (.var 1) (.cons (.var 3) (.cons (.var 0) .nil)))))) b13_2a_1
def b13_2 : Sms := .cons (.for (.name 4) (.range (.cons (.bin .fdiv true (.var 2) (.cint 2)) .nil)) b13_2a_0) b13_3
def b13_1 : Sms := .cons (.set 3 (.call 7 (.cons (.var 0) (.cons (.var 1) (.cons (.lst true (.cons (.cint 0) (.cons (.cint 1) .nil))) .nil))))) b13_2
def b13_0 : Sms := .cons (.set 2 (.prim .len true (.cons (.var 1) .nil))) b13_1
def f13 : Fn := ⟨("is_irreducible" : Str), ["prime", "lower"], ["prime", "lower", "degree", "figures", "_", "apart"], b13_0, false, none, ("is_irreducible" : Str)⟩
def b14_2 : Sms := .cons (.ret (.prim .tupleOf true (.cons (.call 5 (.cons (.var 0) (.cons (.var 1) (.cons (.var 2) .nil)))) .nil))) .nil
def b14_1a_0 : Sms := .cons (.aug 2 .add (.cint 1)) .nil
def b14_1 : Sms := .cons (.while (.not (.call 13 (.cons (.var 0) (.cons (.call 5 (.cons (.var 0) (.cons (.var 1) (.cons (.var 2) .nil)))) .nil)))) b14_1a_0) b14_2
def b14_0 : Sms := .cons (.set 2 (.cint 0)) b14_1
def f14 : Fn := ⟨("lower_of" : Str), ["prime", "degree"], ["prime", "degree", "number"], b14_0, false, none, ("lower_of" : Str)⟩
def b15_3 : Sms := .cons (.ret (.var 3)) .nil
def b15_2a_1 : Sms := .cons (.par [1, 2, 4] (.cons (.bin .fdiv true (.var 1) (.var 0)) (.cons (.bin .fdiv true (.var 2) (.var 0)) (.cons (.bin .mul true (.var 4) (.var 0)) .nil)))) .nil
def b15_2a_0 : Sms := .cons (.aug 3 .add (.bin .mul true (.bin .mod true (.bin .add true (.var 1) (.var 2)) (.var 0)) (.var 4))) b15_2a_1
def b15_2 : Sms := .cons (.while (.or (.cmp .gt (.var 1) (.cint 0)) (.cmp .gt (.var 2) (.cint 0))) b15_2a_0) b15_3
def b15_1 : Sms := .cons (.set 4 (.cint 1)) b15_2
def b15_0 : Sms := .cons (.set 3 (.cint 0)) b15_1
def f15 : Fn := ⟨("sum_of" : Str), ["prime", "one", "other"], ["prime", "one", "other", "found", "step"], b15_0, false, none, ("sum_of" : Str)⟩
def b16_2 : Sms := .cons (.ret (.call 6 (.cons (.var 0) (.cons (.call 7 (.cons (.var 0) (.cons (.var 1) (.cons (.var 5) .nil)))) .nil)))) .nil
def b16_1 : Sms := .cons (.set 5 (.call 8 (.cons (.var 0) (.cons (.call 5 (.cons (.var 0) (.cons (.var 4) (.cons (.var 2) .nil)))) (.cons (.call 5 (.cons (.var 0) (.cons (.var 4) (.cons (.var 3) .nil)))) .nil))))) b16_2
def b16_0 : Sms := .cons (.set 4 (.prim .len true (.cons (.var 1) .nil))) b16_1
def f16 : Fn := ⟨("product_of" : Str), ["prime", "lower", "one", "other"], ["prime", "lower", "one", "other", "degree", "parts"], b16_0, false, none, ("product_of" : Str)⟩
def b17_1 : Sms := .cons (.ret (.call 4 (.cons (.idx (.var 0) (.cint 0)) (.cons (.idx (.var 0) (.cint 1)) .nil)))) .nil
def b17_0a_0 : Sms := .cons (.ret (.cbl false)) .nil
def b17_0 : Sms := .cons (.ite (.or (.not (.isin2 "tuple" "list" (.var 0))) (.or (.cmp .ne (.prim .len true (.cons (.var 0) .nil)) (.cint 2)) (.not (.prim .all true (.cons (.lc true [(("number" : Str), 1)] (.name 1) (.seq (.var 0)) .nil (.prim (.isinst "int") true (.cons (.var 1) .nil))) .nil))))) b17_0a_0 .nil) b17_1
def f17 : Fn := ⟨("is_prime_power" : Str), ["part"], ["part", "number"], b17_0, false, none, ("is_prime_power" : Str)⟩
def b18_5 : Sms := .cons (.ret (.prim .tupleOf true (.cons (.var 1) .nil))) .nil
def b18_4a_0 : Sms := .cons (.raise ("InvalidOrder" : Str)) .nil
def b18_4 : Sms := .cons (.ite (.or (.cmp .eq (.prim .len true (.cons (.var 1) .nil)) (.cint 0)) (.cmp .gt (.var 2) (.glob ("MOST_ORDER" : Str)))) b18_4a_0 .nil) b18_5
def b18_3a_2 : Sms := .cons (.aug 2 .mul (.call 3 (.cons (.idx (.var 3) (.cint 0)) (.cons (.idx (.var 3) (.cint 1)) .nil)))) .nil
def b18_3a_1 : Sms := .cons (.expr (.meth .append (.var 1) (.cons (.prim .tupleOf true (.cons (.var 3) .nil)) .nil))) b18_3a_2
def b18_3a_0a_0 : Sms := .cons (.raise ("InvalidOrder" : Str)) .nil
def b18_3a_0 : Sms := .cons (.ite (.or (.not (.call 17 (.cons (.var 3) .nil))) (.cmp .isin (.idx (.var 3) (.cint 0)) (.lcC true [(("prime" : Str), 4), (("_" : Str), 5)] (.tup (.cons (.name 4) (.cons (.name 5) .nil))) 1 (.var 4)))) b18_3a_0a_0 .nil) b18_3a_1
def b18_3 : Sms := .cons (.for (.name 3) (.seq (.var 0)) b18_3a_0) b18_4
def b18_2 : Sms := .cons (.set 2 (.cint 1)) b18_3
def b18_1 : Sms := .cons (.set 1 (.lst false .nil)) b18_2
def b18_0a_0 : Sms := .cons (.raise ("InvalidOrder" : Str)) .nil
def b18_0 : Sms := .cons (.ite (.not (.isin2 "tuple" "list" (.var 0))) b18_0a_0 .nil) b18_1
def f18 : Fn := ⟨("checked_parts" : Str), ["parts"], ["parts", "found", "order", "part", "prime", "_"], b18_0, false, none, ("checked_parts" : Str)⟩
def b19_1 : Sms := .cons (.ret (.dget (.var 2) (.tup (.cons (.var 0) (.cons (.var 1) .nil))) (.tup (.cons (.cint 0) .nil)))) .nil
def b19_0 : Sms := .cons (.set 2 (.dispT (.cons (.tup (.cons (.cint 2) (.cons (.cint 2) .nil))) (.tup (.cons (.cint 1) (.cons (.cint 1) .nil))) (.cons (.tup (.cons (.cint 2) (.cons (.cint 3) .nil))) (.tup (.cons (.cint 1) (.cons (.cint 1) (.cons (.cint 0) .nil)))) (.cons (.tup (.cons (.cint 3) (.cons (.cint 2) .nil))) (.tup (.cons (.cint 1) (.cons (.cint 0) .nil))) .nil))))) b19_1
def f19 : Fn := ⟨("_law_lower" : Str), ["_law_p", "_law_k"], ["_law_p", "_law_k", "_law_known"], b19_0, false, none, ("_law_lower" : Str)⟩
def b20_2 : Sms := .cons (.ret (.freeze (.var 3))) .nil
def b20_1a_1 : Sms := .cons (.set 2 (.bin .fdiv true (.var 2) (.var 0))) .nil
def b20_1a_0 : Sms := .cons (.expr (.meth .append (.var 3) (.cons (.bin .mod true (.prim .intOf true (.cons (.var 2) .nil)) (.var 0)) .nil))) b20_1a_1
def b20_1 : Sms := .cons (.for (.name 4) (.range (.cons (.var 1) .nil)) b20_1a_0) b20_2
def b20_0 : Sms := .cons (.set 3 (.lst false .nil)) b20_1
def f20 : Fn := ⟨("_law_figures" : Str), ["_law_p", "_law_k", "_law_number_here"], ["_law_p", "_law_k", "_law_number_here", "_law_found", "_law_turn"], b20_0, false, none, ("_law_figures" : Str)⟩
def b21_2 : Sms := .cons (.ret (.var 2)) .nil
def b21_1a_0 : Sms := .cons (.set 2 (.bin .add true (.bin .mul true (.var 2) (.var 0)) (.var 3))) .nil
def b21_1 : Sms := .cons (.for (.name 3) (.seq (.rev true (.var 1))) b21_1a_0) b21_2
def b21_0 : Sms := .cons (.set 2 (.cint 0)) b21_1
def f21 : Fn := ⟨("_law_number" : Str), ["_law_p", "_law_figures_here"], ["_law_p", "_law_figures_here", "_law_found", "_law_figure"], b21_0, false, none, ("_law_number" : Str)⟩
def b22_6 : Sms := .cons (.ret (.call 21 (.cons (.var 0) (.cons (.lc true [(("_law_part" : Str), 12)] (.name 12) (.seq (.slice true (.var 7) .nil (.cons (.var 4) .nil))) .nil (.bin .mod true (.prim .intOf true (.cons (.var 12) .nil)) (.var 0))) .nil)))) .nil
def b22_5a_1a_0 : Sms := .cons (.asg (.idx (.var 7) (.bin .add true (.bin .sub true (.var 10) (.var 4)) (.var 8))) (.bin .sub true (.idx (.var 7) (.bin .add true (.bin .sub true (.var 10) (.var 4)) (.var 8))) (.bin .mul true (.var 11) (.idx (.var 1) (.var 8))))) .nil
def b22_5a_1 : Sms := .cons (.for (.name 8) (.range (.cons (.var 4) .nil)) b22_5a_1a_0) .nil
def b22_5a_0 : Sms := .cons (.set 11 (.bin .mod true (.prim .intOf true (.cons (.idx (.var 7) (.var 10)) .nil)) (.var 0))) b22_5a_1
def b22_5 : Sms := .cons (.for (.name 10) (.range (.cons (.bin .sub true (.bin .mul true (.cint 2) (.var 4)) (.cint 1)) (.cons (.bin .sub true (.var 4) (.cint 1)) (.cons (.neg (.cint 1)) .nil)))) b22_5a_0) b22_6
def b22_4a_0a_0 : Sms := .cons (.asg (.idx (.var 7) (.bin .add true (.var 8) (.var 9))) (.bin .add true (.idx (.var 7) (.bin .add true (.var 8) (.var 9))) (.bin .mul true (.idx (.var 5) (.var 8)) (.idx (.var 6) (.var 9))))) .nil
def b22_4a_0 : Sms := .cons (.for (.name 9) (.range (.cons (.var 4) .nil)) b22_4a_0a_0) .nil
def b22_4 : Sms := .cons (.for (.name 8) (.range (.cons (.var 4) .nil)) b22_4a_0) b22_5
def b22_3 : Sms := .cons (.set 7 (.bin .mul false (.lst true (.cons (.cint 0) .nil)) (.bin .mul true (.cint 2) (.var 4)))) b22_4
def b22_2 : Sms := .cons (.set 6 (.call 20 (.cons (.var 0) (.cons (.var 4) (.cons (.var 3) .nil))))) b22_3
def b22_1 : Sms := .cons (.set 5 (.call 20 (.cons (.var 0) (.cons (.var 4) (.cons (.var 2) .nil))))) b22_2
def b22_0 : Sms := .cons (.set 4 (.prim .len true (.cons (.var 1) .nil))) b22_1
def f22 : Fn := ⟨("_law_times" : Str), ["_law_p", "_law_lower_here", "_law_one", "_law_other"], ["_law_p", "_law_lower_here", "_law_one", "_law_other", "_law_k", "_law_first", "_law_second", "_law_row_here", "_law_i", "_law_j", "_law_at", "_law_top", "_law_part"], b22_0, false, none, ("_law_times" : Str)⟩
def b23_2 : Sms := .cons (.ret (.call 21 (.cons (.var 0) (.cons (.lc true [(("_law_i" : Str), 6)] (.name 6) (.range (.cons (.var 1) .nil)) .nil (.bin .mod true (.prim .intOf true (.cons (.bin .add true (.idx (.var 4) (.var 6)) (.idx (.var 5) (.var 6))) .nil)) (.var 0))) .nil)))) .nil
def b23_1 : Sms := .cons (.set 5 (.call 20 (.cons (.var 0) (.cons (.var 1) (.cons (.var 3) .nil))))) b23_2
def b23_0 : Sms := .cons (.set 4 (.call 20 (.cons (.var 0) (.cons (.var 1) (.cons (.var 2) .nil))))) b23_1
def f23 : Fn := ⟨("_law_plus" : Str), ["_law_p", "_law_k", "_law_one", "_law_other"], ["_law_p", "_law_k", "_law_one", "_law_other", "_law_first", "_law_second", "_law_i"], b23_0, false, none, ("_law_plus" : Str)⟩
def b24_2 : Sms := .cons (.ret (.var 2)) .nil
def b24_1a_0 : Sms := .cons (.set 2 (.bin .mul true (.var 2) (.var 0))) .nil
def b24_1 : Sms := .cons (.for (.name 3) (.range (.cons (.var 1) .nil)) b24_1a_0) b24_2
def b24_0 : Sms := .cons (.set 2 (.cint 1)) b24_1
def f24 : Fn := ⟨("_law_size" : Str), ["_law_p", "_law_k"], ["_law_p", "_law_k", "_law_total", "_law_turn"], b24_0, false, none, ("_law_size" : Str)⟩
def b25_2 : Sms := .cons (.ret (.var 1)) .nil
def b25_1a_0 : Sms := .cons (.set 1 (.bin .mul true (.var 1) (.call 24 (.cons (.var 2) (.cons (.var 3) .nil))))) .nil
def b25_1 : Sms := .cons (.for (.tup (.cons (.name 2) (.cons (.name 3) .nil))) (.seq (.var 0)) b25_1a_0) b25_2
def b25_0 : Sms := .cons (.set 1 (.cint 1)) b25_1
def f25 : Fn := ⟨("_law_order" : Str), ["_law_parts"], ["_law_parts", "_law_total", "_law_p", "_law_k"], b25_0, false, none, ("_law_order" : Str)⟩
def b26_0 : Sms := .cons (.ret (.bin .sub true (.prim .min1 true (.cons (.lc true [(("_law_p" : Str), 1), (("_law_k" : Str), 2)] (.tup (.cons (.name 1) (.cons (.name 2) .nil))) (.seq (.var 0)) .nil (.call 24 (.cons (.var 1) (.cons (.var 2) .nil)))) .nil)) (.cint 1))) .nil
def f26 : Fn := ⟨("_law_many" : Str), ["_law_parts"], ["_law_parts", "_law_p", "_law_k"], b26_0, false, none, ("_law_many" : Str)⟩
def b27_2 : Sms := .cons (.ret (.rev true (.var 2))) .nil
def b27_1a_2 : Sms := .cons (.set 1 (.bin .fdiv true (.var 1) (.var 5))) .nil
def b27_1a_1 : Sms := .cons (.expr (.meth .append (.var 2) (.cons (.bin .mod true (.prim .intOf true (.cons (.var 1) .nil)) (.var 5)) .nil))) b27_1a_2
def b27_1a_0 : Sms := .cons (.set 5 (.call 24 (.cons (.var 3) (.cons (.var 4) .nil)))) b27_1a_1
def b27_1 : Sms := .cons (.for (.tup (.cons (.name 3) (.cons (.name 4) .nil))) (.seq (.rev true (.var 0))) b27_1a_0) b27_2
def b27_0 : Sms := .cons (.set 2 (.lst false .nil)) b27_1
def f27 : Fn := ⟨("_law_split" : Str), ["_law_parts", "_law_point"], ["_law_parts", "_law_point", "_law_found", "_law_p", "_law_k", "_law_size_here"], b27_0, false, none, ("_law_split" : Str)⟩
def b28_2 : Sms := .cons (.ret (.var 2)) .nil
def b28_1a_0 : Sms := .cons (.set 2 (.bin .add true (.bin .mul true (.var 2) (.call 24 (.cons (.idx (.idx (.var 0) (.var 3)) (.cint 0)) (.cons (.idx (.idx (.var 0) (.var 3)) (.cint 1)) .nil)))) (.idx (.var 1) (.var 3)))) .nil
def b28_1 : Sms := .cons (.for (.name 3) (.range (.cons (.prim .len true (.cons (.var 0) .nil)) .nil)) b28_1a_0) b28_2
def b28_0 : Sms := .cons (.set 2 (.cint 0)) b28_1
def f28 : Fn := ⟨("_law_joined" : Str), ["_law_parts", "_law_figures_here"], ["_law_parts", "_law_figures_here", "_law_point", "_law_at"], b28_0, false, none, ("_law_joined" : Str)⟩
def b29_5 : Sms := .cons (.ret (.call 28 (.cons (.var 0) (.cons (.freeze (.var 7)) .nil)))) .nil
def b29_4a_1 : Sms := .cons (.expr (.meth .append (.var 7) (.cons (.call 23 (.cons (.var 9) (.cons (.var 10) (.cons (.idx (.var 5) (.var 8)) (.cons (.call 22 (.cons (.var 9) (.cons (.idx (.var 1) (.var 8)) (.cons (.var 2) (.cons (.idx (.var 6) (.var 8)) .nil))))) .nil))))) .nil))) .nil
def b29_4a_0 : Sms := .cons (.asg (.tup (.cons (.name 9) (.cons (.name 10) .nil))) (.idx (.var 0) (.var 8))) b29_4a_1
def b29_4 : Sms := .cons (.for (.name 8) (.range (.cons (.prim .len true (.cons (.var 0) .nil)) .nil)) b29_4a_0) b29_5
def b29_3 : Sms := .cons (.set 7 (.lst false .nil)) b29_4
def b29_2 : Sms := .cons (.set 6 (.call 27 (.cons (.var 0) (.cons (.var 4) .nil)))) b29_3
def b29_1 : Sms := .cons (.set 5 (.call 27 (.cons (.var 0) (.cons (.var 3) .nil)))) b29_2
def b29_0a_0 : Sms := .cons (.ret (.var 4)) .nil
def b29_0 : Sms := .cons (.ite (.cmp .eq (.var 2) (.neg (.cint 1))) b29_0a_0 .nil) b29_1
def f29 : Fn := ⟨("_law_has" : Str), ["_law_parts", "_law_lowers_here", "_law_kind", "_law_row_here", "_law_column"], ["_law_parts", "_law_lowers_here", "_law_kind", "_law_row_here", "_law_column", "_law_rows", "_law_columns", "_law_found", "_law_at", "_law_p", "_law_k"], b29_0, false, none, ("_law_has" : Str)⟩
def b30_3 : Sms := .cons (.ret (.idx (.var 2) (.bin .mod true (.prim .intOf true (.cons (.idx (.var 0) (.var 1)) .nil)) (.cint 14)))) .nil
def b30_2 : Sms := .cons (.set 2 (.bin .add true (.var 2) (.lst true (.cons (.lst true (.cons (.tup (.cons (.cint 3) (.cons (.cint 1) .nil))) (.cons (.tup (.cons (.cint 5) (.cons (.cint 1) .nil))) .nil))) .nil)))) b30_3
def b30_1 : Sms := .cons (.set 2 (.bin .add true (.var 2) (.lst true (.cons (.lst true (.cons (.tup (.cons (.cint 5) (.cons (.cint 1) .nil))) (.cons (.tup (.cons (.cint 3) (.cons (.cint 1) .nil))) .nil))) (.cons (.lst true (.cons (.tup (.cons (.cint 2) (.cons (.cint 2) .nil))) (.cons (.tup (.cons (.cint 5) (.cons (.cint 1) .nil))) .nil))) (.cons (.lst true (.cons (.tup (.cons (.cint 3) (.cons (.cint 1) .nil))) .nil)) (.cons (.lst true (.cons (.tup (.cons (.cint 2) (.cons (.cint 1) .nil))) (.cons (.tup (.cons (.cint 3) (.cons (.cint 1) .nil))) .nil))) (.cons (.lst true (.cons (.tup (.cons (.cint 11) (.cons (.cint 1) .nil))) .nil)) (.cons (.lst true (.cons (.tup (.cons (.cint 2) (.cons (.cint 1) .nil))) .nil)) .nil))))))))) b30_2
def b30_0 : Sms := .cons (.set 2 (.lst true (.cons (.lst true (.cons (.tup (.cons (.cint 5) (.cons (.cint 1) .nil))) .nil)) (.cons (.lst true (.cons (.tup (.cons (.cint 7) (.cons (.cint 1) .nil))) .nil)) (.cons (.lst true (.cons (.tup (.cons (.cint 2) (.cons (.cint 2) .nil))) .nil)) (.cons (.lst true (.cons (.tup (.cons (.cint 2) (.cons (.cint 3) .nil))) .nil)) (.cons (.lst true (.cons (.tup (.cons (.cint 3) (.cons (.cint 2) .nil))) .nil)) (.cons (.lst true (.cons (.tup (.cons (.cint 2) (.cons (.cint 2) .nil))) (.cons (.tup (.cons (.cint 3) (.cons (.cint 1) .nil))) .nil))) (.cons (.lst true (.cons (.tup (.cons (.cint 3) (.cons (.cint 1) .nil))) (.cons (.tup (.cons (.cint 2) (.cons (.cint 2) .nil))) .nil))) .nil))))))))) b30_1
def f30 : Fn := ⟨("_law_small" : Str), ["_law_numbers_here", "_law_at"], ["_law_numbers_here", "_law_at", "_law_given"], b30_0, false, none, ("_law_small" : Str)⟩
def b31_0 : Sms := .cons (.ret (.lc true [(("_law_p" : Str), 1), (("_law_k" : Str), 2)] (.tup (.cons (.name 1) (.cons (.name 2) .nil))) (.seq (.var 0)) .nil (.call 19 (.cons (.var 1) (.cons (.var 2) .nil))))) .nil
def f31 : Fn := ⟨("_law_lowers" : Str), ["_law_parts"], ["_law_parts", "_law_p", "_law_k"], b31_0, false, none, ("_law_lowers" : Str)⟩
def b32_11 : Sms := .cons (.ret (.cmp .eq (.mcall 40 ("Family" : Str) ("word" : Str) (.var 5) (.cons (.var 8) (.cons (.var 9) (.cons (.prim .tupleOf true (.cons (.var 6) .nil)) .nil)))) (.var 10))) .nil
def b32_10a_0 : Sms := .cons (.ret (.cbl false)) .nil
def b32_10 : Sms := .cons (.ite (.or (.cmp .ne (.prim .repr true (.cons (.mcall 40 ("Family" : Str) ("word" : Str) (.var 5) (.cons (.var 8) (.cons (.var 9) (.cons (.var 12) .nil)))) .nil)) (.prim .repr true (.cons (.var 10) .nil))) (.cmp .ne (.var 12) (.var 6))) b32_10a_0 .nil) b32_11
def b32_9 : Sms := .cons (.set 12 (.prim .listOf true (.cons (.var 6) .nil))) b32_10
def b32_8 : Sms := .cons (.set 10 (.prim .tupleOf true (.cons (.lc true [(("_law_kind" : Str), 11)] (.name 11) (.seq (.var 6)) .nil (.call 29 (.cons (.var 2) (.cons (.var 3) (.cons (.var 11) (.cons (.var 8) (.cons (.var 9) .nil))))))) .nil))) b32_9
def b32_7 : Sms := .cons (.set 9 (.bin .mod true (.prim .intOf true (.cons (.idx (.var 1) (.cint 3)) .nil)) (.var 4))) b32_8
def b32_6 : Sms := .cons (.set 8 (.bin .mod true (.prim .intOf true (.cons (.idx (.var 1) (.cint 2)) .nil)) (.var 4))) b32_7
def b32_5 : Sms := .cons (.set 6 (.lc true [(("_law_k" : Str), 7)] (.name 7) (.range (.cons (.bin .mod true (.prim .intOf true (.cons (.idx (.var 1) (.cint 1)) .nil)) (.cint 9)) .nil)) .nil (.bin .sub true (.bin .mod true (.prim .intOf true (.cons (.idx (.var 1) (.bin .add true (.cint 4) (.var 7))) .nil)) (.bin .add true (.call 26 (.cons (.var 2) .nil)) (.cint 2))) (.cint 1)))) b32_6
def b32_4 : Sms := .cons (.set 5 (.freeze (.make 33 ("Family" : Str) (.cons (.var 2) .nil)))) b32_5
def b32_3 : Sms := .cons (.set 4 (.call 25 (.cons (.var 2) .nil))) b32_4
def b32_2 : Sms := .cons (.set 3 (.call 31 (.cons (.var 2) .nil))) b32_3
def b32_1 : Sms := .cons (.set 2 (.call 30 (.cons (.var 1) (.cons (.cint 0) .nil)))) b32_2
def b32_0 : Sms := .cons (.set 1 (.call 1 (.cons (.var 0) (.cons (.cint 30) .nil)))) b32_1
def f32 : Fn := ⟨("law" : Str), ["_law_script"], ["_law_script", "_law_numbers_here", "_law_parts", "_law_lowers_here", "_law_order_here", "_law_family", "_law_kinds", "_law_k", "_law_row_here", "_law_column", "_law_due", "_law_kind", "_law_handed"], b32_0, false, none, ("law" : Str)⟩
def b33_4 : Sms := .cons (.setA ("Family" : Str) (.var 0) ("order" : Str) (.bin .add true (.mcall 41 ("Family" : Str) ("joined" : Str) (.var 0) (.cons (.lc true [(("size" : Str), 4)] (.name 4) (.seq (.attr ("Family" : Str) (.var 0) ("sizes" : Str))) .nil (.bin .sub true (.var 4) (.cint 1))) .nil)) (.cint 1))) .nil
def b33_3 : Sms := .cons (.setA ("Family" : Str) (.var 0) ("lowers" : Str) (.prim .tupleOf true (.cons (.lc true [(("prime" : Str), 2), (("degree" : Str), 3)] (.tup (.cons (.name 2) (.cons (.name 3) .nil))) (.seq (.attr ("Family" : Str) (.var 0) ("parts" : Str))) .nil (.call 14 (.cons (.var 2) (.cons (.var 3) .nil)))) .nil))) b33_4
def b33_2 : Sms := .cons (.setA ("Family" : Str) (.var 0) ("many" : Str) (.bin .sub true (.prim .min1 true (.cons (.attr ("Family" : Str) (.var 0) ("sizes" : Str)) .nil)) (.cint 1))) b33_3
def b33_1 : Sms := .cons (.setA ("Family" : Str) (.var 0) ("sizes" : Str) (.prim .tupleOf true (.cons (.lc true [(("prime" : Str), 2), (("degree" : Str), 3)] (.tup (.cons (.name 2) (.cons (.name 3) .nil))) (.seq (.attr ("Family" : Str) (.var 0) ("parts" : Str))) .nil (.call 3 (.cons (.var 2) (.cons (.var 3) .nil)))) .nil))) b33_2
def b33_0 : Sms := .cons (.setA ("Family" : Str) (.var 0) ("parts" : Str) (.call 18 (.cons (.var 1) .nil))) b33_1
def f33 : Fn := ⟨("__init__" : Str), ["self", "parts"], ["self", "parts", "prime", "degree", "size"], b33_0, true, some ("Family" : Str), ("Family.__init__" : Str)⟩
def b34_2 : Sms := .cons (.ret (.rev true (.var 2))) .nil
def b34_1a_1 : Sms := .cons (.aug 1 .fdiv (.var 3)) .nil
def b34_1a_0 : Sms := .cons (.expr (.meth .append (.var 2) (.cons (.bin .mod true (.var 1) (.var 3)) .nil))) b34_1a_1
def b34_1 : Sms := .cons (.for (.name 3) (.seq (.rev true (.attr ("Family" : Str) (.var 0) ("sizes" : Str)))) b34_1a_0) b34_2
def b34_0 : Sms := .cons (.set 2 (.lst false .nil)) b34_1
def f34 : Fn := ⟨("split" : Str), ["self", "point"], ["self", "point", "found", "size"], b34_0, false, some ("Family" : Str), ("Family.split" : Str)⟩
def b35_2 : Sms := .cons (.ret (.var 2)) .nil
def b35_1a_0 : Sms := .cons (.set 2 (.bin .add true (.bin .mul true (.var 2) (.var 3)) (.var 4))) .nil
def b35_1 : Sms := .cons (.for (.tup (.cons (.name 3) (.cons (.name 4) .nil))) (.zipM (.attr ("Family" : Str) (.var 0) ("sizes" : Str)) (.var 1)) b35_1a_0) b35_2
def b35_0 : Sms := .cons (.set 2 (.cint 0)) b35_1
def f35 : Fn := ⟨("joined" : Str), ["self", "figures"], ["self", "figures", "point", "size", "figure"], b35_0, false, some ("Family" : Str), ("Family.joined" : Str)⟩
def b36_0a_0 : Sms := .cons (.raise ("InvalidQuestion" : Str)) .nil
def b36_0 : Sms := .cons (.ite (.not (.chain .le .le (.glob ("COLUMN" : Str)) (.var 1) (.attr ("Family" : Str) (.var 0) ("many" : Str)))) b36_0a_0 .nil) .nil
def f36 : Fn := ⟨("check_kind" : Str), ["self", "kind"], ["self", "kind"], b36_0, false, some ("Family" : Str), ("Family.check_kind" : Str)⟩
def b37_0a_0 : Sms := .cons (.raise ("InvalidQuestion" : Str)) .nil
def b37_0 : Sms := .cons (.ite (.not (.chain .le .lt (.cint 0) (.var 1) (.attr ("Family" : Str) (.var 0) ("order" : Str)))) b37_0a_0 .nil) .nil
def f37 : Fn := ⟨("check_point" : Str), ["self", "point"], ["self", "point"], b37_0, false, some ("Family" : Str), ("Family.check_point" : Str)⟩
def b38_2 : Sms := .cons (.ret (.mcall 35 ("Family" : Str) ("joined" : Str) (.var 0) (.cons (.freeze (.var 5)) .nil))) .nil
def b38_1a_0 : Sms := .cons (.expr (.meth .append (.var 5) (.cons (.callV 4 [(("sum_of" : Str), 15)] (.cons (.var 6) (.cons (.var 9) (.cons (.call 16 (.cons (.var 6) (.cons (.var 8) (.cons (.var 3) (.cons (.var 10) .nil))))) .nil)))) .nil))) .nil
def b38_1 : Sms := .cons (.for (.tup (.cons (.tup (.cons (.name 6) (.cons (.name 7) .nil))) (.cons (.name 8) (.cons (.name 9) (.cons (.name 10) .nil))))) (.zipN (.cons (.attr ("Family" : Str) (.var 0) ("parts" : Str)) (.cons (.attr ("Family" : Str) (.var 0) ("lowers" : Str)) (.cons (.mcall 34 ("Family" : Str) ("split" : Str) (.var 0) (.cons (.var 1) .nil)) (.cons (.mcall 34 ("Family" : Str) ("split" : Str) (.var 0) (.cons (.var 2) .nil)) .nil))))) b38_1a_0) b38_2
def b38_0 : Sms := .cons (.set 5 (.lst false .nil)) b38_1
def f38 : Fn := ⟨("combined" : Str), ["self", "point", "other", "kind", "together"], ["self", "point", "other", "kind", "together", "found", "prime", "_", "lower", "one", "far"], b38_0, false, some ("Family" : Str), ("Family.combined" : Str)⟩
def b39_0 : Sms := .cons (.ret (.ite (.cmp .eq (.var 3) (.glob ("COLUMN" : Str))) (.var 2) (.mcall 38 ("Family" : Str) ("combined" : Str) (.var 0) (.cons (.var 1) (.cons (.var 2) (.cons (.var 3) (.cons (.fnv ("sum_of" : Str)) .nil))))))) .nil
def f39 : Fn := ⟨("at_cell" : Str), ["self", "row", "column", "kind"], ["self", "row", "column", "kind"], b39_0, false, some ("Family" : Str), ("Family.at_cell" : Str)⟩
def b40_3 : Sms := .cons (.ret (.prim .tupleOf true (.cons (.lc true [(("kind" : Str), 4)] (.name 4) (.seq (.var 3)) .nil (.mcall 39 ("Family" : Str) ("at_cell" : Str) (.var 0) (.cons (.var 1) (.cons (.var 2) (.cons (.var 4) .nil))))) .nil))) .nil
def b40_2a_0 : Sms := .cons (.expr (.mcall 36 ("Family" : Str) ("check_kind" : Str) (.var 0) (.cons (.var 4) .nil))) .nil
def b40_2 : Sms := .cons (.for (.name 4) (.seq (.var 3)) b40_2a_0) b40_3
def b40_1 : Sms := .cons (.expr (.mcall 37 ("Family" : Str) ("check_point" : Str) (.var 0) (.cons (.var 2) .nil))) b40_2
def b40_0 : Sms := .cons (.expr (.mcall 37 ("Family" : Str) ("check_point" : Str) (.var 0) (.cons (.var 1) .nil))) b40_1
def f40 : Fn := ⟨("word" : Str), ["self", "row", "column", "kinds"], ["self", "row", "column", "kinds", "kind"], b40_0, false, some ("Family" : Str), ("Family.word" : Str)⟩
def b41_2 : Sms := .cons (.ret (.var 2)) .nil
def b41_1a_0 : Sms := .cons (.set 2 (.bin .add true (.bin .mul true (.var 2) (.var 3)) (.var 4))) .nil
def b41_1 : Sms := .cons (.for (.tup (.cons (.name 3) (.cons (.name 4) .nil))) (.zipM (.attr ("Family" : Str) (.var 0) ("sizes" : Str)) (.var 1)) b41_1a_0) b41_2
def b41_0 : Sms := .cons (.set 2 (.cint 0)) b41_1
def f41 : Fn := ⟨("joined" : Str), ["self", "figures"], ["self", "figures", "point", "size", "figure"], b41_0, true, some ("Family" : Str), ("Family.joined" : Str)⟩
def fns : List Fn := [f0, f1, f2, f3, f4, f5, f6, f7, f8, f9, f10, f11, f12, f13, f14, f15, f16, f17, f18, f19, f20, f21, f22, f23, f24, f25, f26, f27, f28, f29, f30, f31, f32, f33, f34, f35, f36, f37, f38, f39, f40, f41]
def top (i : Nat) : Stmt := PySem.Challenge.pw_matedsquares_k40_words.main.body.getD i (.Pass ⟨0, 0, 0, 0⟩)
def cbody : Stmt → List Stmt
  | .ClassDef _ _ _ b _ _ _ _ _ _ _ => b
  | _ => []
def mem (i j : Nat) : Stmt := (cbody (top i)).getD j (.Pass ⟨0, 0, 0, 0⟩)
def L : List Def := [(f0, top 36), (f1, top 37), (f2, top 10), (f3, top 11), (f4, top 12), (f5, top 13), (f6, top 14), (f7, top 15), (f8, top 16), (f9, top 17), (f10, top 18), (f11, top 19), (f12, top 20), (f13, top 21), (f14, top 22), (f15, top 23), (f16, top 25), (f17, top 32), (f18, top 33), (f19, top 38), (f20, top 39), (f21, top 40), (f22, top 41), (f23, top 42), (f24, top 43), (f25, top 44), (f26, top 45), (f27, top 46), (f28, top 47), (f29, top 48), (f30, top 49), (f31, top 50), (f32, top 51), (f33, mem 34 0), (f34, mem 34 1), (f35, mem 34 2), (f36, mem 34 3), (f37, mem 34 4), (f38, mem 34 7), (f39, mem 34 9), (f40, mem 34 15), (f41, mem 34 2)]
def bl : BL := ⟨["abs", "all", "enumerate", "int", "isinstance", "len", "list", "max", "min", "range", "repr", "tuple", "zip"], [("Family", "lowers"), ("Family", "many"), ("Family", "order"), ("Family", "parts"), ("Family", "sizes")], [(33, "Family", "__init__"), (34, "Family", "split"), (35, "Family", "joined"), (36, "Family", "check_kind"), (37, "Family", "check_point"), (38, "Family", "combined"), (39, "Family", "at_cell"), (40, "Family", "word"), (41, "Family", "joined")]⟩
def xl : List Str := ["InvalidOrder", "InvalidQuestion"]
def cs : List (Str × Cn) := [("COLUMN", .int (-1)), ("MOST_BASE", .int 97), ("MOST_DEGREE", .int 12), ("MOST_ORDER", .int 1000000000000000000000000000000), ("MOST_PRIME", .int 1000000), ("MOST_SIZE", .int 1000000000000000)]
theorem ok0 : DefOk bl (nms L) xl f0 (top 36) := by
  refine ⟨⟨rfl, rfl, rfl, by decide +kernel, rfl, by decide +kernel, by decide +kernel⟩, fun _ _ _ _ _ _ us hl => ?_, by decide +kernel⟩
  match us, hl with
  | [_, _], _ => rfl
theorem ok1 : DefOk bl (nms L) xl f1 (top 37) := by
  refine ⟨⟨rfl, rfl, rfl, by decide +kernel, rfl, by decide +kernel, by decide +kernel⟩, fun _ _ _ _ _ _ us hl => ?_, by decide +kernel⟩
  match us, hl with
  | [_, _], _ => rfl
theorem ok2 : DefOk bl (nms L) xl f2 (top 10) := by
  refine ⟨⟨rfl, rfl, rfl, by decide +kernel, rfl, by decide +kernel, by decide +kernel⟩, fun _ _ _ _ _ _ us hl => ?_, by decide +kernel⟩
  match us, hl with
  | [_], _ => rfl
theorem ok3 : DefOk bl (nms L) xl f3 (top 11) := by
  refine ⟨⟨rfl, rfl, rfl, by decide +kernel, rfl, by decide +kernel, by decide +kernel⟩, fun _ _ _ _ _ _ us hl => ?_, by decide +kernel⟩
  match us, hl with
  | [_, _], _ => rfl
theorem ok4 : DefOk bl (nms L) xl f4 (top 12) := by
  refine ⟨⟨rfl, rfl, rfl, by decide +kernel, rfl, by decide +kernel, by decide +kernel⟩, fun _ _ _ _ _ _ us hl => ?_, by decide +kernel⟩
  match us, hl with
  | [_, _], _ => rfl
theorem ok5 : DefOk bl (nms L) xl f5 (top 13) := by
  refine ⟨⟨rfl, rfl, rfl, by decide +kernel, rfl, by decide +kernel, by decide +kernel⟩, fun _ _ _ _ _ _ us hl => ?_, by decide +kernel⟩
  match us, hl with
  | [_, _, _], _ => rfl
theorem ok6 : DefOk bl (nms L) xl f6 (top 14) := by
  refine ⟨⟨rfl, rfl, rfl, by decide +kernel, rfl, by decide +kernel, by decide +kernel⟩, fun _ _ _ _ _ _ us hl => ?_, by decide +kernel⟩
  match us, hl with
  | [_, _], _ => rfl
theorem ok7 : DefOk bl (nms L) xl f7 (top 15) := by
  refine ⟨⟨rfl, rfl, rfl, by decide +kernel, rfl, by decide +kernel, by decide +kernel⟩, fun _ _ _ _ _ _ us hl => ?_, by decide +kernel⟩
  match us, hl with
  | [_, _, _], _ => rfl
theorem ok8 : DefOk bl (nms L) xl f8 (top 16) := by
  refine ⟨⟨rfl, rfl, rfl, by decide +kernel, rfl, by decide +kernel, by decide +kernel⟩, fun _ _ _ _ _ _ us hl => ?_, by decide +kernel⟩
  match us, hl with
  | [_, _, _], _ => rfl
theorem ok9 : DefOk bl (nms L) xl f9 (top 17) := by
  refine ⟨⟨rfl, rfl, rfl, by decide +kernel, rfl, by decide +kernel, by decide +kernel⟩, fun _ _ _ _ _ _ us hl => ?_, by decide +kernel⟩
  match us, hl with
  | [_, _, _, _], _ => rfl
theorem ok10 : DefOk bl (nms L) xl f10 (top 18) := by
  refine ⟨⟨rfl, rfl, rfl, by decide +kernel, rfl, by decide +kernel, by decide +kernel⟩, fun _ _ _ _ _ _ us hl => ?_, by decide +kernel⟩
  match us, hl with
  | [_], _ => rfl
theorem ok11 : DefOk bl (nms L) xl f11 (top 19) := by
  refine ⟨⟨rfl, rfl, rfl, by decide +kernel, rfl, by decide +kernel, by decide +kernel⟩, fun _ _ _ _ _ _ us hl => ?_, by decide +kernel⟩
  match us, hl with
  | [_, _, _], _ => rfl
theorem ok12 : DefOk bl (nms L) xl f12 (top 20) := by
  refine ⟨⟨rfl, rfl, rfl, by decide +kernel, rfl, by decide +kernel, by decide +kernel⟩, fun _ _ _ _ _ _ us hl => ?_, by decide +kernel⟩
  match us, hl with
  | [_, _], _ => rfl
theorem ok13 : DefOk bl (nms L) xl f13 (top 21) := by
  refine ⟨⟨rfl, rfl, rfl, by decide +kernel, rfl, by decide +kernel, by decide +kernel⟩, fun _ _ _ _ _ _ us hl => ?_, by decide +kernel⟩
  match us, hl with
  | [_, _], _ => rfl
theorem ok14 : DefOk bl (nms L) xl f14 (top 22) := by
  refine ⟨⟨rfl, rfl, rfl, by decide +kernel, rfl, by decide +kernel, by decide +kernel⟩, fun _ _ _ _ _ _ us hl => ?_, by decide +kernel⟩
  match us, hl with
  | [_, _], _ => rfl
theorem ok15 : DefOk bl (nms L) xl f15 (top 23) := by
  refine ⟨⟨rfl, rfl, rfl, by decide +kernel, rfl, by decide +kernel, by decide +kernel⟩, fun _ _ _ _ _ _ us hl => ?_, by decide +kernel⟩
  match us, hl with
  | [_, _, _], _ => rfl
theorem ok16 : DefOk bl (nms L) xl f16 (top 25) := by
  refine ⟨⟨rfl, rfl, rfl, by decide +kernel, rfl, by decide +kernel, by decide +kernel⟩, fun _ _ _ _ _ _ us hl => ?_, by decide +kernel⟩
  match us, hl with
  | [_, _, _, _], _ => rfl
theorem ok17 : DefOk bl (nms L) xl f17 (top 32) := by
  refine ⟨⟨rfl, rfl, rfl, by decide +kernel, rfl, by decide +kernel, by decide +kernel⟩, fun _ _ _ _ _ _ us hl => ?_, by decide +kernel⟩
  match us, hl with
  | [_], _ => rfl
theorem ok18 : DefOk bl (nms L) xl f18 (top 33) := by
  refine ⟨⟨rfl, rfl, rfl, by decide +kernel, rfl, by decide +kernel, by decide +kernel⟩, fun _ _ _ _ _ _ us hl => ?_, by decide +kernel⟩
  match us, hl with
  | [_], _ => rfl
theorem ok19 : DefOk bl (nms L) xl f19 (top 38) := by
  refine ⟨⟨rfl, rfl, rfl, by decide +kernel, rfl, by decide +kernel, by decide +kernel⟩, fun _ _ _ _ _ _ us hl => ?_, by decide +kernel⟩
  match us, hl with
  | [_, _], _ => rfl
theorem ok20 : DefOk bl (nms L) xl f20 (top 39) := by
  refine ⟨⟨rfl, rfl, rfl, by decide +kernel, rfl, by decide +kernel, by decide +kernel⟩, fun _ _ _ _ _ _ us hl => ?_, by decide +kernel⟩
  match us, hl with
  | [_, _, _], _ => rfl
theorem ok21 : DefOk bl (nms L) xl f21 (top 40) := by
  refine ⟨⟨rfl, rfl, rfl, by decide +kernel, rfl, by decide +kernel, by decide +kernel⟩, fun _ _ _ _ _ _ us hl => ?_, by decide +kernel⟩
  match us, hl with
  | [_, _], _ => rfl
theorem ok22 : DefOk bl (nms L) xl f22 (top 41) := by
  refine ⟨⟨rfl, rfl, rfl, by decide +kernel, rfl, by decide +kernel, by decide +kernel⟩, fun _ _ _ _ _ _ us hl => ?_, by decide +kernel⟩
  match us, hl with
  | [_, _, _, _], _ => rfl
theorem ok23 : DefOk bl (nms L) xl f23 (top 42) := by
  refine ⟨⟨rfl, rfl, rfl, by decide +kernel, rfl, by decide +kernel, by decide +kernel⟩, fun _ _ _ _ _ _ us hl => ?_, by decide +kernel⟩
  match us, hl with
  | [_, _, _, _], _ => rfl
theorem ok24 : DefOk bl (nms L) xl f24 (top 43) := by
  refine ⟨⟨rfl, rfl, rfl, by decide +kernel, rfl, by decide +kernel, by decide +kernel⟩, fun _ _ _ _ _ _ us hl => ?_, by decide +kernel⟩
  match us, hl with
  | [_, _], _ => rfl
theorem ok25 : DefOk bl (nms L) xl f25 (top 44) := by
  refine ⟨⟨rfl, rfl, rfl, by decide +kernel, rfl, by decide +kernel, by decide +kernel⟩, fun _ _ _ _ _ _ us hl => ?_, by decide +kernel⟩
  match us, hl with
  | [_], _ => rfl
theorem ok26 : DefOk bl (nms L) xl f26 (top 45) := by
  refine ⟨⟨rfl, rfl, rfl, by decide +kernel, rfl, by decide +kernel, by decide +kernel⟩, fun _ _ _ _ _ _ us hl => ?_, by decide +kernel⟩
  match us, hl with
  | [_], _ => rfl
theorem ok27 : DefOk bl (nms L) xl f27 (top 46) := by
  refine ⟨⟨rfl, rfl, rfl, by decide +kernel, rfl, by decide +kernel, by decide +kernel⟩, fun _ _ _ _ _ _ us hl => ?_, by decide +kernel⟩
  match us, hl with
  | [_, _], _ => rfl
theorem ok28 : DefOk bl (nms L) xl f28 (top 47) := by
  refine ⟨⟨rfl, rfl, rfl, by decide +kernel, rfl, by decide +kernel, by decide +kernel⟩, fun _ _ _ _ _ _ us hl => ?_, by decide +kernel⟩
  match us, hl with
  | [_, _], _ => rfl
theorem ok29 : DefOk bl (nms L) xl f29 (top 48) := by
  refine ⟨⟨rfl, rfl, rfl, by decide +kernel, rfl, by decide +kernel, by decide +kernel⟩, fun _ _ _ _ _ _ us hl => ?_, by decide +kernel⟩
  match us, hl with
  | [_, _, _, _, _], _ => rfl
theorem ok30 : DefOk bl (nms L) xl f30 (top 49) := by
  refine ⟨⟨rfl, rfl, rfl, by decide +kernel, rfl, by decide +kernel, by decide +kernel⟩, fun _ _ _ _ _ _ us hl => ?_, by decide +kernel⟩
  match us, hl with
  | [_, _], _ => rfl
theorem ok31 : DefOk bl (nms L) xl f31 (top 50) := by
  refine ⟨⟨rfl, rfl, rfl, by decide +kernel, rfl, by decide +kernel, by decide +kernel⟩, fun _ _ _ _ _ _ us hl => ?_, by decide +kernel⟩
  match us, hl with
  | [_], _ => rfl
theorem ok32 : DefOk bl (nms L) xl f32 (top 51) := by
  refine ⟨⟨rfl, rfl, rfl, by decide +kernel, rfl, by decide +kernel, by decide +kernel⟩, fun _ _ _ _ _ _ us hl => ?_, by decide +kernel⟩
  match us, hl with
  | [_], _ => rfl
theorem ok33 : DefOk bl (nms L) xl f33 (mem 34 0) := by
  refine ⟨⟨rfl, rfl, rfl, by decide +kernel, rfl, by decide +kernel, by decide +kernel⟩, fun _ _ _ _ _ _ us hl => ?_, by decide +kernel⟩
  match us, hl with
  | [_, _], _ => rfl
theorem ok34 : DefOk bl (nms L) xl f34 (mem 34 1) := by
  refine ⟨⟨rfl, rfl, rfl, by decide +kernel, rfl, by decide +kernel, by decide +kernel⟩, fun _ _ _ _ _ _ us hl => ?_, by decide +kernel⟩
  match us, hl with
  | [_, _], _ => rfl
theorem ok35 : DefOk bl (nms L) xl f35 (mem 34 2) := by
  refine ⟨⟨rfl, rfl, rfl, by decide +kernel, rfl, by decide +kernel, by decide +kernel⟩, fun _ _ _ _ _ _ us hl => ?_, by decide +kernel⟩
  match us, hl with
  | [_, _], _ => rfl
theorem ok36 : DefOk bl (nms L) xl f36 (mem 34 3) := by
  refine ⟨⟨rfl, rfl, rfl, by decide +kernel, rfl, by decide +kernel, by decide +kernel⟩, fun _ _ _ _ _ _ us hl => ?_, by decide +kernel⟩
  match us, hl with
  | [_, _], _ => rfl
theorem ok37 : DefOk bl (nms L) xl f37 (mem 34 4) := by
  refine ⟨⟨rfl, rfl, rfl, by decide +kernel, rfl, by decide +kernel, by decide +kernel⟩, fun _ _ _ _ _ _ us hl => ?_, by decide +kernel⟩
  match us, hl with
  | [_, _], _ => rfl
theorem ok38 : DefOk bl (nms L) xl f38 (mem 34 7) := by
  refine ⟨⟨rfl, rfl, rfl, by decide +kernel, rfl, by decide +kernel, by decide +kernel⟩, fun _ _ _ _ _ _ us hl => ?_, by decide +kernel⟩
  match us, hl with
  | [_, _, _, _, _], _ => rfl
theorem ok39 : DefOk bl (nms L) xl f39 (mem 34 9) := by
  refine ⟨⟨rfl, rfl, rfl, by decide +kernel, rfl, by decide +kernel, by decide +kernel⟩, fun _ _ _ _ _ _ us hl => ?_, by decide +kernel⟩
  match us, hl with
  | [_, _, _, _], _ => rfl
theorem ok40 : DefOk bl (nms L) xl f40 (mem 34 15) := by
  refine ⟨⟨rfl, rfl, rfl, by decide +kernel, rfl, by decide +kernel, by decide +kernel⟩, fun _ _ _ _ _ _ us hl => ?_, by decide +kernel⟩
  match us, hl with
  | [_, _, _, _], _ => rfl
theorem ok41 : DefOk bl (nms L) xl f41 (mem 34 2) := by
  refine ⟨⟨rfl, rfl, rfl, by decide +kernel, rfl, by decide +kernel, by decide +kernel⟩, fun _ _ _ _ _ _ us hl => ?_, by decide +kernel⟩
  match us, hl with
  | [_, _], _ => rfl
theorem okL : ∀ p ∈ L, DefOk bl (nms L) xl p.1 p.2 :=
  List.forall_mem_cons.mpr ⟨ok0, List.forall_mem_cons.mpr ⟨ok1, List.forall_mem_cons.mpr ⟨ok2, List.forall_mem_cons.mpr ⟨ok3, List.forall_mem_cons.mpr ⟨ok4, List.forall_mem_cons.mpr ⟨ok5, List.forall_mem_cons.mpr ⟨ok6, List.forall_mem_cons.mpr ⟨ok7, List.forall_mem_cons.mpr ⟨ok8, List.forall_mem_cons.mpr ⟨ok9, List.forall_mem_cons.mpr ⟨ok10, List.forall_mem_cons.mpr ⟨ok11, List.forall_mem_cons.mpr ⟨ok12, List.forall_mem_cons.mpr ⟨ok13, List.forall_mem_cons.mpr ⟨ok14, List.forall_mem_cons.mpr ⟨ok15, List.forall_mem_cons.mpr ⟨ok16, List.forall_mem_cons.mpr ⟨ok17, List.forall_mem_cons.mpr ⟨ok18, List.forall_mem_cons.mpr ⟨ok19, List.forall_mem_cons.mpr ⟨ok20, List.forall_mem_cons.mpr ⟨ok21, List.forall_mem_cons.mpr ⟨ok22, List.forall_mem_cons.mpr ⟨ok23, List.forall_mem_cons.mpr ⟨ok24, List.forall_mem_cons.mpr ⟨ok25, List.forall_mem_cons.mpr ⟨ok26, List.forall_mem_cons.mpr ⟨ok27, List.forall_mem_cons.mpr ⟨ok28, List.forall_mem_cons.mpr ⟨ok29, List.forall_mem_cons.mpr ⟨ok30, List.forall_mem_cons.mpr ⟨ok31, List.forall_mem_cons.mpr ⟨ok32, List.forall_mem_cons.mpr ⟨ok33, List.forall_mem_cons.mpr ⟨ok34, List.forall_mem_cons.mpr ⟨ok35, List.forall_mem_cons.mpr ⟨ok36, List.forall_mem_cons.mpr ⟨ok37, List.forall_mem_cons.mpr ⟨ok38, List.forall_mem_cons.mpr ⟨ok39, List.forall_mem_cons.mpr ⟨ok40, List.forall_mem_cons.mpr ⟨ok41, fun _ h => nomatch h⟩⟩⟩⟩⟩⟩⟩⟩⟩⟩⟩⟩⟩⟩⟩⟩⟩⟩⟩⟩⟩⟩⟩⟩⟩⟩⟩⟩⟩⟩⟩⟩⟩⟩⟩⟩⟩⟩⟩⟩⟩⟩
abbrev R : PySem.W.OpenRow := PySem.W.OpenLaw.row PySem.Challenge.rw_matedsquares_k40_words
abbrev hk : PySem.W.Hook := He.hookX 6 (faOf L bl cs xl) (L.map dOf) [] [] (exOf xl)
def ob (s : PySem.W.SharedT) : He.AlX := He.obsX 6 (faOf L bl cs xl) (L.map dOf) [] [] (exOf xl) (HandSHeadRun.getT s)
theorem obOk (s : PySem.W.SharedT) : ob s = hk.obs s.abs := He.obsX_eq (HandSHeadRun.getT_eq s)
def loose0 : List PySem.Str := ["_wall", "MatedsquaresError", "InvalidOrder", "InvalidQuestion", "MOST_PRIME", "MOST_BASE", "MOST_DEGREE", "MOST_SIZE", "is_prime", "size_of", "is_field", "figures_of", "number_of", "remainder", "multiplied", "raised", "trimmed", "have_common", "turned_round", "is_irreducible", "lower_of", "sum_of", "less_of", "product_of", "power_of", "inverse_of", "MOST_ORDER", "COLUMN", "ROW", "is_prime_power"]
def loose1 : List PySem.Str := ["checked_parts", "Family", "_law_row", "_law_numbers", "_law_lower", "_law_figures", "_law_number", "_law_times", "_law_plus", "_law_size", "_law_order", "_law_many", "_law_split", "_law_joined", "_law_has", "_law_small", "_law_lowers"]
def loose : List PySem.Str := loose0 ++ loose1
theorem run (w : World) : HandSHeadRun.RunEq R (PySem.W.view R.prog [51]) hk ob 4000 loose w := by
  intro os
  kernel_rfl
theorem all (hlaw : ∀ ns : List Int, ns.length ≤ 63 → G (L.map (·.1)) (glOf cs) xl FUEL DEEP 32 [.vw (ns.map .int)] [] = .ok (.bl true) []) : PySem.Challenge.rw_matedsquares_k40_words.Holds := by
  w_on; o_law
  refine HandSHeadRun.head_any (r := R) (q := PySem.W.view R.prog [51]) (H := hk) (ob := ob) (M := 4000) (loose := loose) (d := HandSHeadRun.topDef R.prog 51) (kwd := []) obOk (by kernel_rfl) (fun s => by kernel_rfl) run
    (by kernel_rfl) (by kernel_rfl) (by kernel_rfl) (by rfl) (by first | assumption | decide +kernel) (by decide +kernel) ⟨rfl, rfl, rfl, rfl, rfl, by decide +kernel⟩ ?w ?c
  case w => w_witness2
  case c => exact walk_ev (l := PySem.Challenge.rw_matedsquares_k40_words) (f := f32) (st := top 51) (il := 32) (n := 63) (k := DEEP) (F := FUEL) (x := "_law_script") rfl (by decide) (by kernel_rfl) ⟨rfl, by decide, by decide⟩ (by decide +kernel) okL rfl (by kernel_rfl) rfl rfl hlaw

end K40
set_option maxHeartbeats 2000000
namespace K40
open PySem PySem.Spec PyProof.Rows L2 Ev
/-! what the defs give, at any depth (printed by wip/tpl.py) -/
abbrev fs : List Fn := L.map (·.1)
abbrev GG (n i : Nat) (ds : List D) (h : Hs) : Ev.R D := G fs (glOf cs) xl FUEL n i ds h
abbrev cfg (n : Nat) : Cfg := ⟨G fs (glOf cs) xl FUEL n, glOf cs, xl, FUEL⟩
def shAt (i : Nat) : Bool := match fs[i]? with
  | some f => f.sh
  | none => false
theorem sh_no {i : Nat} {f : Fn} (hs : shAt i = false) (e : fs[i]? = some f) : f.sh = false := by
  unfold shAt at hs; rw [e] at hs; exact hs
theorem G_exc {n i : Nat} {f : Fn} {ds : List D} {x : Str} {h : Hs} (e : fs[i]? = some f) (hl : ds.length = f.ps.length) (hp : D.pures ds = true)
    (hd : ∃ ρ' h', f.body.den (cfg n) (ds.map some ++ List.replicate (f.N.length - ds.length) none) [] = .exc x none ρ' h') (hs : f.sh = false := by rfl) : GG (n + 1) i ds h = .exc x none h := by
  obtain ⟨ρ', h', hd⟩ := hd
  unfold GG G
  rw [e]
  have q : runFn (cfg n) f ds = .exc x none [] := by
    unfold runFn
    rw [if_pos ⟨hl, hp⟩, hd]
    rfl
  dsimp only
  rw [if_neg (by rw [hs]; exact Bool.false_ne_true)]
  show (match runFn (cfg n) f ds with | .ok d _ => R.ok d h | .exc x p _ => .exc x p h | .stuck => .stuck) = _
  rw [q]
theorem G_heap {n i : Nat} {ds : List D} {d : D} {h0 h1 : Hs} (e : GG n i ds h0 = .ok d h1) (h : Hs) (hs : shAt i = false := by rfl) : GG n i ds h = .ok d h := by
  cases n with
  | zero => cases e
  | succ n =>
    unfold GG G at e ⊢
    cases q : fs[i]? with
    | none => rw [q] at e; cases e
    | some f =>
      rw [q] at e
      dsimp only at e ⊢
      rw [if_neg (by rw [sh_no hs q]; exact Bool.false_ne_true)] at e ⊢
      cases q2 : runFn ⟨G fs (glOf cs) xl FUEL n, glOf cs, xl, FUEL⟩ f ds with
      | ok d' _ => rw [q2] at e; cases e; rfl
      | exc _ _ _ => rw [q2] at e; cases e
      | stuck => rw [q2] at e; cases e
theorem G_nx {n i : Nat} {f : Fn} {ds : List D} {h : Hs} (e : fs[i]? = some f) (hl : ds.length = f.ps.length) (hp : D.pures ds = true)
    (hd : ∃ ρ' h', f.body.den ⟨G fs (glOf cs) xl FUEL n, glOf cs, xl, FUEL⟩ (ds.map some ++ List.replicate (f.N.length - ds.length) none) [] = .nx ρ' h') (hs : f.sh = false := by rfl) : GG (n + 1) i ds h = .ok .non h := by
  obtain ⟨ρ', h', hd⟩ := hd
  unfold GG G
  rw [e]
  have q : runFn ⟨G fs (glOf cs) xl FUEL n, glOf cs, xl, FUEL⟩ f ds = .ok .non [] := by
    unfold runFn
    rw [if_pos ⟨hl, hp⟩, hd]
  dsimp only
  rw [if_neg (by rw [hs]; exact Bool.false_ne_true)]
  show (match runFn ⟨G fs (glOf cs) xl FUEL n, glOf cs, xl, FUEL⟩ f ds with | .ok d _ => R.ok d h | .exc x p _ => .exc x p h | .stuck => .stuck) = _
  rw [q]
theorem g_fig {p : Int} (hp : Prm p) (k : Nat) (hk : k ≤ 1000) (x : Int) (n : Nat) (h : Hs) : GG (n + 1) 5 [.int p, .int k, .int x] h = .ok (.lst ((figs p k x).map .int)) h :=
  G_ok (f := f5) rfl rfl rfl (fig_body hp k hk x) (pures_ints _)
theorem lfig2_body {m : Nat} {p : Int} (hp : Prm p) (n : Nat) (hn : n ≤ 1000) (x : Int) : ∃ h', b20_0.den (cfg m) [some (.int p), some (.int n), some (.int x), none, none] [] = .ret (.lst ((figs p n x).map .int)) h' := by
  obtain ⟨hp0, hp1⟩ := hp
  have hp2 : p < 1073741824 := by omega
  obtain ⟨ρ', h', e, t, rfl, rfl⟩ := for_rng (c := cfg m) (b := Sms.den (cfg m) b20_1a_0) (i := 4) n (FigR p n x) (ρ := [some (.int p), some (.int n), some (.int x), some (.ref 0), none]) (h := [.lst []]) ⟨none, by simp, rfl⟩ (fun j ρ h hj ⟨t, e1, e2⟩ => by
    subst e1 e2
    have hl : (figs p j x).length < LN := by rw [figs_len, LN_eq]; omega
    refine ⟨by simp, _, _, ?_, ⟨some (.int j), rfl, rfl⟩⟩
    unfold b20_1a_0 b20_1a_1
    rw [figs_succ, ← div_pow hp0]
    simp [bin_mod, hp0, app_r0, hl, bin_fdiv, hp2])
  have hm : -(LN : Int) ≤ n ∧ (n : Int) ≤ LN := by rw [LN_eq]; omega
  refine ⟨[.dead], ?_⟩
  unfold b20_0 b20_1 b20_2
  simp [new_cell, hm]
  rw [e]
  simp [frz_r0, pures_ints]
theorem g_lfig {p : Int} (hp : Prm p) (k : Nat) (hk : k ≤ 1000) (x : Int) (n : Nat) (h : Hs) : GG (n + 1) 20 [.int p, .int k, .int x] h = .ok (.lst ((figs p k x).map .int)) h :=
  G_ok (f := f20) rfl rfl rfl (lfig2_body hp k hk x) (pures_ints _)
theorem g_num {p : Int} (hp : Prm p) (xs : List Int) (hx : xs.length ≤ 1000) (n : Nat) (h : Hs) : GG (n + 1) 6 [.int p, .lst (xs.map .int)] h = .ok (.int (numb p xs)) h :=
  G_ok (f := f6) rfl rfl (by show (D.pures (xs.map .int) && true) = true; rw [pures_ints]; rfl) (nmb_body hp xs hx) rfl
theorem g_lnum {p : Int} (hp : Prm p) (xs : List Int) (hx : xs.length ≤ 1000) (n : Nat) (h : Hs) : GG (n + 1) 21 [.int p, .lst (xs.map .int)] h = .ok (.int (numb p xs)) h :=
  G_ok (f := f21) rfl rfl (by show (D.pures (xs.map .int) && true) = true; rw [pures_ints]; rfl) (nmb_body hp xs hx) rfl
theorem g_rem {p : Int} (hp : Prm p) {lo fg : List Int} (hlo : Fig p lo) (h1 : lo.length ≤ fg.length) (h2 : fg.length ≤ 1000) (n : Nat) (h : Hs) : GG (n + 1) 7 [.int p, .tup (lo.map .int), .lst (fg.map .int)] h = .ok (.lst ((remL p lo fg).map .int)) h :=
  G_ok (f := f7) rfl rfl (by show (D.pures (lo.map .int) && (D.pures (fg.map .int) && true)) = true; rw [pures_ints, pures_ints]; rfl) (rem_body hp hlo h1 h2) (pures_ints _)
theorem g_rem1 {p : Int} {lo : List Int} (A : Fld p lo) (n : Nat) (h : Hs) : GG (n + 1) 7 [.int p, .tup (lo.map .int), .lst [.int 1]] h = .ok (.lst ((vone p lo.length).map .int)) h :=
  G_ok (f := f7) rfl rfl (by show (D.pures (lo.map .int) && _) = true; rw [pures_ints]; rfl) (rem1_body A) (pures_ints _)
theorem g_mul {p : Int} (hp : Prm p) {xs ys : List Int} (hx : Fig p xs) (h1 : 1 ≤ xs.length + ys.length) (h2 : xs.length + ys.length ≤ 1000) (n : Nat) (h : Hs) : GG (n + 1) 8 [.int p, .lst (xs.map .int), .lst (ys.map .int)] h = .ok (.lst ((mulL p xs ys).map .int)) h :=
  G_ok (f := f8) rfl rfl (by show (D.pures (xs.map .int) && (D.pures (ys.map .int) && true)) = true; rw [pures_ints, pures_ints]; rfl) (mul_body hp hx h1 h2) (pures_ints _)
/-- the program's product -/
theorem g_prodof {p : Int} {lo : List Int} (A : Fld p lo) (a b : Int) (n : Nat) (h : Hs) : GG (n + 2) 16 [.int p, .tup (lo.map .int), .int a, .int b] h = .ok (.int (fmul p lo a b)) h := by
  have a1 := A.one
  have a2 := A.few
  have va := figs_V A.prm lo.length a
  have vb := figs_V A.prm lo.length b
  have lm : (mulL p (figs p lo.length a) (figs p lo.length b)).length = lo.length + lo.length - 1 := by rw [mulL_len, va.len, vb.len]
  have vm := Mu_V A va vb
  have la := va.len
  have lb := vb.len
  have lq := vm.len
  have e1 := fun h => g_fig A.prm lo.length (by omega) a n h
  have e2 := fun h => g_fig A.prm lo.length (by omega) b n h
  have e3 := fun h => g_mul A.prm va.fig (ys := figs p lo.length b) (by omega) (by omega) n h
  have e4 : ∀ h, GG (n + 1) 7 [.int p, .tup (lo.map .int), .lst ((mulL p (figs p lo.length a) (figs p lo.length b)).map .int)] h = .ok (.lst ((Mu p lo (figs p lo.length a) (figs p lo.length b)).map .int)) h := fun h => g_rem A.prm A.fig (by omega) (by omega) n h
  have e5 := fun h => g_num A.prm (Mu p lo (figs p lo.length a) (figs p lo.length b)) (by omega) n h
  refine G_ok (f := f16) rfl rfl (by show (true && (D.pures (lo.map .int) && (true && (true && true)))) = true; rw [pures_ints]; rfl) ⟨[], ?_⟩ rfl
  unfold f16 b16_0
  simp [e1, e2]
  unfold b16_1
  simp [e1, e2, e3]
  unfold b16_2
  simp [e4, e5, fmul]
/-- a power by squares -/
theorem g_raised {p : Int} {lo : List Int} (A : Fld p lo) {x : List Int} (hx : Vc p lo.length x) (t : Nat) (ht : t < FUEL) (n : Nat) (h : Hs) : GG (n + 2) 9 [.int p, .tup (lo.map .int), .lst (x.map .int), .int t] h = .ok (.lst ((vpow p lo x t).map .int)) h := by
  refine G_ok (f := f9) rfl rfl (by show (true && (D.pures (lo.map .int) && (D.pures (x.map .int) && (true && true)))) = true; rw [pures_ints, pures_ints]; rfl) ?_ (pures_ints _)
  exact rai_body (c := ⟨G fs (glOf cs) xl FUEL (n + 1), glOf cs, xl, FUEL⟩) A hx t ht (fun h => g_rem1 A n h) (fun x y vx vy h => by
      have a1 := A.one
      have a2 := A.few
      have := vx.len
      have := vy.len
      exact g_mul A.prm vx.fig (by omega) (by omega) n h) (fun x y vx vy h => by
      have a1 := A.one
      have a2 := A.few
      have := vx.len
      have := vy.len
      have lm := mulL_len p x y
      exact g_rem A.prm A.fig (by omega) (by omega) n h)
theorem g_size {p : Int} (hp : Prm p) (k : Nat) (hk : k ≤ 400) (n : Nat) (h : Hs) : GG (n + 1) 3 [.int p, .int k] h = .ok (.int (p ^ k)) h :=
  G_ok (f := f3) rfl rfl rfl (siz_body hp k hk) rfl
theorem g_lsize {p : Int} (hp : Prm p) (k : Nat) (hk : k ≤ 400) (n : Nat) (h : Hs) : GG (n + 1) 24 [.int p, .int k] h = .ok (.int (p ^ k)) h :=
  G_ok (f := f24) rfl rfl rfl (lsz_body hp k hk) rfl
theorem g_isprime {P : Nat} (hP : Pri P) {p : Int} (hp : p = P) (hb : p < 1000000) (n : Nat) (h : Hs) : GG (n + 1) 2 [.int p] h = .ok (.bl true) h :=
  G_ok (f := f2) rfl rfl rfl (ipr_body hP hp hb (by show P + 2 < FUEL; unfold FUEL; omega)) rfl
theorem g_sumof {p : Int} (hp : Prm p) {k : Nat} {a b : Int} (ha : 0 ≤ a ∧ a < p ^ k) (hb : 0 ≤ b ∧ b < p ^ k) (hk : k ≤ 400) (n : Nat) (h : Hs) : GG (n + 1) 15 [.int p, .int a, .int b] h = .ok (.int (numb p ((List.range k).map (dg (· + ·) p a b)))) h :=
  G_ok (f := f15) rfl rfl rfl (sum_body (o := .add) (f := (· + ·)) (fun _ _ _ _ => rfl) rfl hp ha hb (by show k < FUEL; unfold FUEL; omega)) rfl
def isLst (r : Ev.R D) (ns : List Int) : Bool := match r with
  | .ok (.lst ds) _ => (match D.ints ds with | some ms => decide (ms = ns) | none => false)
  | _ => false
def isTup (r : Ev.R D) (ns : List Int) : Bool := match r with
  | .ok (.tup ds) _ => (match D.ints ds with | some ms => decide (ms = ns) | none => false)
  | _ => false
theorem ints_map : ∀ {ds : List D} {ms : List Int}, D.ints ds = some ms → ds = ms.map .int
  | [], _, e => by cases e; rfl
  | d :: ds, ms, e => by
    cases d with
    | int i =>
      replace e : (D.ints ds).map (i :: ·) = some ms := e
      cases q : D.ints ds with
      | none => rw [q] at e; cases e
      | some ks =>
        rw [q] at e; cases e
        rw [ints_map q]; rfl
    | _ => cases e
theorem lst_of {n i : Nat} {ds : List D} {ns : List Int} (e : isLst (GG n i ds []) ns = true) (h : Hs) (hs : shAt i = false := by rfl) : GG n i ds h = .ok (.lst (ns.map .int)) h := by
  unfold isLst at e
  split at e
  · rename_i xs h0 e0
    split at e
    · rename_i ms q
      have := of_decide_eq_true e
      subst this
      rw [ints_map q] at e0
      exact G_heap e0 h hs
    · cases e
  · cases e
theorem tup_of {n i : Nat} {ds : List D} {ns : List Int} (e : isTup (GG n i ds []) ns = true) (h : Hs) (hs : shAt i = false := by rfl) : GG n i ds h = .ok (.tup (ns.map .int)) h := by
  unfold isTup at e
  split at e
  · rename_i xs h0 e0
    split at e
    · rename_i ms q
      have := of_decide_eq_true e
      subst this
      rw [ints_map q] at e0
      exact G_heap e0 h hs
    · cases e
  · cases e
/-- the law's sum -/
theorem g_lplus {p : Int} (hp : Prm p) {k : Nat} (hk : k ≤ 400) (a b : Int) (n : Nat) (h : Hs) : GG (n + 2) 23 [.int p, .int k, .int a, .int b] h = .ok (.int (fadd p k a b)) h := by
  obtain ⟨hp0, hp1⟩ := id hp
  have hN := LN_eq
  have e1 := fun h => g_lfig hp k (by omega) a n h
  have e2 := fun h => g_lfig hp k (by omega) b n h
  have e3 : ∀ h, GG (n + 1) 21 [.int p, .lst (((List.range k).map (dg (· + ·) p a b)).map .int)] h = .ok (.int (fadd p k a b)) h := fun h => g_lnum hp ((List.range k).map (dg (· + ·) p a b)) (by rw [List.length_map, List.length_range]; omega) n h
  have m : -(LN : Int) ≤ (k : Int) ∧ (k : Int) ≤ LN := by omega
  have la := figs_len p k a
  have lb := figs_len p k b
  have key := fun h => lc_any (c := ⟨G fs (glOf cs) xl FUEL (n + 1), glOf cs, xl, FUEL⟩) (i := 6) (ρ := [some (.int p), some (.int k), some (.int a), some (.int b), some (.lst ((figs p k a).map .int)), some (.lst ((figs p k b).map .int)), none]) (h := h)
    (e := (Ex.dt ⟨G fs (glOf cs) xl FUEL (n + 1), glOf cs, xl, FUEL⟩ (.bin .mod true (.prim .intOf true (.cons (.bin .add true (.idx (.var 4) (.var 6)) (.idx (.var 5) (.var 6))) .nil)) (.var 0))).1)
    (fun j : Nat => D.int (j : Nat)) (fun j => D.int (dg (· + ·) p a b j)) (by simp) (List.range k) [] (fun j hj => by
      have hj' : j < k := List.mem_range.mp hj
      have q1 : ∀ h, idxD (.lst ((figs p k a).map D.int)) (.int (j : Nat)) h = .ok (.int (at0 (figs p k a) (j : Nat))) h := fun h => idx_l (by omega) (by omega)
      have q2 : ∀ h, idxD (.lst ((figs p k b).map D.int)) (.int (j : Nat)) h = .ok (.int (at0 (figs p k b) (j : Nat))) h := fun h => idx_l (by omega) (by omega)
      simp [q1, q2, figs_atn hj', bin_mod, hp0, dg]) (by rw [List.length_range]; simp; omega)
  have nf : ∀ h, newL true ((List.range k).map fun j => D.int (dg (· + ·) p a b j)) h = .ok (.lst (((List.range k).map (dg (· + ·) p a b)).map .int)) h := fun h => by
    rw [new_fz (by rw [List.length_map, List.length_range]; omega), List.map_map]; rfl
  simp only [List.nil_append] at key
  generalize ((List.range k).map fun j => D.int (dg (· + ·) p a b j)) = r1 at key nf
  generalize ((List.range k).map (dg (· + ·) p a b)).map D.int = r2 at e3 nf
  generalize (figs p k a).map D.int = r3 at e1 key
  generalize (figs p k b).map D.int = r4 at e2 key
  obtain ⟨ki, hki⟩ : ∃ ki : Int, ki = k := ⟨_, rfl⟩
  have hkn : ki.toNat = k := by omega
  rw [← hki] at e1 e2 m key ⊢
  refine G_ok (f := f23) rfl rfl rfl ⟨[], ?_⟩ rfl
  unfold f23 b23_0
  simp [e1]
  unfold b23_1
  simp [e2]
  unfold b23_2
  simp [m, wipeE, hkn]
  rw [key]
  simp [nf, e3]
end K40
set_option maxHeartbeats 2000000
namespace K40
open PySem PySem.Spec PyProof.Rows L2 Ev
/-! a family of squares (class Family): what its methods give (printed by wip/tpl.py) -/
def prtD (c : Cmp) : D := .tup [.int c.P, .int c.lo.length]
def lowD (c : Cmp) : D := .tup (c.lo.map .int)
def famD (F : List Cmp) (many : Int) : D := .ob "Family" ["parts", "sizes", "many", "lowers", "order"] [.tup (F.map prtD), .tup ((szs F).map .int), .int many, .tup (F.map lowD), .int (prd (szs F))]
theorem prts_pure : ∀ F : List Cmp, D.pures (F.map prtD) = true
  | [] => rfl
  | c :: F => by show (true && D.pures (F.map prtD)) = true; rw [prts_pure F]; rfl
theorem lows_pure : ∀ F : List Cmp, D.pures (F.map lowD) = true
  | [] => rfl
  | c :: F => by show (D.pures (c.lo.map .int) && D.pures (F.map lowD)) = true; rw [lows_pure F, pures_ints]; rfl
theorem fam_pure (F : List Cmp) (many : Int) : (famD F many).pure = true := by
  show (D.pures (F.map prtD) && (D.pures ((szs F).map .int) && (true && (D.pures (F.map lowD) && (true && true))))) = true
  rw [prts_pure, lows_pure, pures_ints]; rfl
section
variable {F : List Cmp} {many : Int} {h : Hs}
@[simp] theorem at_parts : attrD "Family" "parts" (famD F many) h = .ok (.tup (F.map prtD)) h := rfl
@[simp] theorem at_sizes : attrD "Family" "sizes" (famD F many) h = .ok (.tup ((szs F).map .int)) h := rfl
@[simp] theorem at_many : attrD "Family" "many" (famD F many) h = .ok (.int many) h := rfl
@[simp] theorem at_lowers : attrD "Family" "lowers" (famD F many) h = .ok (.tup (F.map lowD)) h := rfl
@[simp] theorem at_order : attrD "Family" "order" (famD F many) h = .ok (.int (prd (szs F))) h := rfl
end
theorem is_meth {m : Str} {F : List Cmp} {many : Int} {h : Hs} (e : isMeth "Family" m (.ob "Family" ["parts", "sizes", "many", "lowers", "order"] [.non, .non, .non, .non, .non]) [] = true) : isMeth "Family" m (famD F many) h = true := by
  have q : isMeth "Family" m (famD F many) h = (decide (("Family" : Str) = "Family") && (([("parts", D.tup (F.map prtD)), ("sizes", D.tup ((szs F).map .int)), ("many", D.int many), ("lowers", D.tup (F.map lowD)), ("order", D.int (prd (szs F)))] : List (Str × D)).lookup m).isNone) := rfl
  have q2 : isMeth "Family" m (.ob "Family" ["parts", "sizes", "many", "lowers", "order"] [.non, .non, .non, .non, .non]) [] = (decide (("Family" : Str) = "Family") && (([("parts", D.non), ("sizes", D.non), ("many", D.non), ("lowers", D.non), ("order", D.non)] : List (Str × D)).lookup m).isNone) := rfl
  rw [q]; rw [q2] at e
  simp only [List.lookup_cons, List.lookup_nil] at e ⊢
  revert e
  cases m == ("parts" : Str) <;> cases m == ("sizes" : Str) <;> cases m == ("many" : Str) <;> cases m == ("lowers" : Str) <;> cases m == ("order" : Str) <;> simp
@[simp] theorem m_split {F : List Cmp} {many : Int} {h : Hs} : isMeth "Family" "split" (famD F many) h = true := is_meth (by decide)
@[simp] theorem m_joined {F : List Cmp} {many : Int} {h : Hs} : isMeth "Family" "joined" (famD F many) h = true := is_meth (by decide)
@[simp] theorem m_kind {F : List Cmp} {many : Int} {h : Hs} : isMeth "Family" "check_kind" (famD F many) h = true := is_meth (by decide)
@[simp] theorem m_point {F : List Cmp} {many : Int} {h : Hs} : isMeth "Family" "check_point" (famD F many) h = true := is_meth (by decide)
@[simp] theorem m_cell {F : List Cmp} {many : Int} {h : Hs} : isMeth "Family" "cell" (famD F many) h = true := is_meth (by decide)
@[simp] theorem m_cell_of {F : List Cmp} {many : Int} {h : Hs} : isMeth "Family" "cell_of" (famD F many) h = true := is_meth (by decide)
@[simp] theorem m_combined {F : List Cmp} {many : Int} {h : Hs} : isMeth "Family" "combined" (famD F many) h = true := is_meth (by decide)
@[simp] theorem m_divided {F : List Cmp} {many : Int} {h : Hs} : isMeth "Family" "divided" (famD F many) h = true := is_meth (by decide)
@[simp] theorem m_at_cell {F : List Cmp} {many : Int} {h : Hs} : isMeth "Family" "at_cell" (famD F many) h = true := is_meth (by decide)
@[simp] theorem m_told {F : List Cmp} {many : Int} {h : Hs} : isMeth "Family" "told" (famD F many) h = true := is_meth (by decide)
@[simp] theorem m_square {F : List Cmp} {many : Int} {h : Hs} : isMeth "Family" "check_square" (famD F many) h = true := is_meth (by decide)
@[simp] theorem m_sign {F : List Cmp} {many : Int} {h : Hs} : isMeth "Family" "sign" (famD F many) h = true := is_meth (by decide)
@[simp] theorem m_row {F : List Cmp} {many : Int} {h : Hs} : isMeth "Family" "row_for" (famD F many) h = true := is_meth (by decide)
@[simp] theorem m_column {F : List Cmp} {many : Int} {h : Hs} : isMeth "Family" "column_for" (famD F many) h = true := is_meth (by decide)
@[simp] theorem m_word {F : List Cmp} {many : Int} {h : Hs} : isMeth "Family" "word" (famD F many) h = true := is_meth (by decide)
theorem split_body {n : Nat} {F : List Cmp} (Z : Sz F) (many x : Int) : ∃ h', b34_0.den (cfg n) [some (famD F many), some (.int x), none, none] [] = .ret (.lst ((spl (szs F) x).map .int)) h' := by
  have hN := LN_eq
  have hl := szs_len F
  obtain ⟨ρ', h', e, t, rfl, rfl⟩ := for_name (c := cfg n) (b := Sms.den (cfg n) b34_1a_0) (i := 3) D.int (szs F).reverse (fun j ρ h => ∃ t : Option D, ρ = [some (famD F many), some (.int (x / prd ((szs F).drop (F.length - j)))), some (.ref 0), t] ∧ h = [.lst ((spl ((szs F).drop (F.length - j)) x).reverse.map .int)])
    (ρ := [some (famD F many), some (.int x), some (.ref 0), none]) (h := [.lst []]) ⟨none, by rw [Nat.sub_zero, List.drop_of_length_le (by omega)]; simp [prd], by rw [Nat.sub_zero, List.drop_of_length_le (by omega)]; rfl⟩ (fun j s ρ h hs ⟨t, e1, e2⟩ => by
      subst e1 e2
      have hj : j < F.length := by
        have := (List.getElem?_eq_some_iff.mp hs).1
        rw [List.length_reverse, hl] at this; exact this
      have e3 : (szs F)[F.length - (j + 1)]? = some s := by
        rw [List.getElem?_reverse (by omega), hl] at hs
        rw [show F.length - (j + 1) = F.length - 1 - j from by omega]; exact hs
      have e4 := drop_at e3
      rw [show F.length - (j + 1) + 1 = F.length - j from by omega] at e4
      have ms : s ∈ szs F := List.mem_of_getElem? e3
      have s0 := Z.pos s ms
      have s1 := Z.top s ms
      have P0 := prd_pos (allp_drop Z.pos (F.length - j))
      have l0 : (spl ((szs F).drop (F.length - j)) x).length < LN := by rw [spl_len, List.length_drop]; have := Z.few; omega
      refine ⟨by simp, [some (famD F many), some (.int (x / prd ((szs F).drop (F.length - (j + 1))))), some (.ref 0), some (.int s)], [.lst ((spl ((szs F).drop (F.length - (j + 1))) x).reverse.map .int)], ?_, ⟨_, rfl, rfl⟩⟩
      rw [e4]
      unfold b34_1a_0 b34_1a_1
      have q : x / prd (s :: (szs F).drop (F.length - j)) = x / prd ((szs F).drop (F.length - j)) / s := by
        rw [div_div' P0]; rfl
      rw [q]
      have q2 : (spl (s :: (szs F).drop (F.length - j)) x) = (x / prd ((szs F).drop (F.length - j)) % s) :: spl ((szs F).drop (F.length - j)) x := rfl
      rw [q2, List.reverse_cons, List.map_append]
      generalize x / prd ((szs F).drop (F.length - j)) = y
      have al : ((spl ((szs F).drop (F.length - j)) x).reverse.map D.int).length < LN := by rw [List.length_map, List.length_reverse]; exact l0
      generalize ((spl ((szs F).drop (F.length - j)) x).reverse.map D.int) = r at al ⊢
      simp [bin_mod, s0, app_r0, al, aug_fdiv, s1])
  rw [List.length_reverse, hl, Nat.sub_self, List.drop_zero] at e
  refine ⟨[.lst ((spl (szs F) x).reverse.map .int)], ?_⟩
  have q0 : ∀ h, revD true (D.tup ((szs F).map .int)) h = .ok (.tup (((szs F).reverse).map .int)) h := fun h => by
    show R.ok (D.tup ((szs F).map .int).reverse) h = _
    rw [List.map_reverse]
  have q1 : revD true (.ref 0) [Cell.lst ((spl (szs F) x).reverse.map .int)] = .ok (.lst ((spl (szs F) x).map .int)) [Cell.lst ((spl (szs F) x).reverse.map .int)] := by
    show newL true ((spl (szs F) x).reverse.map D.int).reverse _ = _
    rw [← List.map_reverse, List.reverse_reverse, new_fz (by rw [List.length_map, spl_len]; have := Z.few; omega)]
  unfold b34_0 b34_1 b34_2
  simp only [List.map_reverse] at e q0 q1
  simp [new_cell, q0]
  rw [e]
  simp [q1]
theorem g_split {F : List Cmp} (Z : Sz F) (many x : Int) (n : Nat) (h : Hs) : GG (n + 1) 34 [famD F many, .int x] h = .ok (.lst ((spl (szs F) x).map .int)) h :=
  G_ok (f := f34) rfl rfl (by show ((famD F many).pure && _) = true; rw [fam_pure]; rfl) (split_body Z many x) (pures_ints _)
theorem joined_body {n : Nat} {F : List Cmp} (Z : Sz F) (many : Int) (fs : List Int) (hf : fs.length = F.length) : ∃ h', b35_0.den (cfg n) [some (famD F many), some (.lst (fs.map .int)), none, none, none] [] = .ret (.int (jo (szs F) fs)) h' := by
  have hl := szs_len F
  obtain ⟨ρ', h', e, t, u, v, rfl, rfl, q⟩ := for_map (g := Tg.den (cfg n) (.tup (.cons (.name 3) (.cons (.name 4) .nil)))) (b := Sms.den (cfg n) b35_1a_0) F.length (fun j => .tup [((szs F).map D.int).getD j .non, (fs.map D.int).getD j .non])
    (fun j ρ h => ∃ (t : Int) (u v : Option D), ρ = [some (famD F many), some (.lst (fs.map .int)), some (.int t), u, v] ∧ h = [] ∧ t * prd ((szs F).drop j) + jo ((szs F).drop j) (fs.drop j) = jo (szs F) fs)
    (ρ := [some (famD F many), some (.lst (fs.map .int)), some (.int 0), none, none]) (h := []) ⟨0, none, none, rfl, rfl, by simp⟩ (fun j ρ h hj ⟨t, u, v, e1, e2, q⟩ => by
      subst e1 e2
      obtain ⟨z0, z1⟩ := Z.at hj
      have b1 : -18446744073709551616 < (cat F j).z := by omega
      have b2 : (cat F j).z < 18446744073709551616 := by omega
      refine ⟨[some (famD F many), some (.lst (fs.map .int)), some (.int t), some (.int (cat F j).z), some (.int (fs.getD j 0))], [], [some (famD F many), some (.lst (fs.map .int)), some (.int (t * (cat F j).z + fs.getD j 0)), some (.int (cat F j).z), some (.int (fs.getD j 0))], [], ?_, ?_, ⟨_, _, _, rfl, rfl, ?_⟩⟩
      · rw [getD_ints _ (by rw [hl]; exact hj), getD_ints _ (by rw [hf]; exact hj), szs_at F hj]
        generalize fs.getD j 0 = y
        simp
      · generalize fs.getD j 0 = y
        unfold b35_1a_0
        simp [bin_mul, b1, b2]
      · rw [jo_step (szs_cat F hj) (getD_get fs (by rw [hf]; exact hj))]; exact q)
  rw [List.drop_of_length_le (by omega)] at q
  have q : t = jo (szs F) fs := by rw [← q]; show t = t * 1 + jo [] _; simp [jo]
  subst q
  refine ⟨[], ?_⟩
  have l1 : ((szs F).map D.int).length = F.length := by rw [List.length_map, hl]
  have l2 : (fs.map D.int).length = F.length := by rw [List.length_map, hf]
  have ez : Itx.den (cfg n) (.zipM (.attr ("Family" : Str) (.var 0) ("sizes" : Str)) (.var 1)) [some (famD F many), some (.lst (fs.map .int)), some (.int 0), none, none] [] = .ok ((List.range F.length).map fun j => .tup [((szs F).map D.int).getD j .non, (fs.map D.int).getD j .non]) [] := by
    rw [it_zipM]
    generalize fs.map D.int = r2 at l2 ⊢
    show (if ((szs F).map D.int).length = r2.length then R.ok ((List.range ((szs F).map D.int).length).map fun j => D.tup [((szs F).map D.int).getD j .non, r2.getD j .non]) [] else .stuck) = _
    rw [if_pos (by rw [l1, l2]), l1]
  unfold b35_0 b35_1 b35_2
  simp [-it_zipM, -List.getD_eq_getElem?_getD, ez]
  rw [e]
  simp
theorem g_joined {F : List Cmp} (Z : Sz F) (many : Int) (fs : List Int) (hf : fs.length = F.length) (n : Nat) (h : Hs) : GG (n + 1) 35 [famD F many, .lst (fs.map .int)] h = .ok (.int (jo (szs F) fs)) h :=
  G_ok (f := f35) rfl rfl (by show ((famD F many).pure && (D.pures (fs.map .int) && true)) = true; rw [fam_pure, pures_ints]; rfl) (joined_body Z many fs hf) rfl
theorem prt_at (F : List Cmp) {j : Nat} (hj : j < F.length) : (F.map prtD).getD j .non = prtD (cat F j) := getD_F _ _ _ hj
theorem low_at (F : List Cmp) {j : Nat} (hj : j < F.length) : (F.map lowD).getD j .non = lowD (cat F j) := getD_F _ _ _ hj
theorem fg_at (F : List Cmp) (x : Int) {j : Nat} (hj : j < F.length) : ((spl (szs F) x).map D.int).getD j .non = .int (fg F x j) := getD_ints _ (by rw [spl_len, szs_len]; exact hj)
/-- what is done with two figures: sum_of or less_of -/
structure Tog (F : List Cmp) (tn : Str) (ti : Nat) (tf : Nat → Int → Int → Int) : Prop where
  look : ([("sum_of", 15)] : List (Str × Nat)).lookup tn = some ti
  run : ∀ i n a b h, i < F.length → (0 ≤ a ∧ a < (cat F i).z) → (0 ≤ b ∧ b < (cat F i).z) → GG (n + 1) ti [.int (cat F i).P, .int a, .int b] h = .ok (.int (tf i a b)) h
theorem tog_sum {F : List Cmp} {many : Int} (A : Fam F many) : Tog F "sum_of" 15 fun i a b => fadd (cat F i).P (cat F i).lo.length a b :=
  ⟨by decide, fun i n a b h hi ha hb => g_sumof (A.ff i hi).A.prm ha hb (A.ff i hi).A.few n h⟩
theorem zip_comb {c : Cfg} {F : List Cmp} {r1 r2 r3 r4 : List D} {h : Hs} (h1 : r1.length = F.length) (h2 : r2.length = F.length) (h3 : r3.length = F.length) (h4 : r4.length = F.length) :
    ((seqsOf h [.tup r1, .tup r2, .lst r3, .lst r4]).bind colsD) = some ((List.range F.length).map fun j => .tup [r1.getD j .non, r2.getD j .non, r3.getD j .non, r4.getD j .non]) := by
  show colsD [r1, r2, r3, r4] = _
  unfold colsD
  simp only [List.all_cons, List.all_nil, h1, h2, h3, h4, beq_self_eq_true, Bool.and_true, List.length_cons, List.length_nil]
  rfl
theorem zip_div {c : Cfg} {F : List Cmp} {r1 r2 r3 : List D} {h : Hs} (h1 : r1.length = F.length) (h2 : r2.length = F.length) (h3 : r3.length = F.length) :
    ((seqsOf h [.tup r1, .tup r2, .lst r3]).bind colsD) = some ((List.range F.length).map fun j => .tup [r1.getD j .non, r2.getD j .non, r3.getD j .non]) := by
  show colsD [r1, r2, r3] = _
  unfold colsD
  simp only [List.all_cons, List.all_nil, h1, h2, h3, beq_self_eq_true, Bool.and_true, List.length_cons, List.length_nil]
  rfl
theorem comb_body {n : Nat} {F : List Cmp} (Z : Sz F) {many : Int} (A : Fam F many) {tn : Str} {ti : Nat} {tf : Nat → Int → Int → Int} (T : Tog F tn ti tf) (x y κ : Int) :
    ∃ h', b38_0.den (cfg (n + 2)) [some (famD F many), some (.int x), some (.int y), some (.int κ), some (.fn tn), none, none, none, none, none, none] [] = .ret (.int (op F (fun i a b => tf i a (fmul (cat F i).P (cat F i).lo κ b)) x y)) h' := by
  have hN := LN_eq
  have few := Z.few
  obtain ⟨ρ', h', e, t6, t7, t8, t9, t10, rfl, rfl⟩ := for_map (g := Tg.den (cfg (n + 2)) (.tup (.cons (.tup (.cons (.name 6) (.cons (.name 7) .nil))) (.cons (.name 8) (.cons (.name 9) (.cons (.name 10) .nil)))))) (b := Sms.den (cfg (n + 2)) b38_1a_0) F.length
    (fun j => .tup [(F.map prtD).getD j .non, (F.map lowD).getD j .non, ((spl (szs F) x).map D.int).getD j .non, ((spl (szs F) y).map D.int).getD j .non])
    (fun j ρ h => ∃ t6 t7 t8 t9 t10 : Option D, ρ = [some (famD F many), some (.int x), some (.int y), some (.int κ), some (.fn tn), some (.ref 0), t6, t7, t8, t9, t10] ∧ h = [.lst (((List.range j).map fun i => tf i (fg F x i) (fmul (cat F i).P (cat F i).lo κ (fg F y i))).map D.int)])
    (ρ := [some (famD F many), some (.int x), some (.int y), some (.int κ), some (.fn tn), some (.ref 0), none, none, none, none, none]) (h := [.lst []]) ⟨none, none, none, none, none, rfl, rfl⟩ (fun j ρ h hj ⟨t6, t7, t8, t9, t10, e1, e2⟩ => by
      subst e1 e2
      have k1 := A.fgR x hj
      have k2 := A.fm j κ (fg F y j) hj
      have c1 := fun h => g_prodof (A.ff j hj).A κ (fg F y j) n h
      have c2 := fun h => T.run j (n + 1) (fg F x j) _ h hj k1 k2
      have lk := T.look
      rw [prt_at F hj, low_at F hj, fg_at F x hj, fg_at F y hj, List.range_succ, List.map_append, List.map_append]
      have al : (((List.range j).map fun i => tf i (fg F x i) (fmul (cat F i).P (cat F i).lo κ (fg F y i))).map D.int).length < LN := by rw [List.length_map, List.length_map, List.length_range]; omega
      show ∃ ρ1 h1 ρ' h', Tg.den _ _ (.tup [.tup [.int (cat F j).P, .int (cat F j).lo.length], .tup ((cat F j).lo.map .int), .int (fg F x j), .int (fg F y j)]) _ _ = _ ∧ _
      generalize ((List.range j).map fun i => tf i (fg F x i) (fmul (cat F i).P (cat F i).lo κ (fg F y i))).map D.int = r at al ⊢
      have e3 : ([j].map fun i => tf i (fg F x i) (fmul (cat F i).P (cat F i).lo κ (fg F y i))).map D.int = [D.int (tf j (fg F x j) (fmul (cat F j).P (cat F j).lo κ (fg F y j)))] := rfl
      rw [e3]
      generalize tf j (fg F x j) (fmul (cat F j).P (cat F j).lo κ (fg F y j)) = z at c2 ⊢
      generalize fmul (cat F j).P (cat F j).lo κ (fg F y j) = m at c1 c2 ⊢
      generalize fg F x j = xj at c2 ⊢
      generalize fg F y j = yj at c1 ⊢
      generalize (cat F j).lo.map D.int = lw at c1 ⊢
      generalize ((cat F j).P : Int) = p at c1 c2 ⊢
      generalize ((cat F j).lo.length : Int) = k
      refine ⟨[some (famD F many), some (.int x), some (.int y), some (.int κ), some (.fn tn), some (.ref 0), some (.int p), some (.int k), some (.tup lw), some (.int xj), some (.int yj)], [.lst r], [some (famD F many), some (.int x), some (.int y), some (.int κ), some (.fn tn), some (.ref 0), some (.int p), some (.int k), some (.tup lw), some (.int xj), some (.int yj)], [.lst (r ++ [.int z])], ?_, ?_, ⟨_, _, _, _, _, rfl, rfl⟩⟩
      · simp
      · unfold b38_1a_0
        simp only [sms_cons, sms_nil, sm_expr, den_meth, dens_cons, dens_nil, den_callV, den_var]
        simp [lk, c1, c2, app_r0, al])
  refine ⟨[.dead], ?_⟩
  have sx := fun h => g_split Z many x (n + 1) h
  have sy := fun h => g_split Z many y (n + 1) h
  have ez : ∀ h, Itx.den (cfg (n + 2)) (.zipN (.cons (.attr ("Family" : Str) (.var 0) ("parts" : Str)) (.cons (.attr ("Family" : Str) (.var 0) ("lowers" : Str)) (.cons (.mcall 34 ("Family" : Str) ("split" : Str) (.var 0) (.cons (.var 1) .nil)) (.cons (.mcall 34 ("Family" : Str) ("split" : Str) (.var 0) (.cons (.var 2) .nil)) .nil)))))
      [some (famD F many), some (.int x), some (.int y), some (.int κ), some (.fn tn), some (.ref 0), none, none, none, none, none] h = .ok ((List.range F.length).map fun j => .tup [(F.map prtD).getD j .non, (F.map lowD).getD j .non, ((spl (szs F) x).map D.int).getD j .non, ((spl (szs F) y).map D.int).getD j .non]) h := fun h => by
    have zc := zip_comb (c := cfg n) (F := F) (r1 := F.map prtD) (r2 := F.map lowD) (r3 := (spl (szs F) x).map D.int) (r4 := (spl (szs F) y).map D.int) (h := h) (List.length_map ..) (List.length_map ..) (by rw [List.length_map, spl_len, szs_len]) (by rw [List.length_map, spl_len, szs_len])
    rw [it_zipN]
    simp [-List.map_map, -List.getD_eq_getElem?_getD, sx, sy, zc]
  have gj := fun h => g_joined Z many ((List.range F.length).map fun i => tf i (fg F x i) (fmul (cat F i).P (cat F i).lo κ (fg F y i))) (by rw [List.length_map, List.length_range]) (n + 1) h
  have fr : freezeD (.ref 0) [Cell.lst (((List.range F.length).map fun i => tf i (fg F x i) (fmul (cat F i).P (cat F i).lo κ (fg F y i))).map D.int)] = .ok (.lst (((List.range F.length).map fun i => tf i (fg F x i) (fmul (cat F i).P (cat F i).lo κ (fg F y i))).map D.int)) [.dead] := frz_r0 (pures_ints _)
  have eo : op F (fun i a b => tf i a (fmul (cat F i).P (cat F i).lo κ b)) x y = jo (szs F) ((List.range F.length).map fun i => tf i (fg F x i) (fmul (cat F i).P (cat F i).lo κ (fg F y i))) := rfl
  rw [eo]
  generalize jo (szs F) _ = z at gj ⊢
  generalize (((List.range F.length).map fun i => tf i (fg F x i) (fmul (cat F i).P (cat F i).lo κ (fg F y i))).map D.int) = r at e gj fr
  unfold b38_0 b38_1 b38_2
  simp [-it_zipN, -List.getD_eq_getElem?_getD, new_cell, ez]
  simp only [List.getD_eq_getElem?_getD] at e ⊢
  rw [e]
  simp [fr, gj]
theorem g_comb {F : List Cmp} (Z : Sz F) {many : Int} (A : Fam F many) {tn : Str} {ti : Nat} {tf : Nat → Int → Int → Int} (T : Tog F tn ti tf) (x y κ : Int) (n : Nat) (h : Hs) :
    GG (n + 3) 38 [famD F many, .int x, .int y, .int κ, .fn tn] h = .ok (.int (op F (fun i a b => tf i a (fmul (cat F i).P (cat F i).lo κ b)) x y)) h :=
  G_ok (f := f38) rfl rfl (by show ((famD F many).pure && _) = true; rw [fam_pure]; rfl) (comb_body Z A T x y κ) rfl
end K40
set_option maxHeartbeats 2000000
namespace K40
open PySem PySem.Spec PyProof.Rows L2 Ev
/-- no inverses here -/
def Ivs (_ : List Cmp) : Prop := True
theorem ivs_of {F : List Cmp} {many : Int} (A : Fam F many) (h6 : ∀ i, i < F.length → (cat F i).P ^ (cat F i).lo.length ≤ 1000000) : Ivs F := trivial
theorem gl_col : glOf cs "COLUMN" = some (.int (-1)) := rfl
theorem g_kindC {F : List Cmp} {many κ : Int} (hκ : -1 ≤ κ ∧ κ ≤ many) (n : Nat) (h : Hs) : GG (n + 1) 36 [famD F many, .int κ] h = .ok .non h := by
  refine G_nx (f := f36) rfl rfl (by show ((famD F many).pure && _) = true; rw [fam_pure]; rfl) ⟨[some (famD F many), some (.int κ)], [], ?_⟩
  have a1 : decide (-1 ≤ κ) = true := by simp; omega
  have a2 : decide (κ ≤ many) = true := by simp; omega
  have gl := gl_col
  unfold f36 b36_0
  simp [gl, a1, a2]
theorem g_pointC {F : List Cmp} {many x : Int} (hx : Pt F x) (n : Nat) (h : Hs) : GG (n + 1) 37 [famD F many, .int x] h = .ok .non h := by
  refine G_nx (f := f37) rfl rfl (by show ((famD F many).pure && _) = true; rw [fam_pure]; rfl) ⟨[some (famD F many), some (.int x)], [], ?_⟩
  obtain ⟨x0, x1⟩ := hx
  have a1 : decide (0 ≤ x) = true := by simp; omega
  have a2 : decide (x < prd (szs F)) = true := by simp; omega
  unfold f37 b37_0
  simp [a1, a2]
end K40
set_option maxHeartbeats 2000000
namespace K40
open PySem PySem.Spec PyProof.Rows L2 Ev
theorem g_atcell {F : List Cmp} (Z : Sz F) {many : Int} (A : Fam F many) (r c κ : Int) (n : Nat) (h : Hs) :
    GG (n + 4) 39 [famD F many, .int r, .int c, .int κ] h = .ok (.int (hasF F κ r c)) h := by
  have gl := gl_col
  have c1 : ∀ h, GG (n + 3) 38 [famD F many, .int r, .int c, .int κ, .fn "sum_of"] h = .ok (.int (op F (fun i a b => fadd (cat F i).P (cat F i).lo.length a (fmul (cat F i).P (cat F i).lo κ b)) r c)) h := fun h => g_comb Z A (tog_sum A) r c κ n h
  refine G_ok (f := f39) rfl rfl (by show ((famD F many).pure && _) = true; rw [fam_pure]; rfl) ⟨[], ?_⟩ rfl
  unfold f39 b39_0
  unfold hasF
  by_cases e : κ = -1
  · simp [gl, e]
  · simp [gl, e, c1]
theorem it_rowU {c : Cfg} {e : Ex} {ρ : Ev.Env} {h : Hs} {u : Bool} {ks : List Int} (he : (e.dt c).1 ρ h = .ok (rowU u ks) h) : Itx.den c (.seq e) ρ h = .ok (ks.map D.int) h := by
  rw [it_seq, he, bd_ok]
  cases u <;> rfl
theorem word_body {n : Nat} {F : List Cmp} (Z : Sz F) {many : Int} (A : Fam F many) (u : Bool) {r c : Int} {ks : List Int} (hr : Pt F r) (hc : Pt F c) (hk : ∀ κ ∈ ks, -1 ≤ κ ∧ κ ≤ many) (h9 : ks.length ≤ 1000) :
    ∃ h', b40_0.den (cfg (n + 4)) [some (famD F many), some (.int r), some (.int c), some (rowU u ks), none] [] = .ret (.tup ((ks.map fun κ => hasF F κ r c).map .int)) h' := by
  have hL := LN_eq
  have c1 := fun h => g_pointC (many := many) hr (n + 3) h
  have c2 := fun h => g_pointC (many := many) hc (n + 3) h
  obtain ⟨ρ', h', e, t4, rfl, rfl⟩ := for_name (c := cfg (n + 4)) (b := Sms.den (cfg (n + 4)) b40_2a_0) (i := 4) D.int ks (fun j ρ h => ∃ t4 : Option D, ρ = [some (famD F many), some (.int r), some (.int c), some (rowU u ks), t4] ∧ h = [])
    (ρ := [some (famD F many), some (.int r), some (.int c), some (rowU u ks), none]) (h := []) ⟨none, rfl, rfl⟩ (fun j κ ρ h hκ ⟨t4, ea, eb⟩ => by
      subst ea eb
      have c3 := fun h => g_kindC (F := F) (hk κ (List.mem_of_getElem? hκ)) (n + 3) h
      refine ⟨by simp, [some (famD F many), some (.int r), some (.int c), some (rowU u ks), some (.int κ)], [], ?_, ⟨_, rfl, rfl⟩⟩
      generalize rowU u ks = rd
      unfold b40_2a_0
      simp [c3])
  have ef : Itx.den (cfg (n + 4)) (.seq (.var 3)) [some (famD F many), some (.int r), some (.int c), some (rowU u ks), none] [] = .ok (ks.map D.int) [] := it_rowU rfl
  have LC : (Ex.dt (cfg (n + 4)) (.lc true [(("kind" : Str), 4)] (.name 4) (.seq (.var 3)) .nil (.mcall 39 ("Family" : Str) ("at_cell" : Str) (.var 0) (.cons (.var 1) (.cons (.var 2) (.cons (.var 4) .nil)))))).1 [some (famD F many), some (.int r), some (.int c), some (rowU u ks), t4] [] = .ok (.lst (ks.map fun κ => D.int (hasF F κ r c))) [] :=
    lc_denF D.int (fun κ => D.int (hasF F κ r c)) ks (by simp) (by omega) (it_rowU rfl) fun κ hκ => by
      have c4 := fun h => g_atcell Z A r c κ n h
      generalize hasF F κ r c = z at c4 ⊢
      generalize rowU u ks = rd
      simp [c4]
  have em : (ks.map fun κ => hasF F κ r c).map D.int = ks.map fun κ => D.int (hasF F κ r c) := by rw [List.map_map]; rfl
  rw [em]
  generalize ks.map (fun κ => D.int (hasF F κ r c)) = out at LC ⊢
  generalize ks.map D.int = kd at e ef
  generalize rowU u ks = rd at e ef LC ⊢
  refine ⟨[], ?_⟩
  have t1 : ∀ h, primD .tupleOf true [.lst out] h = .ok (.tup out) h := fun h => rfl
  unfold b40_0
  simp [c1]
  unfold b40_1
  simp [c2]
  unfold b40_2
  rw [sms_cons, sm_for, ef]
  simp only [gq_ok]
  rw [e]
  unfold b40_3
  simp [-den_lc, LC, t1]
theorem g_word {F : List Cmp} (Z : Sz F) {many : Int} (A : Fam F many) (u : Bool) {r c : Int} {ks : List Int} (hr : Pt F r) (hc : Pt F c) (hk : ∀ κ ∈ ks, -1 ≤ κ ∧ κ ≤ many) (h9 : ks.length ≤ 1000) (n : Nat) (h : Hs) :
    GG (n + 5) 40 [famD F many, .int r, .int c, rowU u ks] h = .ok (.tup ((ks.map fun κ => hasF F κ r c).map .int)) h :=
  G_ok (f := f40) rfl rfl (by show ((famD F many).pure && (true && (true && ((rowU u ks).pure && true)))) = true; rw [fam_pure, rowU_pure]; rfl) (word_body Z A u hr hc hk h9) (pures_ints _)
end K40
set_option maxHeartbeats 2000000
namespace K40
open PySem PySem.Spec PyProof.Rows L2 Ev
theorem lsplit_body {n : Nat} {F : List Cmp} (Z : Sz F) {many : Int} (A : Fam F many) (x : Int) : ∃ h', b27_0.den (cfg (n + 1)) [some (.lst (F.map prtD)), some (.int x), none, none, none, none] [] = .ret (.lst ((spl (szs F) x).map .int)) h' := by
  have hN := LN_eq
  have hl := szs_len F
  obtain ⟨ρ', h', e, t1, t2, t3, rfl, rfl⟩ := for_map (g := Tg.den (cfg (n + 1)) (.tup (.cons (.name 3) (.cons (.name 4) .nil)))) (b := Sms.den (cfg (n + 1)) b27_1a_0) F.length (fun j => prtD (cat F (F.length - 1 - j)))
    (fun j ρ h => ∃ t1 t2 t3 : Option D, ρ = [some (.lst (F.map prtD)), some (.int (x / prd ((szs F).drop (F.length - j)))), some (.ref 0), t1, t2, t3] ∧ h = [.lst ((spl ((szs F).drop (F.length - j)) x).reverse.map .int)])
    (ρ := [some (.lst (F.map prtD)), some (.int x), some (.ref 0), none, none, none]) (h := [.lst []]) ⟨none, none, none, by rw [Nat.sub_zero, List.drop_of_length_le (by omega)]; simp [prd], by rw [Nat.sub_zero, List.drop_of_length_le (by omega)]; rfl⟩ (fun j ρ h hj ⟨t1, t2, t3, e1, e2⟩ => by
      subst e1 e2
      have hj2 : F.length - 1 - j < F.length := by omega
      have e3 := szs_cat F hj2
      rw [show F.length - 1 - j = F.length - (j + 1) from by omega] at e3 hj2 ⊢
      have e4 := drop_at e3
      rw [show F.length - (j + 1) + 1 = F.length - j from by omega] at e4
      obtain ⟨s0, s1⟩ := Z.at hj2
      have B := A.ff _ hj2
      have c1 : ∀ h, GG (n + 1) 24 [.int (cat F (F.length - (j + 1))).P, .int (cat F (F.length - (j + 1))).lo.length] h = .ok (.int (cat F (F.length - (j + 1))).z) h := fun h => g_lsize B.A.prm _ B.A.few n h
      have P0 := prd_pos (allp_drop Z.pos (F.length - j))
      have l0 : (spl ((szs F).drop (F.length - j)) x).length < LN := by rw [spl_len, List.length_drop]; have := Z.few; omega
      refine ⟨[some (.lst (F.map prtD)), some (.int (x / prd ((szs F).drop (F.length - j)))), some (.ref 0), some (.int (cat F (F.length - (j + 1))).P), some (.int (cat F (F.length - (j + 1))).lo.length), t3], [.lst ((spl ((szs F).drop (F.length - j)) x).reverse.map .int)],
        [some (.lst (F.map prtD)), some (.int (x / prd ((szs F).drop (F.length - (j + 1))))), some (.ref 0), some (.int (cat F (F.length - (j + 1))).P), some (.int (cat F (F.length - (j + 1))).lo.length), some (.int (cat F (F.length - (j + 1))).z)], [.lst ((spl ((szs F).drop (F.length - (j + 1))) x).reverse.map .int)], ?_, ?_, ⟨_, _, _, rfl, rfl⟩⟩
      · show Tg.den _ _ (.tup [.int (cat F (F.length - (j + 1))).P, .int (cat F (F.length - (j + 1))).lo.length]) _ _ = _
        generalize ((cat F (F.length - (j + 1))).P : Int) = p
        generalize ((cat F (F.length - (j + 1))).lo.length : Int) = k
        simp
      · rw [e4]
        unfold b27_1a_0 b27_1a_1 b27_1a_2
        have q : x / prd ((cat F (F.length - (j + 1))).z :: (szs F).drop (F.length - j)) = x / prd ((szs F).drop (F.length - j)) / (cat F (F.length - (j + 1))).z := by
          rw [div_div' P0]; rfl
        rw [q]
        have q2 : (spl ((cat F (F.length - (j + 1))).z :: (szs F).drop (F.length - j)) x) = (x / prd ((szs F).drop (F.length - j)) % (cat F (F.length - (j + 1))).z) :: spl ((szs F).drop (F.length - j)) x := rfl
        rw [q2, List.reverse_cons, List.map_append]
        generalize x / prd ((szs F).drop (F.length - j)) = y
        have al : ((spl ((szs F).drop (F.length - j)) x).reverse.map D.int).length < LN := by rw [List.length_map, List.length_reverse]; exact l0
        generalize ((spl ((szs F).drop (F.length - j)) x).reverse.map D.int) = r at al ⊢
        generalize (cat F (F.length - (j + 1))).z = s at c1 s0 s1 ⊢
        generalize ((cat F (F.length - (j + 1))).P : Int) = p at c1 ⊢
        generalize ((cat F (F.length - (j + 1))).lo.length : Int) = k at c1 ⊢
        simp [c1, bin_mod, s0, app_r0, al, bin_fdiv, s1])
  rw [Nat.sub_self, List.drop_zero] at e
  refine ⟨[.lst ((spl (szs F) x).reverse.map .int)], ?_⟩
  have q0 : ∀ h, revD true (D.lst (F.map prtD)) h = .ok (.lst ((List.range F.length).map fun j => prtD (cat F (F.length - 1 - j)))) h := fun h => by
    show newL true (F.map prtD).reverse h = _
    rw [new_fz (by rw [List.length_reverse, List.length_map]; have := Z.few; omega)]
    congr 2
    refine List.ext_getElem (by rw [List.length_reverse, List.length_map, List.length_map, List.length_range]) fun i h1 h2 => ?_
    rw [List.length_reverse, List.length_map] at h1
    rw [List.getElem_reverse, List.getElem_map, List.getElem_map, List.getElem_range]
    unfold cat
    rw [List.getD_eq_getElem?_getD, List.getElem?_eq_getElem (by omega)]
    simp
  have q1 : revD true (.ref 0) [Cell.lst ((spl (szs F) x).reverse.map .int)] = .ok (.lst ((spl (szs F) x).map .int)) [Cell.lst ((spl (szs F) x).reverse.map .int)] := by
    show newL true ((spl (szs F) x).reverse.map D.int).reverse _ = _
    rw [← List.map_reverse, List.reverse_reverse, new_fz (by rw [List.length_map, spl_len]; have := Z.few; omega)]
  unfold b27_0 b27_1 b27_2
  simp only [List.map_reverse] at e q0 q1
  generalize (F.map prtD) = r1 at e q0
  generalize ((List.range F.length).map fun j => prtD (cat F (F.length - 1 - j))) = r2 at e q0
  simp [new_cell, q0]
  rw [e]
  simp [q1]
theorem g_lsplit {F : List Cmp} (Z : Sz F) {many : Int} (A : Fam F many) (x : Int) (n : Nat) (h : Hs) : GG (n + 2) 27 [.lst (F.map prtD), .int x] h = .ok (.lst ((spl (szs F) x).map .int)) h :=
  G_ok (f := f27) rfl rfl (by show (D.pures (F.map prtD) && _) = true; rw [prts_pure]; rfl) (lsplit_body Z A x) (pures_ints _)
theorem idx_prt (F : List Cmp) {j : Nat} (hj : j < F.length) (h : Hs) : idxD (.lst (F.map prtD)) (.int (j : Nat)) h = .ok (prtD (cat F j)) h := by
  show (match atI (F.map prtD) (j : Nat) with | some v => R.ok v h | none => .stuck) = _
  rw [show atI (F.map prtD) (j : Nat) = some (prtD (cat F j)) from by
    unfold atI
    rw [ix_ok (by omega) (by rw [List.length_map]; omega)]
    show (F.map prtD)[(j : Int).toNat]? = _
    rw [Int.toNat_natCast, List.getElem?_map, List.getElem?_eq_getElem hj]
    unfold cat
    rw [List.getD_eq_getElem?_getD, List.getElem?_eq_getElem hj]; rfl]
theorem idx_low (F : List Cmp) {j : Nat} (hj : j < F.length) (h : Hs) : idxD (.lst (F.map lowD)) (.int (j : Nat)) h = .ok (lowD (cat F j)) h := by
  show (match atI (F.map lowD) (j : Nat) with | some v => R.ok v h | none => .stuck) = _
  rw [show atI (F.map lowD) (j : Nat) = some (lowD (cat F j)) from by
    unfold atI
    rw [ix_ok (by omega) (by rw [List.length_map]; omega)]
    show (F.map lowD)[(j : Int).toNat]? = _
    rw [Int.toNat_natCast, List.getElem?_map, List.getElem?_eq_getElem hj]
    unfold cat
    rw [List.getD_eq_getElem?_getD, List.getElem?_eq_getElem hj]; rfl]
theorem ljoin_body {n : Nat} {F : List Cmp} (Z : Sz F) {many : Int} (A : Fam F many) (fs : List Int) (hf : fs.length = F.length) : ∃ h', b28_0.den (cfg (n + 1)) [some (.lst (F.map prtD)), some (.lst (fs.map .int)), none, none] [] = .ret (.int (jo (szs F) fs)) h' := by
  have hN := LN_eq
  have hl := szs_len F
  have few := Z.few
  obtain ⟨ρ', h', e, t, u, rfl, rfl, q⟩ := for_map (g := Tg.den (cfg (n + 1)) (.name 3)) (b := Sms.den (cfg (n + 1)) b28_1a_0) F.length (fun j => .int (j : Nat))
    (fun j ρ h => ∃ (t : Int) (u : Option D), ρ = [some (.lst (F.map prtD)), some (.lst (fs.map .int)), some (.int t), u] ∧ h = [] ∧ t * prd ((szs F).drop j) + jo ((szs F).drop j) (fs.drop j) = jo (szs F) fs)
    (ρ := [some (.lst (F.map prtD)), some (.lst (fs.map .int)), some (.int 0), none]) (h := []) ⟨0, none, rfl, rfl, by simp⟩ (fun j ρ h hj ⟨t, u, e1, e2, q⟩ => by
      subst e1 e2
      obtain ⟨z0, z1⟩ := Z.at hj
      have b1 : -18446744073709551616 < (cat F j).z := by omega
      have b2 : (cat F j).z < 18446744073709551616 := by omega
      have B := A.ff _ hj
      have c1 : ∀ h, GG (n + 1) 24 [.int (cat F j).P, .int (cat F j).lo.length] h = .ok (.int (cat F j).z) h := fun h => g_lsize B.A.prm _ B.A.few n h
      have i1 := fun h => idx_prt F hj h
      have i2 : ∀ h, idxD (.lst (fs.map D.int)) (.int (j : Nat)) h = .ok (.int (fs.getD j 0)) h := fun h => by
        have := idx_l (xs := fs) (k := (j : Nat)) (h := h) (by omega) (by omega)
        exact this
      have p0 : ∀ h, idxD (prtD (cat F j)) (.int 0) h = .ok (.int (cat F j).P) h := fun h => rfl
      have p1 : ∀ h, idxD (prtD (cat F j)) (.int 1) h = .ok (.int (cat F j).lo.length) h := fun h => rfl
      refine ⟨[some (.lst (F.map prtD)), some (.lst (fs.map .int)), some (.int t), some (.int (j : Nat))], [], [some (.lst (F.map prtD)), some (.lst (fs.map .int)), some (.int (t * (cat F j).z + fs.getD j 0)), some (.int (j : Nat))], [], by simp, ?_, ⟨_, _, rfl, rfl, ?_⟩⟩
      · generalize fs.getD j 0 = y at i2 ⊢
        generalize ((j : Nat) : Int) = ji at i1 i2 ⊢
        generalize F.map prtD = r1 at i1 ⊢
        generalize fs.map D.int = r2 at i2 ⊢
        generalize prtD (cat F j) = pd at i1 p0 p1
        generalize (cat F j).z = z at c1 b1 b2 ⊢
        generalize ((cat F j).P : Int) = p at c1 p0
        generalize ((cat F j).lo.length : Int) = k at c1 p1
        unfold b28_1a_0
        simp [i1, i2, p0, p1, c1, bin_mul, b1, b2]
      · rw [jo_step (szs_cat F hj) (getD_get fs (by rw [hf]; exact hj))]; exact q)
  rw [List.drop_of_length_le (by omega)] at q
  have q : t = jo (szs F) fs := by rw [← q]; show t = t * 1 + jo [] _; simp [jo]
  subst q
  refine ⟨[], ?_⟩
  have m : -(LN : Int) ≤ (F.length : Int) ∧ (F.length : Int) ≤ LN := by omega
  have l1 : ∀ h, primD .len true [.lst (F.map prtD)] h = .ok (.int F.length) h := fun h => by rw [pr_lenL, List.length_map]
  obtain ⟨mi, hmi⟩ : ∃ mi : Int, mi = F.length := ⟨_, rfl⟩
  have hm2 : mi.toNat = F.length := by omega
  rw [← hmi] at m l1
  generalize F.map prtD = r1 at e l1 ⊢
  unfold b28_0 b28_1 b28_2
  simp [l1, m, hm2]
  rw [e]
  simp
theorem g_ljoin {F : List Cmp} (Z : Sz F) {many : Int} (A : Fam F many) (fs : List Int) (hf : fs.length = F.length) (n : Nat) (h : Hs) : GG (n + 2) 28 [.lst (F.map prtD), .lst (fs.map .int)] h = .ok (.int (jo (szs F) fs)) h :=
  G_ok (f := f28) rfl rfl (by show (D.pures (F.map prtD) && (D.pures (fs.map .int) && true)) = true; rw [prts_pure, pures_ints]; rfl) (ljoin_body Z A fs hf) rfl
end K40
set_option maxHeartbeats 2000000
namespace K40
open PySem PySem.Spec PyProof.Rows L2 Ev
/-- the law's product, in each part -/
structure LTm (F : List Cmp) (n : Nat) : Prop where
  run : ∀ i a b h, i < F.length → (0 ≤ a ∧ a < (cat F i).z) → (0 ≤ b ∧ b < (cat F i).z) → GG n 22 [.int (cat F i).P, .tup ((cat F i).lo.map .int), .int a, .int b] h = .ok (.int (fmul (cat F i).P (cat F i).lo a b)) h
theorem lhas_body {n : Nat} {F : List Cmp} (Z : Sz F) {many : Int} (A : Fam F many) (T : LTm F (n + 2)) (r c : Int) {κ : Int} (hκ : -1 ≤ κ ∧ κ ≤ many) :
    ∃ h', b29_0.den (cfg (n + 2)) [some (.lst (F.map prtD)), some (.lst (F.map lowD)), some (.int κ), some (.int r), some (.int c), none, none, none, none, none, none] [] = .ret (.int (hasF F κ r c)) h' := by
  have hN := LN_eq
  have few := Z.few
  have hl := szs_len F
  by_cases e : κ = -1
  · subst e
    refine ⟨[], ?_⟩
    have q : hasF F (-1) r c = c := if_pos rfl
    rw [q]
    unfold b29_0 b29_0a_0
    simp
  have lr : (spl (szs F) r).length = F.length := by rw [spl_len, hl]
  have lc : (spl (szs F) c).length = F.length := by rw [spl_len, hl]
  obtain ⟨ρ', h', e1, t8, t9, t10, rfl, rfl⟩ := for_map (g := Tg.den (cfg (n + 2)) (.name 8)) (b := Sms.den (cfg (n + 2)) b29_4a_0) F.length (fun j => .int (j : Nat))
    (fun j ρ h => ∃ t8 t9 t10 : Option D, ρ = [some (.lst (F.map prtD)), some (.lst (F.map lowD)), some (.int κ), some (.int r), some (.int c), some (.lst ((spl (szs F) r).map .int)), some (.lst ((spl (szs F) c).map .int)), some (.ref 0), t8, t9, t10] ∧
      h = [.lst (((List.range j).map fun i => fadd (cat F i).P (cat F i).lo.length (fg F r i) (fmul (cat F i).P (cat F i).lo κ (fg F c i))).map D.int)])
    (ρ := [some (.lst (F.map prtD)), some (.lst (F.map lowD)), some (.int κ), some (.int r), some (.int c), some (.lst ((spl (szs F) r).map .int)), some (.lst ((spl (szs F) c).map .int)), some (.ref 0), none, none, none]) (h := [.lst []]) ⟨none, none, none, rfl, rfl⟩ (fun j ρ h hj ⟨t8, t9, t10, ea, eb⟩ => by
      subst ea eb
      have B := A.ff j hj
      have i1 := fun h => idx_prt F hj h
      have i2 : ∀ h, idxD (.lst (F.map lowD)) (.int (j : Nat)) h = .ok (.tup ((cat F j).lo.map .int)) h := fun h => idx_low F hj h
      have i3 : ∀ h, idxD (.lst ((spl (szs F) r).map D.int)) (.int (j : Nat)) h = .ok (.int (fg F r j)) h := fun h => by
        have := idx_l (xs := spl (szs F) r) (k := (j : Nat)) (h := h) (by omega) (by omega)
        exact this
      have i4 : ∀ h, idxD (.lst ((spl (szs F) c).map D.int)) (.int (j : Nat)) h = .ok (.int (fg F c j)) h := fun h => by
        have := idx_l (xs := spl (szs F) c) (k := (j : Nat)) (h := h) (by omega) (by omega)
        exact this
      have c1 := fun h => T.run j κ (fg F c j) h hj (A.kind (by omega) hκ.2 hj) (A.fgR c hj)
      have c2 := fun h => g_lplus B.A.prm B.A.few (fg F r j) (fmul (cat F j).P (cat F j).lo κ (fg F c j)) n h
      have al : (((List.range j).map fun i => fadd (cat F i).P (cat F i).lo.length (fg F r i) (fmul (cat F i).P (cat F i).lo κ (fg F c i))).map D.int).length < LN := by rw [List.length_map, List.length_map, List.length_range]; omega
      rw [List.range_succ, List.map_append, List.map_append]
      generalize ((List.range j).map fun i => fadd (cat F i).P (cat F i).lo.length (fg F r i) (fmul (cat F i).P (cat F i).lo κ (fg F c i))).map D.int = rr at al ⊢
      have e3 : ([j].map fun i => fadd (cat F i).P (cat F i).lo.length (fg F r i) (fmul (cat F i).P (cat F i).lo κ (fg F c i))).map D.int = [D.int (fadd (cat F j).P (cat F j).lo.length (fg F r j) (fmul (cat F j).P (cat F j).lo κ (fg F c j)))] := rfl
      rw [e3]
      have pt : prtD (cat F j) = .tup [.int (cat F j).P, .int (cat F j).lo.length] := rfl
      rw [pt] at i1
      generalize fadd (cat F j).P (cat F j).lo.length (fg F r j) (fmul (cat F j).P (cat F j).lo κ (fg F c j)) = z at c2 ⊢
      generalize fmul (cat F j).P (cat F j).lo κ (fg F c j) = m at c1 c2
      generalize fg F r j = xj at i3 c2
      generalize fg F c j = yj at i4 c1
      generalize (cat F j).lo.map D.int = lw at i2 c1
      generalize ((cat F j).P : Int) = p at i1 c1 c2
      generalize ((cat F j).lo.length : Int) = k at i1 c2
      generalize ((j : Nat) : Int) = ji at i1 i2 i3 i4 ⊢
      generalize F.map prtD = r1 at i1 ⊢
      generalize F.map lowD = r2 at i2 ⊢
      generalize (spl (szs F) r).map D.int = r3 at i3 ⊢
      generalize (spl (szs F) c).map D.int = r4 at i4 ⊢
      refine ⟨[some (.lst r1), some (.lst r2), some (.int κ), some (.int r), some (.int c), some (.lst r3), some (.lst r4), some (.ref 0), some (.int ji), t9, t10], [.lst rr], [some (.lst r1), some (.lst r2), some (.int κ), some (.int r), some (.int c), some (.lst r3), some (.lst r4), some (.ref 0), some (.int ji), some (.int p), some (.int k)], [.lst (rr ++ [.int z])], by simp, ?_, ⟨_, _, _, rfl, rfl⟩⟩
      unfold b29_4a_0 b29_4a_1
      simp [i1, i2, i3, i4, c1, c2, app_r0, al])
  refine ⟨[.dead], ?_⟩
  have sx := fun h => g_lsplit Z A r n h
  have sy := fun h => g_lsplit Z A c n h
  have gj := fun h => g_ljoin Z A ((List.range F.length).map fun i => fadd (cat F i).P (cat F i).lo.length (fg F r i) (fmul (cat F i).P (cat F i).lo κ (fg F c i))) (by rw [List.length_map, List.length_range]) n h
  have fr : freezeD (.ref 0) [Cell.lst (((List.range F.length).map fun i => fadd (cat F i).P (cat F i).lo.length (fg F r i) (fmul (cat F i).P (cat F i).lo κ (fg F c i))).map D.int)] = .ok (.lst (((List.range F.length).map fun i => fadd (cat F i).P (cat F i).lo.length (fg F r i) (fmul (cat F i).P (cat F i).lo κ (fg F c i))).map D.int)) [.dead] := frz_r0 (pures_ints _)
  have eo : hasF F κ r c = jo (szs F) ((List.range F.length).map fun i => fadd (cat F i).P (cat F i).lo.length (fg F r i) (fmul (cat F i).P (cat F i).lo κ (fg F c i))) := if_neg e
  have m : -(LN : Int) ≤ (F.length : Int) ∧ (F.length : Int) ≤ LN := by omega
  have l1 : ∀ h, primD .len true [.lst (F.map prtD)] h = .ok (.int F.length) h := fun h => by rw [pr_lenL, List.length_map]
  obtain ⟨mi, hmi⟩ : ∃ mi : Int, mi = F.length := ⟨_, rfl⟩
  have hm2 : mi.toNat = F.length := by omega
  rw [← hmi] at m l1
  rw [eo]
  generalize jo (szs F) _ = z at gj ⊢
  generalize (((List.range F.length).map fun i => fadd (cat F i).P (cat F i).lo.length (fg F r i) (fmul (cat F i).P (cat F i).lo κ (fg F c i))).map D.int) = rr at e1 gj fr
  generalize F.map prtD = r1 at e1 sx sy gj l1 ⊢
  generalize F.map lowD = r2 at e1 ⊢
  generalize (spl (szs F) r).map D.int = r3 at e1 sx
  generalize (spl (szs F) c).map D.int = r4 at e1 sy
  unfold b29_0 b29_0a_0 b29_1 b29_2 b29_3 b29_4 b29_5
  simp [e, sx, sy, new_cell, l1, m, hm2]
  rw [e1]
  simp [fr, gj]
theorem g_lhas {n : Nat} {F : List Cmp} (Z : Sz F) {many : Int} (A : Fam F many) (T : LTm F (n + 2)) (r c : Int) {κ : Int} (hκ : -1 ≤ κ ∧ κ ≤ many) (h : Hs) :
    GG (n + 3) 29 [.lst (F.map prtD), .lst (F.map lowD), .int κ, .int r, .int c] h = .ok (.int (hasF F κ r c)) h :=
  G_ok (f := f29) rfl rfl (by show (D.pures (F.map prtD) && (D.pures (F.map lowD) && _)) = true; rw [prts_pure, lows_pure]; rfl) (lhas_body Z A T r c hκ) rfl
end K40
set_option maxHeartbeats 2000000
namespace K40
open PySem PySem.Spec PyProof.Rows L2 Ev
/-- one field's facts, for the kernel -/
def isI (r : Ev.R D) (i : Int) : Bool := match r with
  | .ok (.int j) _ => decide (j = i)
  | _ => false
theorem int_of {n i : Nat} {ds : List D} {v : Int} (e : isI (GG n i ds []) v = true) (h : Hs) (hs : shAt i = false := by rfl) : GG n i ds h = .ok (.int v) h := by
  unfold isI at e
  split at e
  · rename_i j h0 e0
    have := of_decide_eq_true e
    subst this
    exact G_heap e0 h hs
  · cases e
def timT (c : Cmp) : Bool := (List.range c.z.toNat).all fun a => (List.range c.z.toNat).all fun b => isI (GG 58 22 [.int c.P, .tup (c.lo.map .int), .int (a : Nat), .int (b : Nat)] []) (fmul c.P c.lo (a : Nat) (b : Nat))
theorem timT_ok {c : Cmp} (h : timT c = true) {a b : Int} (ha : 0 ≤ a ∧ a < c.z) (hb : 0 ≤ b ∧ b < c.z) (h' : Hs) : GG 58 22 [.int c.P, .tup (c.lo.map .int), .int a, .int b] h' = .ok (.int (fmul c.P c.lo a b)) h' := by
  obtain ⟨x, rfl⟩ : ∃ x : Nat, a = x := ⟨a.toNat, by omega⟩
  obtain ⟨y, rfl⟩ : ∃ y : Nat, b = y := ⟨b.toNat, by omega⟩
  exact int_of (List.all_eq_true.mp (List.all_eq_true.mp h x (List.mem_range.mpr (by omega))) y (List.mem_range.mpr (by omega))) h'
structure Good (c : Cmp) : Prop where
  ff : FF c.P c.lo
  tm : timT c = true
  z0 : 0 < c.z ∧ c.z < 1073741824
  z6 : c.P ^ c.lo.length ≤ 1000000
/-- a small family's -/
structure Sf (F : List Cmp) (many : Int) : Prop where
  Z : Sz F
  A : Fam F many
  V : Ivs F
  T : LTm F 58
  pur : 0 < prd (szs F) ∧ prd (szs F) < 1000
  mny : many < 1000
theorem cat_mem {F : List Cmp} {i : Nat} (hi : i < F.length) : cat F i ∈ F := by
  unfold cat
  rw [List.getD_eq_getElem?_getD, List.getElem?_eq_getElem hi]
  exact List.getElem_mem hi
theorem sf_of {F : List Cmp} {many : Int} (g : ∀ c ∈ F, Good c) (h : (decide (F.length ≤ 100) && (decide (1 ≤ many) && (F.all (fun c => decide (many < c.z)) && (decide (prd (szs F) < 1000) && decide (many < 1000))))) = true) : Sf F many := by
  obtain ⟨h1, h⟩ := (Bool.and_eq_true _ _).mp h
  obtain ⟨h2, h⟩ := (Bool.and_eq_true _ _).mp h
  obtain ⟨h3, h⟩ := (Bool.and_eq_true _ _).mp h
  obtain ⟨h4, h5⟩ := (Bool.and_eq_true _ _).mp h
  have A : Fam F many := ⟨fun i hi => (g _ (cat_mem hi)).ff, fun i hi => of_decide_eq_true (List.all_eq_true.mp h3 _ (cat_mem hi)), of_decide_eq_true h2⟩
  refine ⟨⟨A.szP, of_decide_eq_true h1, fun s hs => ?_⟩, A, ivs_of A fun i hi => (g _ (cat_mem hi)).z6, ⟨fun i a b h' hi ha hb => timT_ok (g _ (cat_mem hi)).tm ha hb h'⟩, ⟨prd_pos A.szP, of_decide_eq_true h4⟩, of_decide_eq_true h5⟩
  obtain ⟨c, hc, rfl⟩ := List.mem_map.mp hs
  exact (g c hc).z0.2
/-- an instance made by the law, frozen -/
def mk59 (ds : List D) : Ev.R D := (GG 59 33 (.ref 0 :: ds) [.obj "Family" []]).bind fun r h => match r with
  | .non => freezeD (.ref 0) h
  | _ => .stuck
def c5 : Cmp := ⟨5, [0]⟩
theorem ff_c5 : FF c5.P c5.lo := frobT_ok (P := 5) (lo := [0]) (m := 3) (F1 := [0]) (F := [[1]]) (W := [[0]]) (by decide +kernel) (by decide +kernel) (by decide) (by decide +kernel)
theorem tm_c5 : timT c5 = true := by decide +kernel
theorem gd_c5 : Good c5 := ⟨ff_c5, tm_c5, by decide +kernel, by decide +kernel⟩
def c7 : Cmp := ⟨7, [0]⟩
theorem ff_c7 : FF c7.P c7.lo := frobT_ok (P := 7) (lo := [0]) (m := 3) (F1 := [0]) (F := [[1]]) (W := [[0]]) (by decide +kernel) (by decide +kernel) (by decide) (by decide +kernel)
theorem tm_c7 : timT c7 = true := by decide +kernel
theorem gd_c7 : Good c7 := ⟨ff_c7, tm_c7, by decide +kernel, by decide +kernel⟩
def c4 : Cmp := ⟨2, [1, 1]⟩
theorem ff_c4 : FF c4.P c4.lo := frobT_ok (P := 2) (lo := [1, 1]) (m := 2) (F1 := [1, 1]) (F := [[1, 0], [1, 1]]) (W := [[0, 0], [1, 0]]) (by decide +kernel) (by decide +kernel) (by decide) (by decide +kernel)
theorem tm_c4 : timT c4 = true := by decide +kernel
theorem gd_c4 : Good c4 := ⟨ff_c4, tm_c4, by decide +kernel, by decide +kernel⟩
def c8 : Cmp := ⟨2, [1, 1, 0]⟩
theorem ff_c8 : FF c8.P c8.lo := frobT_ok (P := 2) (lo := [1, 1, 0]) (m := 2) (F1 := [0, 0, 1]) (F := [[1, 0, 0], [0, 0, 1], [0, 1, 1]]) (W := [[0, 0, 0], [0, 0, 1], [0, 1, 1]]) (by decide +kernel) (by decide +kernel) (by decide) (by decide +kernel)
theorem tm_c8 : timT c8 = true := by decide +kernel
theorem gd_c8 : Good c8 := ⟨ff_c8, tm_c8, by decide +kernel, by decide +kernel⟩
def c9 : Cmp := ⟨3, [1, 0]⟩
theorem ff_c9 : FF c9.P c9.lo := frobT_ok (P := 3) (lo := [1, 0]) (m := 2) (F1 := [0, 2]) (F := [[1, 0], [0, 2]]) (W := [[0, 0], [0, 1]]) (by decide +kernel) (by decide +kernel) (by decide) (by decide +kernel)
theorem tm_c9 : timT c9 = true := by decide +kernel
theorem gd_c9 : Good c9 := ⟨ff_c9, tm_c9, by decide +kernel, by decide +kernel⟩
def c3 : Cmp := ⟨3, [0]⟩
theorem ff_c3 : FF c3.P c3.lo := frobT_ok (P := 3) (lo := [0]) (m := 2) (F1 := [0]) (F := [[1]]) (W := [[0]]) (by decide +kernel) (by decide +kernel) (by decide) (by decide +kernel)
theorem tm_c3 : timT c3 = true := by decide +kernel
theorem gd_c3 : Good c3 := ⟨ff_c3, tm_c3, by decide +kernel, by decide +kernel⟩
def c2 : Cmp := ⟨2, [0]⟩
theorem ff_c2 : FF c2.P c2.lo := frobT_ok (P := 2) (lo := [0]) (m := 2) (F1 := [0]) (F := [[1]]) (W := [[0]]) (by decide +kernel) (by decide +kernel) (by decide) (by decide +kernel)
theorem tm_c2 : timT c2 = true := by decide +kernel
theorem gd_c2 : Good c2 := ⟨ff_c2, tm_c2, by decide +kernel, by decide +kernel⟩
def c11 : Cmp := ⟨11, [0]⟩
theorem ff_c11 : FF c11.P c11.lo := frobT_ok (P := 11) (lo := [0]) (m := 4) (F1 := [0]) (F := [[1]]) (W := [[0]]) (by decide +kernel) (by decide +kernel) (by decide) (by decide +kernel)
theorem tm_c11 : timT c11 = true := by decide +kernel
theorem gd_c11 : Good c11 := ⟨ff_c11, tm_c11, by decide +kernel, by decide +kernel⟩
def famTab : List (List Cmp × Int) := [([c5], 4), ([c7], 6), ([c4], 3), ([c8], 7), ([c9], 8), ([c4, c3], 2), ([c3, c4], 2), ([c5, c3], 2), ([c4, c5], 3), ([c3], 2), ([c2, c3], 1), ([c11], 10), ([c2], 1), ([c3, c5], 2)]
theorem so_0 : GG 59 25 [.lst ([c5].map prtD)] [] = .ok (.int (prd (szs [c5]))) [] := by kernel_rfl
theorem sm_0 : GG 59 26 [.lst ([c5].map prtD)] [] = .ok (.int 4) [] := by kernel_rfl
theorem sl_0 : GG 59 31 [.lst ([c5].map prtD)] [] = .ok (.lst ([c5].map lowD)) [] := by kernel_rfl
theorem sk_0 : mk59 [.lst ([c5].map prtD)] = .ok (famD [c5] 4) [.dead] := by kernel_rfl
theorem sf_0 : Sf [c5] 4 := sf_of (List.forall_mem_cons.mpr ⟨gd_c5, fun _ h => nomatch h⟩) (by decide +kernel)
theorem so_1 : GG 59 25 [.lst ([c7].map prtD)] [] = .ok (.int (prd (szs [c7]))) [] := by kernel_rfl
theorem sm_1 : GG 59 26 [.lst ([c7].map prtD)] [] = .ok (.int 6) [] := by kernel_rfl
theorem sl_1 : GG 59 31 [.lst ([c7].map prtD)] [] = .ok (.lst ([c7].map lowD)) [] := by kernel_rfl
theorem sk_1 : mk59 [.lst ([c7].map prtD)] = .ok (famD [c7] 6) [.dead] := by kernel_rfl
theorem sf_1 : Sf [c7] 6 := sf_of (List.forall_mem_cons.mpr ⟨gd_c7, fun _ h => nomatch h⟩) (by decide +kernel)
theorem so_2 : GG 59 25 [.lst ([c4].map prtD)] [] = .ok (.int (prd (szs [c4]))) [] := by kernel_rfl
theorem sm_2 : GG 59 26 [.lst ([c4].map prtD)] [] = .ok (.int 3) [] := by kernel_rfl
theorem sl_2 : GG 59 31 [.lst ([c4].map prtD)] [] = .ok (.lst ([c4].map lowD)) [] := by kernel_rfl
theorem sk_2 : mk59 [.lst ([c4].map prtD)] = .ok (famD [c4] 3) [.dead] := by kernel_rfl
theorem sf_2 : Sf [c4] 3 := sf_of (List.forall_mem_cons.mpr ⟨gd_c4, fun _ h => nomatch h⟩) (by decide +kernel)
theorem so_3 : GG 59 25 [.lst ([c8].map prtD)] [] = .ok (.int (prd (szs [c8]))) [] := by kernel_rfl
theorem sm_3 : GG 59 26 [.lst ([c8].map prtD)] [] = .ok (.int 7) [] := by kernel_rfl
theorem sl_3 : GG 59 31 [.lst ([c8].map prtD)] [] = .ok (.lst ([c8].map lowD)) [] := by kernel_rfl
theorem sk_3 : mk59 [.lst ([c8].map prtD)] = .ok (famD [c8] 7) [.dead] := by kernel_rfl
theorem sf_3 : Sf [c8] 7 := sf_of (List.forall_mem_cons.mpr ⟨gd_c8, fun _ h => nomatch h⟩) (by decide +kernel)
theorem so_4 : GG 59 25 [.lst ([c9].map prtD)] [] = .ok (.int (prd (szs [c9]))) [] := by kernel_rfl
theorem sm_4 : GG 59 26 [.lst ([c9].map prtD)] [] = .ok (.int 8) [] := by kernel_rfl
theorem sl_4 : GG 59 31 [.lst ([c9].map prtD)] [] = .ok (.lst ([c9].map lowD)) [] := by kernel_rfl
theorem sk_4 : mk59 [.lst ([c9].map prtD)] = .ok (famD [c9] 8) [.dead] := by kernel_rfl
theorem sf_4 : Sf [c9] 8 := sf_of (List.forall_mem_cons.mpr ⟨gd_c9, fun _ h => nomatch h⟩) (by decide +kernel)
theorem so_5 : GG 59 25 [.lst ([c4, c3].map prtD)] [] = .ok (.int (prd (szs [c4, c3]))) [] := by kernel_rfl
theorem sm_5 : GG 59 26 [.lst ([c4, c3].map prtD)] [] = .ok (.int 2) [] := by kernel_rfl
theorem sl_5 : GG 59 31 [.lst ([c4, c3].map prtD)] [] = .ok (.lst ([c4, c3].map lowD)) [] := by kernel_rfl
theorem sk_5 : mk59 [.lst ([c4, c3].map prtD)] = .ok (famD [c4, c3] 2) [.dead] := by kernel_rfl
theorem sf_5 : Sf [c4, c3] 2 := sf_of (List.forall_mem_cons.mpr ⟨gd_c4, List.forall_mem_cons.mpr ⟨gd_c3, fun _ h => nomatch h⟩⟩) (by decide +kernel)
theorem so_6 : GG 59 25 [.lst ([c3, c4].map prtD)] [] = .ok (.int (prd (szs [c3, c4]))) [] := by kernel_rfl
theorem sm_6 : GG 59 26 [.lst ([c3, c4].map prtD)] [] = .ok (.int 2) [] := by kernel_rfl
theorem sl_6 : GG 59 31 [.lst ([c3, c4].map prtD)] [] = .ok (.lst ([c3, c4].map lowD)) [] := by kernel_rfl
theorem sk_6 : mk59 [.lst ([c3, c4].map prtD)] = .ok (famD [c3, c4] 2) [.dead] := by kernel_rfl
theorem sf_6 : Sf [c3, c4] 2 := sf_of (List.forall_mem_cons.mpr ⟨gd_c3, List.forall_mem_cons.mpr ⟨gd_c4, fun _ h => nomatch h⟩⟩) (by decide +kernel)
theorem so_7 : GG 59 25 [.lst ([c5, c3].map prtD)] [] = .ok (.int (prd (szs [c5, c3]))) [] := by kernel_rfl
theorem sm_7 : GG 59 26 [.lst ([c5, c3].map prtD)] [] = .ok (.int 2) [] := by kernel_rfl
theorem sl_7 : GG 59 31 [.lst ([c5, c3].map prtD)] [] = .ok (.lst ([c5, c3].map lowD)) [] := by kernel_rfl
theorem sk_7 : mk59 [.lst ([c5, c3].map prtD)] = .ok (famD [c5, c3] 2) [.dead] := by kernel_rfl
theorem sf_7 : Sf [c5, c3] 2 := sf_of (List.forall_mem_cons.mpr ⟨gd_c5, List.forall_mem_cons.mpr ⟨gd_c3, fun _ h => nomatch h⟩⟩) (by decide +kernel)
theorem so_8 : GG 59 25 [.lst ([c4, c5].map prtD)] [] = .ok (.int (prd (szs [c4, c5]))) [] := by kernel_rfl
theorem sm_8 : GG 59 26 [.lst ([c4, c5].map prtD)] [] = .ok (.int 3) [] := by kernel_rfl
theorem sl_8 : GG 59 31 [.lst ([c4, c5].map prtD)] [] = .ok (.lst ([c4, c5].map lowD)) [] := by kernel_rfl
theorem sk_8 : mk59 [.lst ([c4, c5].map prtD)] = .ok (famD [c4, c5] 3) [.dead] := by kernel_rfl
theorem sf_8 : Sf [c4, c5] 3 := sf_of (List.forall_mem_cons.mpr ⟨gd_c4, List.forall_mem_cons.mpr ⟨gd_c5, fun _ h => nomatch h⟩⟩) (by decide +kernel)
theorem so_9 : GG 59 25 [.lst ([c3].map prtD)] [] = .ok (.int (prd (szs [c3]))) [] := by kernel_rfl
theorem sm_9 : GG 59 26 [.lst ([c3].map prtD)] [] = .ok (.int 2) [] := by kernel_rfl
theorem sl_9 : GG 59 31 [.lst ([c3].map prtD)] [] = .ok (.lst ([c3].map lowD)) [] := by kernel_rfl
theorem sk_9 : mk59 [.lst ([c3].map prtD)] = .ok (famD [c3] 2) [.dead] := by kernel_rfl
theorem sf_9 : Sf [c3] 2 := sf_of (List.forall_mem_cons.mpr ⟨gd_c3, fun _ h => nomatch h⟩) (by decide +kernel)
theorem so_10 : GG 59 25 [.lst ([c2, c3].map prtD)] [] = .ok (.int (prd (szs [c2, c3]))) [] := by kernel_rfl
theorem sm_10 : GG 59 26 [.lst ([c2, c3].map prtD)] [] = .ok (.int 1) [] := by kernel_rfl
theorem sl_10 : GG 59 31 [.lst ([c2, c3].map prtD)] [] = .ok (.lst ([c2, c3].map lowD)) [] := by kernel_rfl
theorem sk_10 : mk59 [.lst ([c2, c3].map prtD)] = .ok (famD [c2, c3] 1) [.dead] := by kernel_rfl
theorem sf_10 : Sf [c2, c3] 1 := sf_of (List.forall_mem_cons.mpr ⟨gd_c2, List.forall_mem_cons.mpr ⟨gd_c3, fun _ h => nomatch h⟩⟩) (by decide +kernel)
theorem so_11 : GG 59 25 [.lst ([c11].map prtD)] [] = .ok (.int (prd (szs [c11]))) [] := by kernel_rfl
theorem sm_11 : GG 59 26 [.lst ([c11].map prtD)] [] = .ok (.int 10) [] := by kernel_rfl
theorem sl_11 : GG 59 31 [.lst ([c11].map prtD)] [] = .ok (.lst ([c11].map lowD)) [] := by kernel_rfl
theorem sk_11 : mk59 [.lst ([c11].map prtD)] = .ok (famD [c11] 10) [.dead] := by kernel_rfl
theorem sf_11 : Sf [c11] 10 := sf_of (List.forall_mem_cons.mpr ⟨gd_c11, fun _ h => nomatch h⟩) (by decide +kernel)
theorem so_12 : GG 59 25 [.lst ([c2].map prtD)] [] = .ok (.int (prd (szs [c2]))) [] := by kernel_rfl
theorem sm_12 : GG 59 26 [.lst ([c2].map prtD)] [] = .ok (.int 1) [] := by kernel_rfl
theorem sl_12 : GG 59 31 [.lst ([c2].map prtD)] [] = .ok (.lst ([c2].map lowD)) [] := by kernel_rfl
theorem sk_12 : mk59 [.lst ([c2].map prtD)] = .ok (famD [c2] 1) [.dead] := by kernel_rfl
theorem sf_12 : Sf [c2] 1 := sf_of (List.forall_mem_cons.mpr ⟨gd_c2, fun _ h => nomatch h⟩) (by decide +kernel)
theorem so_13 : GG 59 25 [.lst ([c3, c5].map prtD)] [] = .ok (.int (prd (szs [c3, c5]))) [] := by kernel_rfl
theorem sm_13 : GG 59 26 [.lst ([c3, c5].map prtD)] [] = .ok (.int 2) [] := by kernel_rfl
theorem sl_13 : GG 59 31 [.lst ([c3, c5].map prtD)] [] = .ok (.lst ([c3, c5].map lowD)) [] := by kernel_rfl
theorem sk_13 : mk59 [.lst ([c3, c5].map prtD)] = .ok (famD [c3, c5] 2) [.dead] := by kernel_rfl
theorem sf_13 : Sf [c3, c5] 2 := sf_of (List.forall_mem_cons.mpr ⟨gd_c3, List.forall_mem_cons.mpr ⟨gd_c5, fun _ h => nomatch h⟩⟩) (by decide +kernel)
theorem sf_all : ∀ q ∈ famTab, Sf q.1 q.2 ∧ GG 59 25 [.lst (q.1.map prtD)] [] = .ok (.int (prd (szs q.1))) [] ∧ GG 59 26 [.lst (q.1.map prtD)] [] = .ok (.int q.2) [] ∧ GG 59 31 [.lst (q.1.map prtD)] [] = .ok (.lst (q.1.map lowD)) [] ∧ mk59 [.lst (q.1.map prtD)] = .ok (famD q.1 q.2) [.dead] :=
  List.forall_mem_cons.mpr ⟨⟨sf_0, so_0, sm_0, sl_0, sk_0⟩, List.forall_mem_cons.mpr ⟨⟨sf_1, so_1, sm_1, sl_1, sk_1⟩, List.forall_mem_cons.mpr ⟨⟨sf_2, so_2, sm_2, sl_2, sk_2⟩, List.forall_mem_cons.mpr ⟨⟨sf_3, so_3, sm_3, sl_3, sk_3⟩, List.forall_mem_cons.mpr ⟨⟨sf_4, so_4, sm_4, sl_4, sk_4⟩, List.forall_mem_cons.mpr ⟨⟨sf_5, so_5, sm_5, sl_5, sk_5⟩, List.forall_mem_cons.mpr ⟨⟨sf_6, so_6, sm_6, sl_6, sk_6⟩, List.forall_mem_cons.mpr ⟨⟨sf_7, so_7, sm_7, sl_7, sk_7⟩, List.forall_mem_cons.mpr ⟨⟨sf_8, so_8, sm_8, sl_8, sk_8⟩, List.forall_mem_cons.mpr ⟨⟨sf_9, so_9, sm_9, sl_9, sk_9⟩, List.forall_mem_cons.mpr ⟨⟨sf_10, so_10, sm_10, sl_10, sk_10⟩, List.forall_mem_cons.mpr ⟨⟨sf_11, so_11, sm_11, sl_11, sk_11⟩, List.forall_mem_cons.mpr ⟨⟨sf_12, so_12, sm_12, sl_12, sk_12⟩, List.forall_mem_cons.mpr ⟨⟨sf_13, so_13, sm_13, sl_13, sk_13⟩, fun _ h => nomatch h⟩⟩⟩⟩⟩⟩⟩⟩⟩⟩⟩⟩⟩⟩
end K40
set_option maxHeartbeats 2000000
namespace K40
open PySem PySem.Spec PyProof.Rows L2 Ev
theorem tab_any {α : Type} {T : List α} {g : α → D} {j : Nat} (hj : j < T.length) (h : Hs) : idxD (.lst (T.map g)) (.int (j : Nat)) h = .ok (g (T[j]'hj)) h := by
  show (match atI (T.map g) (j : Nat) with | some v => R.ok v h | none => .stuck) = _
  rw [show atI (T.map g) (j : Nat) = some (g (T[j]'hj)) from by
    unfold atI
    rw [ix_ok (by omega) (by rw [List.length_map]; omega)]
    show (T.map g)[(j : Int).toNat]? = _
    rw [Int.toNat_natCast, List.getElem?_map, List.getElem?_eq_getElem hj]; rfl]
theorem small_pre (n : Nat) (a b : Option D) : Sms.den (cfg n) b30_0 [a, b, none] [] = Sms.den (cfg n) b30_3 [a, b, some (.lst (famTab.map fun q => .lst (q.1.map prtD)))] [] := by kernel_rfl
theorem g_small {ks : List Int} (hk : 1 ≤ ks.length) (n : Nat) : ∃ q ∈ famTab, ∀ h, GG (n + 1) 30 [.lst (ks.map .int), .int 0] h = .ok (.lst (q.1.map prtD)) h := by
  obtain ⟨j, hj⟩ : ∃ j : Nat, at0 ks 0 % 14 = j := ⟨(at0 ks 0 % 14).toNat, by omega⟩
  have hj2 : j < famTab.length := by show j < 14; omega
  have i1 : ∀ h, idxD (.lst (ks.map D.int)) (.int 0) h = .ok (.int (at0 ks 0)) h := fun h => idx_l (k := 0) (by omega) (by omega)
  have i2 := fun h => tab_any (T := famTab) (g := fun q => D.lst (q.1.map prtD)) hj2 h
  refine ⟨famTab[j], List.getElem_mem _, fun h => ?_⟩
  refine G_ok (f := f30) rfl rfl (by show (D.pures (ks.map .int) && _) = true; rw [pures_ints]; rfl) ⟨[], ?_⟩ (by show D.pures (famTab[j].1.map prtD) = true; exact prts_pure _)
  refine (small_pre n _ _).trans ?_
  generalize famTab.map (fun q => D.lst (q.1.map prtD)) = T at i2 ⊢
  generalize D.lst (famTab[j].1.map prtD) = r at i2 ⊢
  have bm : ∀ h, binD .mod true (.int (at0 ks 0)) (.int 14) h = .ok (.int (at0 ks 0 % 14)) h := fun h => bin_mod (by omega)
  rw [hj] at bm
  generalize at0 ks 0 = k0 at i1 bm
  generalize ks.map D.int = kd at i1 ⊢
  generalize ((j : Nat) : Int) = ji at i2 bm
  unfold b30_3
  simp [i1, i2, bm]
/-- what the law has drawn -/
structure Dr (ns ks : List Int) (F : List Cmp) (many : Int) : Prop where
  sf : Sf F many
  num : ∀ h, GG 59 30 [.lst (ks.map .int), .int 0] h = .ok (.lst (F.map prtD)) h
  ord : ∀ h, GG 59 25 [.lst (F.map prtD)] h = .ok (.int (prd (szs F))) h
  mny : ∀ h, GG 59 26 [.lst (F.map prtD)] h = .ok (.int many) h
  low : ∀ h, GG 59 31 [.lst (F.map prtD)] h = .ok (.lst (F.map lowD)) h
  mkd : mk59 [.lst (F.map prtD)] = .ok (famD F many) [.dead]
theorem draw {ns ks : List Int} (hk : 1 ≤ ks.length) : ∃ F many, Dr ns ks F many := by
  obtain ⟨q, hq, e⟩ := g_small (ks := ks) hk 58
  obtain ⟨a, b, c, d, f⟩ := sf_all q hq
  exact ⟨q.1, q.2, a, e, fun h => G_heap b h, fun h => G_heap c h, fun h => G_heap d h, f⟩
/-- the instance made, as the law's statement has it -/
theorem mk_den {ρ : Ev.Env} {i : Nat} {F : List Cmp} {many : Int} (e : ρ[i]? = some (some (.lst (F.map prtD)))) (m : mk59 [.lst (F.map prtD)] = .ok (famD F many) [.dead]) :
    (Ex.dt (cfg 59) (.freeze (.make 33 ("Family" : Str) (.cons (.var i) .nil)))).1 ρ [] = .ok (famD F many) [.dead] := by
  rw [← m]
  simp only [den_freeze, den_make, dens_cons, dens_nil, den_var, e, bd_ok]
  show ((GG 59 33 [.ref 0, .lst (F.map prtD)] [.obj "Family" []]).bd _ .mk).bd _ .mk = ((GG 59 33 [.ref 0, .lst (F.map prtD)] [.obj "Family" []]).bind _)
  cases GG 59 33 [.ref 0, .lst (F.map prtD)] [.obj "Family" []] with
  | ok d h => cases d <;> rfl
  | exc c p h => rfl
  | stuck => rfl
abbrev cf59 : Cfg := cfg 59
theorem law40 {ns ks : List Int} (hk : ks.length = 30) {F : List Cmp} {many : Int} (Q : Dr ns ks F many) (eN : ∀ h, GG 59 1 [.vw (ns.map .int), .int 30] h = .ok (.lst (ks.map .int)) h) :
    ∃ h', Sms.den cf59 b32_0 [some (.vw (ns.map .int)), none, none, none, none, none, none, none, none, none, none, none, none] [] = .ret (.bl true) h' := by
  have hL := LN_eq
  have S := Q.sf
  have m1 := S.A.one
  obtain ⟨p0, p1⟩ := S.pur
  have m2 := S.mny
  have e1 := eN
  have e2 := Q.num
  have e3 := Q.low
  have e4 := Q.ord
  have e5 := Q.mny
  have e6 := mk_den (ρ := [some (.vw (ns.map .int)), some (.lst (ks.map .int)), some (.lst (F.map prtD)), some (.lst (F.map lowD)), some (.int (prd (szs F))), none, none, none, none, none, none, none, none]) (i := 2) rfl Q.mkd
  obtain ⟨K, hK, hK9⟩ : ∃ K : Nat, at0 ks 1 % 9 = K ∧ K < 9 := ⟨(at0 ks 1 % 9).toNat, by omega, by omega⟩
  obtain ⟨qs, hqs⟩ : ∃ qs : List Int, qs = (List.range K).map fun k : Nat => at0 ks (4 + (k : Nat)) % (many + 2) - 1 := ⟨_, rfl⟩
  have hq : ∀ κ ∈ qs, -1 ≤ κ ∧ κ ≤ many := fun κ hκ => by
    rw [hqs] at hκ
    obtain ⟨k, _, rfl⟩ := List.mem_map.mp hκ
    have a := Int.emod_nonneg (at0 ks (4 + (k : Nat))) (show many + 2 ≠ 0 by omega)
    have b := Int.emod_lt_of_pos (at0 ks (4 + (k : Nat))) (show 0 < many + 2 by omega)
    omega
  have ql : qs.length = K := by rw [hqs, List.length_map, List.length_range]
  have i1 : ∀ h, idxD (.lst (ks.map D.int)) (.int 1) h = .ok (.int (at0 ks 1)) h := fun h => idx_l (by omega) (by omega)
  have i2 : ∀ h, idxD (.lst (ks.map D.int)) (.int 2) h = .ok (.int (at0 ks 2)) h := fun h => idx_l (by omega) (by omega)
  have i3 : ∀ h, idxD (.lst (ks.map D.int)) (.int 3) h = .ok (.int (at0 ks 3)) h := fun h => idx_l (by omega) (by omega)
  have b9 : ∀ h, binD .mod true (.int (at0 ks 1)) (.int 9) h = .ok (.int (K : Nat)) h := fun h => by rw [bin_mod (by omega), hK]
  have bo2 : ∀ h, binD .mod true (.int (at0 ks 2)) (.int (prd (szs F))) h = .ok (.int (at0 ks 2 % prd (szs F))) h := fun h => bin_mod p0
  have bo3 : ∀ h, binD .mod true (.int (at0 ks 3)) (.int (prd (szs F))) h = .ok (.int (at0 ks 3 % prd (szs F))) h := fun h => bin_mod p0
  have hr : Pt F (at0 ks 2 % prd (szs F)) := ⟨Int.emod_nonneg _ (by omega), Int.emod_lt_of_pos _ p0⟩
  have hc : Pt F (at0 ks 3 % prd (szs F)) := ⟨Int.emod_nonneg _ (by omega), Int.emod_lt_of_pos _ p0⟩
  have LK : (Ex.dt cf59 (.lc true [(("_law_k" : Str), 7)] (.name 7) (.range (.cons (.bin .mod true (.prim .intOf true (.cons (.idx (.var 1) (.cint 1)) .nil)) (.cint 9)) .nil)) .nil (.bin .sub true (.bin .mod true (.prim .intOf true (.cons (.idx (.var 1) (.bin .add true (.cint 4) (.var 7))) .nil)) (.bin .add true (.call 26 (.cons (.var 2) .nil)) (.cint 2))) (.cint 1)))).1
      [some (.vw (ns.map .int)), some (.lst (ks.map .int)), some (.lst (F.map prtD)), some (.lst (F.map lowD)), some (.int (prd (szs F))), some (famD F many), none, none, none, none, none, none, none] [.dead] = .ok (.lst (qs.map D.int)) [.dead] := by
    have := lc_denF (c := cf59) (x := "_law_k") (i := 7) (it := .range (.cons (.bin .mod true (.prim .intOf true (.cons (.idx (.var 1) (.cint 1)) .nil)) (.cint 9)) .nil)) (elt := .bin .sub true (.bin .mod true (.prim .intOf true (.cons (.idx (.var 1) (.bin .add true (.cint 4) (.var 7))) .nil)) (.bin .add true (.call 26 (.cons (.var 2) .nil)) (.cint 2))) (.cint 1))
      (ρ := [some (.vw (ns.map .int)), some (.lst (ks.map .int)), some (.lst (F.map prtD)), some (.lst (F.map lowD)), some (.int (prd (szs F))), some (famD F many), none, none, none, none, none, none, none]) (h := [.dead])
      (fun k : Nat => D.int (k : Nat)) (fun k : Nat => D.int (at0 ks (4 + (k : Nat)) % (many + 2) - 1)) (List.range K) (by simp) (by rw [List.length_range]; omega) (it_rng1 (by
        generalize ks.map D.int = kd at i1 ⊢
        simp [i1, b9]) (by omega)) fun k hk' => by
        have hk2 := List.mem_range.mp hk'
        have ix : ∀ h, idxD (.lst (ks.map D.int)) (.int (4 + (k : Nat))) h = .ok (.int (at0 ks (4 + (k : Nat)))) h := fun h => idx_l (by omega) (by omega)
        have bm : ∀ h, binD .mod true (.int (at0 ks (4 + (k : Nat)))) (.int (many + 2)) h = .ok (.int (at0 ks (4 + (k : Nat)) % (many + 2))) h := fun h => bin_mod (by omega)
        generalize at0 ks (4 + (k : Nat)) = x at ix bm ⊢
        generalize ((k : Nat) : Int) = ki at ix ⊢
        generalize ks.map D.int = kd at ix ⊢
        generalize F.map prtD = pd at e5 ⊢
        simp [ix, e5, bm]
    rw [this, hqs, List.map_map]
    rfl
  have W0 : ∀ h, GG 59 40 [famD F many, .int (at0 ks 2 % prd (szs F)), .int (at0 ks 3 % prd (szs F)), .lst (qs.map D.int)] h = .ok (.tup ((qs.map fun κ => hasF F κ (at0 ks 2 % prd (szs F)) (at0 ks 3 % prd (szs F))).map D.int)) h := fun h => g_word S.Z S.A false hr hc hq (by omega) 54 h
  have W1 : ∀ h, GG 59 40 [famD F many, .int (at0 ks 2 % prd (szs F)), .int (at0 ks 3 % prd (szs F)), .tup (qs.map D.int)] h = .ok (.tup ((qs.map fun κ => hasF F κ (at0 ks 2 % prd (szs F)) (at0 ks 3 % prd (szs F))).map D.int)) h := fun h => g_word S.Z S.A true hr hc hq (by omega) 54 h
  have hz : ∀ z ∈ qs.map fun κ => hasF F κ (at0 ks 2 % prd (szs F)) (at0 ks 3 % prd (szs F)), 0 ≤ z ∧ z < 1000000 := fun z hz => by
    obtain ⟨κ, _, rfl⟩ := List.mem_map.mp hz
    have a := S.A.hasP (κ := κ) (r := at0 ks 2 % prd (szs F)) hc
    have b1 := a.1
    have b2 := a.2
    omega
  obtain ⟨zs, hzs⟩ : ∃ zs : List Int, zs = qs.map fun κ => hasF F κ (at0 ks 2 % prd (szs F)) (at0 ks 3 % prd (szs F)) := ⟨_, rfl⟩
  have LH : (Ex.dt cf59 (.lc true [(("_law_kind" : Str), 11)] (.name 11) (.seq (.var 6)) .nil (.call 29 (.cons (.var 2) (.cons (.var 3) (.cons (.var 11) (.cons (.var 8) (.cons (.var 9) .nil)))))))).1
      [some (.vw (ns.map .int)), some (.lst (ks.map .int)), some (.lst (F.map prtD)), some (.lst (F.map lowD)), some (.int (prd (szs F))), some (famD F many), some (.lst (qs.map D.int)), none, some (.int (at0 ks 2 % prd (szs F))), some (.int (at0 ks 3 % prd (szs F))), none, none, none] [.dead] = .ok (.lst (zs.map D.int)) [.dead] := by
    have := lc_denF (c := cf59) (x := "_law_kind") (i := 11) (it := .seq (.var 6)) (elt := .call 29 (.cons (.var 2) (.cons (.var 3) (.cons (.var 11) (.cons (.var 8) (.cons (.var 9) .nil))))))
      (ρ := [some (.vw (ns.map .int)), some (.lst (ks.map .int)), some (.lst (F.map prtD)), some (.lst (F.map lowD)), some (.int (prd (szs F))), some (famD F many), some (.lst (qs.map D.int)), none, some (.int (at0 ks 2 % prd (szs F))), some (.int (at0 ks 3 % prd (szs F))), none, none, none]) (h := [.dead])
      D.int (fun κ => D.int (hasF F κ (at0 ks 2 % prd (szs F)) (at0 ks 3 % prd (szs F)))) qs (by simp) (by omega) (it_rowU (u := false) rfl) fun κ hκ => by
        have c4 := fun h => g_lhas (n := 56) S.Z S.A S.T (at0 ks 2 % prd (szs F)) (at0 ks 3 % prd (szs F)) (hq κ hκ) h
        generalize hasF F κ (at0 ks 2 % prd (szs F)) (at0 ks 3 % prd (szs F)) = z at c4 ⊢
        generalize F.map prtD = pd at c4 ⊢
        generalize F.map lowD = ld at c4 ⊢
        simp [c4]
    rw [this, hzs, List.map_map]
    rfl
  rw [← hzs] at W0 W1 hz
  have R0 : ∀ h, primD .repr true [.tup (zs.map D.int)] h = .ok (.str (shT zs)) h := fun h => pr_reprT hz (by rw [hzs, List.length_map]; omega)
  have N0 : ∀ h, cmpD .ne (.lst (qs.map D.int)) (.lst (qs.map D.int)) h = .ok (.bl false) h := fun h => by
    have := (emb_lst emb_int).ne (by decide) qs qs h
    rw [show decide (qs = qs) = true from decide_eq_true rfl] at this
    exact this
  have E0 : ∀ h, cmpD .eq (.tup (zs.map D.int)) (.tup (zs.map D.int)) h = .ok (.bl true) h := fun h => by
    have := (emb_tup emb_int).eq (by decide) zs zs h
    rw [show decide (zs = zs) = true from decide_eq_true rfl] at this
    exact this
  have P0 : ∀ h, primD .listOf true [.lst (qs.map D.int)] h = .ok (.lst (qs.map D.int)) h := fun h => by
    show newL true (qs.map D.int) h = _
    exact new_fz (by rw [List.length_map]; omega)
  have T0 : ∀ h, primD .tupleOf true [.lst (qs.map D.int)] h = .ok (.tup (qs.map D.int)) h := fun h => rfl
  have T1 : ∀ h, primD .tupleOf true [.lst (zs.map D.int)] h = .ok (.tup (zs.map D.int)) h := fun h => rfl
  have im : ∀ h, isMeth "Family" "word" (famD F many) h = true := fun h => m_word
  clear hzs hqs hz
  generalize famD F many = fd at *
  generalize F.map prtD = pd at *
  generalize F.map lowD = ld at *
  generalize at0 ks 2 % prd (szs F) = y2 at *
  generalize at0 ks 3 % prd (szs F) = y3 at *
  generalize prd (szs F) = od at *
  generalize at0 ks 2 = x2 at *
  generalize at0 ks 3 = x3 at *
  generalize ks.map D.int = kd at *
  generalize ns.map D.int = nd at *
  generalize qs.map D.int = qd at *
  generalize zs.map D.int = zd at *
  refine ⟨[.dead], ?_⟩
  unfold b32_0
  simp [e1]
  unfold b32_1
  simp [e2]
  unfold b32_2
  simp [e3]
  unfold b32_3
  simp [e4]
  unfold b32_4
  simp [-den_freeze, e6]
  unfold b32_5
  simp [-den_lc, LK]
  unfold b32_6
  simp [i2, bo2]
  unfold b32_7
  simp [i3, bo3]
  unfold b32_8
  simp [-den_lc, LH, T1]
  unfold b32_9
  simp [P0]
  unfold b32_10
  simp [im, W0, R0, N0, cmp_neS]
  unfold b32_11
  simp [im, W1, T0, E0]
theorem hlaw : ∀ ns : List Int, ns.length ≤ 63 → G (L.map (·.1)) (glOf cs) xl FUEL DEEP 32 [.vw (ns.map .int)] [] = .ok (.bl true) [] := fun ns hns => by
  obtain ⟨ks, eN, hks, _⟩ := num_ok (fs := fs) (gl := glOf cs) (xs := xl) (F := FUEL) (n := 57) (f := f0) (g := f1) rfl rfl rfl rfl rfl rfl rfl rfl (by unfold FUEL; omega) hns 30 (by omega) (by omega) []
  have hk : ks.length = 30 := hks
  have eN' : ∀ h, GG 59 1 [.vw (ns.map .int), .int 30] h = .ok (.lst (ks.map .int)) h := fun h => G_heap eN h
  obtain ⟨F, many, Q⟩ := draw (ns := ns) (ks := ks) (by omega)
  exact G_ok (n := 59) (f := f32) rfl rfl (by show (D.pures (ns.map .int) && true) = true; rw [pures_ints]; rfl) (law40 hk Q eN') rfl
end K40
theorem PySem.Challenge.cw_matedsquares_k40_words_holds : PySem.Challenge.rw_matedsquares_k40_words.Holds := by
  exact K40.all K40.hlaw
