import PyProof.Rows.All
import HandS.ForMost
import HandS.ForSpec
import HandS.Wide
import HandS.SortInts
import HandS.Deep
import HandS.IsInst
import HandS.Zip
import HandS.Star
import HandS.HeadHook1
import HandS.Conv
import HandS.Words
import HandS.Defaults
import HandS.ExcOwn
import HandS.Ends
import HandS.HeadEnd
import HandS.Iter
import PyProof.Draws
import HandS.FltList
import HandS.Style
import HandS.TupAny
import HandS.RaiseMore
import HandS.TryOnly
import HandS.Strs
import KE.GoesEnum
import KE.GoesMore
import KE.KItemsList
import KE.KStar
import PyProof.EnumIter
import HandS.ExcIs
import HandS.Head0
import HandS.Head1
import HandS.Head2
import HandS.Head3
import HandS.HeadHook2
import HandS.HeadHook3
import HandS.HeadHook4
import HandS.EndTab
import KE.KStateDown
import HandS.WordsExc
import PySem.Challenge.RW_matedsquares_k84_codes
set_option Elab.async false
set_option linter.all false
set_option maxRecDepth 100000
/-! Ev: a small evaluator over plain data. Part A: data, syntax, denotation, the checker against the row's syntax. -/
namespace Ev
open PySem PySem.Spec PyProof.Rows L2

/-! ### data -/
inductive D where
  | non | bl (b : Bool) | int (i : Int) | str (s : Str) | tup (xs : List D) | lst (xs : List D) | vw (xs : List D) | vt (xs : List D) | ref (n : Nat)
abbrev DKey := Key ⊕ List Key
inductive Cell where
  | dead | lst (xs : List D) | dct (t : Bool) (kvs : List (DKey × D)) | obj (c : Str) (fs : List (Str × D))

inductive R (α : Type) where
  | ok (a : α) (h : List Cell) | exc (c : Str) (p : Option D) (h : List Cell) | stuck
@[reducible] def R.bind {α β : Type} (x : R α) (f : α → List Cell → R β) : R β := match x with
  | .ok a h => f a h
  | .exc c p h => .exc c p h
  | .stuck => .stuck
@[simp] theorem R.bind_ok {α β : Type} (a : α) (h : List Cell) (f : α → List Cell → R β) : (R.ok a h).bind f = f a h := rfl
@[simp] theorem R.bind_exc {α β : Type} (c : Str) (p : Option D) (h : List Cell) (f : α → List Cell → R β) : (R.exc c p h : R α).bind f = .exc c p h := rfl
@[simp] theorem R.bind_stuck {α β : Type} (f : α → List Cell → R β) : (R.stuck : R α).bind f = .stuck := rfl

def LN : Nat := 1000000
theorem LN_le : LN ≤ sizeLine := by rw [sizeLine_eq]; decide

/-- the items of a list (true) or tuple (false) that is read -/
def seqOf (h : List Cell) : D → Option (List D × Bool)
  | .lst xs => some (xs, true)
  | .vw xs => some (xs, true)
  | .tup xs => some (xs, false)
  | .vt xs => some (xs, false)
  | .ref n => match h[n]? with
    | some (.lst xs) => some (xs, true)
    | _ => none
  | _ => none

mutual
/-- as the model's data, no cells in it -/
def D.py : D → Option PyData
  | .non => some .none
  | .bl b => some (.bool b)
  | .int i => some (.int i)
  | .str s => some (.str s)
  | .tup xs => (D.pys xs).map .tuple
  | .vt xs => (D.pys xs).map .tuple
  | .lst xs => (D.pys xs).map .list
  | .vw xs => (D.pys xs).map .list
  | .ref _ => none
def D.pys : List D → Option (List PyData)
  | [] => some []
  | d :: ds => match d.py, D.pys ds with
    | some x, some xs => some (x :: xs)
    | _, _ => none
end
/-- .. of a value that may be a cell's list -/
def D.pyH (h : List Cell) (d : D) : Option PyData := match d with
  | .ref n => match h[n]? with
    | some (.lst xs) => (D.pys xs).map .list
    | _ => none
  | d => d.py

mutual
/-- no cells in it -/
def D.pure : D → Bool
  | .tup xs => D.pures xs
  | .lst xs => D.pures xs
  | .vt xs => D.pures xs
  | .vw xs => D.pures xs
  | .ref _ => false
  | _ => true
def D.pures : List D → Bool
  | [] => true
  | d :: ds => d.pure && D.pures ds
end
/-- a value without objects -/
def D.flat : D → Bool
  | .non => true
  | .bl _ => true
  | .int _ => true
  | .str _ => true
  | _ => false

/-! ### operations -/
/-- a new list: a cell, or plain data -/
def newL (fz : Bool) (xs : List D) (h : List Cell) : R D :=
  if xs.length ≤ LN then (if fz then .ok (.lst xs) h else .ok (.ref h.length) (h ++ [.lst xs])) else .stuck

inductive BOp where
  | add | sub | mul | fdiv | mod | pow
  deriving DecidableEq
inductive COp where
  | eq | ne | lt | le | gt | ge | is | isnot | isin | notin
  deriving DecidableEq

def strLt (a b : Str) : Bool := decide (a.cps.toList < b.cps.toList)

def binD (o : BOp) (fz : Bool) (a b : D) (h : List Cell) : R D :=
  match o, a, b with
  | .add, .int i, .int j => .ok (.int (i + j)) h
  | .sub, .int i, .int j => .ok (.int (i - j)) h
  | .mul, .int i, .int j => if (-(2 ^ 64) < i ∧ i < 2 ^ 64) ∨ (-(2 ^ 64) < j ∧ j < 2 ^ 64) ∨ i.natAbs.log2 + j.natAbs.log2 < 1000000 then .ok (.int (i * j)) h else .stuck
  | .fdiv, .int i, .int j => if 0 < j ∧ (j < 1073741824 ∨ j.natAbs.log2 < 9000) then .ok (.int (i / j)) h else .stuck
  | .mod, .int i, .int j => if 0 < j then .ok (.int (i % j)) h else .stuck
  | .pow, .int i, .int j => if 0 ≤ j ∧ j ≤ 1000 ∧ i.natAbs < 2 ^ 64 then .ok (.int (i ^ j.toNat)) h else .stuck
  | .add, .str i, .str j => if i.length + j.length ≤ LN then .ok (.str (i ++ j)) h else .stuck
  | .add, .tup xs, .tup ys => if xs.length + ys.length ≤ LN ∧ xs ≠ [] then (match ys with | [] => .ok (.tup xs) h | _ => .ok (.tup (xs ++ ys)) h) else .stuck
  | .add, a, b => match a, b, seqOf h a, seqOf h b with
    | .vw _, _, _, _ => .stuck
    | _, .vw _, _, _ => .stuck
    | _, _, some (xs, true), some (ys, true) => newL fz (xs ++ ys) h
    | _, _, _, _ => .stuck
  | .mul, a, .int k => match a, seqOf h a with
    | .vw _, _ => .stuck
    | _, some (xs, true) => if -(LN : Int) ≤ k ∧ k ≤ (LN : Int) then newL fz (List.replicate k.toNat xs).flatten h else .stuck
    | _, _ => .stuck
  | _, _, _ => .stuck

/-- the key of a dict -/
def keyOf1 : D → Option Key
  | .int i => some (.inl i)
  | .str s => some (.inr s)
  | _ => none
def keysOf : List D → Option (List Key)
  | [] => some []
  | d :: ds => match keyOf1 d, keysOf ds with
    | some k, some ks => some (k :: ks)
    | _, _ => none
def keyOf : D → Option DKey
  | .int i => some (.inl (.inl i))
  | .str s => some (.inl (.inr s))
  | .tup xs => (keysOf xs).map .inr
  | _ => none
/-- the dict in a cell (true: its keys are tuples) -/
def dctOf (h : List Cell) (d : D) : Option (Bool × List (DKey × D)) := match d with
  | .ref n => match h[n]? with
    | some (.dct t kvs) => some (t, kvs)
    | _ => none
  | _ => none
def isT : DKey → Bool
  | .inl _ => false
  | .inr _ => true
def dget (kvs : List (DKey × D)) (k : DKey) : Option D := (kvs.find? fun kv => decide (kv.1 = k)).map (·.2)
def dput (kvs : List (DKey × D)) (k : DKey) (v : D) : List (DKey × D) :=
  if kvs.any (fun kv => decide (kv.1 = k)) then kvs.map (fun kv => if kv.1 = k then (kv.1, v) else kv) else kvs ++ [(k, v)]

/-- == of flat values -/
def flatEq : D → D → Bool
  | .non, .non => true
  | .bl a, .bl b => a == b
  | .bl a, .int b => (if a then 1 else 0) == b
  | .int a, .bl b => a == (if b then 1 else 0)
  | .int a, .int b => a == b
  | .str a, .str b => a == b
  | _, _ => false
/-- texts are compared as they are -/
def strEq : D → D → Option Bool
  | .str i, .str j => some (i == j)
  | _, _ => none
def cmpD (o : COp) (a b : D) (h : List Cell) : R D :=
  match o with
  | .eq => match strEq a b with
    | some k => .ok (.bl k) h
    | none => match a.pyH h, b.pyH h with
      | some x, some y => if SeqAt.shaped x && SeqAt.shaped y then .ok (.bl (PyData.eqv x y)) h else .stuck
      | _, _ => .stuck
  | .ne => match strEq a b with
    | some k => .ok (.bl (!k)) h
    | none => match a.pyH h, b.pyH h with
      | some x, some y => if SeqAt.shaped x && SeqAt.shaped y then .ok (.bl (!PyData.eqv x y)) h else .stuck
      | _, _ => .stuck
  | .lt => match a, b with | .int i, .int j => .ok (.bl (decide (i < j))) h | _, _ => .stuck
  | .le => match a, b with | .int i, .int j => .ok (.bl (decide (i ≤ j))) h | _, _ => .stuck
  | .gt => match a, b with | .int i, .int j => .ok (.bl (decide (j < i))) h | _, _ => .stuck
  | .ge => match a, b with | .int i, .int j => .ok (.bl (decide (j ≤ i))) h | _, _ => .stuck
  | .is => match b with | .non => .ok (.bl (match a with | .non => true | _ => false)) h | .bl k => (match a with | .bl j => .ok (.bl (decide (j = k))) h | _ => .stuck) | _ => .stuck
  | .isnot => match b with | .non => .ok (.bl (match a with | .non => false | _ => true)) h | .bl k => (match a with | .bl j => .ok (.bl (!decide (j = k))) h | _ => .stuck) | _ => .stuck
  | .isin => (inD a b h).bind fun d h => match d with | .bl c => .ok (.bl c) h | _ => .stuck
  | .notin => (inD a b h).bind fun d h => match d with | .bl c => .ok (.bl (!c)) h | _ => .stuck
where
  inD (a b : D) (h : List Cell) : R D :=
    match dctOf h b with
    | some (t, kvs) => match keyOf a with
      | some k => if isT k = t then .ok (.bl (dget kvs k).isSome) h else .stuck
      | none => .stuck
    | none => match a, b with
      | .str x, .str y => .ok (.bl (!(Builtin.Str.occurrences y x 0 y.length 1).isEmpty)) h
      | _, _ => match seqOf h b with
        | some (ys, isl) =>
          if a.flat && ys.all D.flat then .ok (.bl (ys.any fun y => flatEq y a)) h
          else match a.py, D.pys ys with
            | some x, some zs => if isl && SeqAt.shaped x && SeqAt.shaped (.list zs) then .ok (.bl (zs.any fun z => PyData.eqv z x)) h else .stuck
            | _, _ => .stuck
        | none => .stuck

end Ev
/-! Ev, part B: the small syntax, its denotation. -/
namespace Ev
open PySem PySem.Spec PyProof.Rows L2

inductive Prim where
  | len | tupleOf | listOf | abs | intOf | sorted | isinst (t : String) | max2 | min2 | all | any | sum | str | repr | max1 | min1
  deriving DecidableEq

/-- methods of lists -/
inductive Mt where
  | append | pop | popAt | index | insert | tindex
  deriving DecidableEq
mutual
inductive Ex where
  | var (i : Nat)
  | glob (x : Str)
  | cint (i : Int) | cbl (b : Bool) | cnon | cstr (s : Str)
  | bin (o : BOp) (fz : Bool) (a b : Ex)
  | neg (a : Ex)
  | cmp (o : COp) (a b : Ex)
  | chain (o o' : COp) (a b c : Ex)
  | and (a b : Ex) | or (a b : Ex) | not (a : Ex)
  | ite (c a b : Ex)
  | tup (es : Exs)
  | lst (fz : Bool) (es : Exs)
  | idx (a i : Ex)
  | slice (fz : Bool) (a : Ex) (lo hi : Exs)
  | call (f : Nat) (es : Exs)
  | prim (p : Prim) (fz : Bool) (es : Exs)
  | lrange (fz : Bool) (a : Ex)
  | lc (fz : Bool) (own : List (Str × Nat)) (tg : Tg) (it : Itx) (cond : Exs) (elt : Ex)
  | freeze (a : Ex)
  | rev (fz : Bool) (a : Ex)
  | dnew (t : Bool)
  | meth (m : Mt) (a : Ex) (es : Exs)
  | tupS (es : Sxs)
  | ctup (es : Exs)
  | lc2 (fz : Bool) (own : List (Str × Nat)) (vs1 : List Nat) (tg : Tg) (it : Itx) (tg1 : Tg) (it1 : Itx) (cond : Exs) (elt : Ex)
  | fzd (a : Ex)
inductive Exs where
  | nil | cons (e : Ex) (es : Exs)
inductive Sxs where
  | nil | cons (e : Ex) (es : Sxs) | star (e : Ex) (es : Sxs)
inductive Itx where
  | seq (e : Ex) | range (es : Exs) | enum (e : Ex) | zip (a b : Ex) | zipS (e : Ex) | enumF (e : Ex) (k : Nat) | zipM (a b : Ex) | enumZ (a b : Ex)
inductive Tg where
  | name (i : Nat) | tup (ts : Tgs) | idx (a i : Ex)
inductive Tgs where
  | nil | cons (t : Tg) (ts : Tgs)
end

def Tgs.n : Tgs → Nat
  | .nil => 0
  | .cons _ ts => ts.n + 1
/-- what an except suite hands back: it hangs on the class alone -/
inductive Hx where
  | cint (i : Int) | cbl (b : Bool) | cnon | cstr (s : Str)
  | isi (x : Str) | isv | and (a b : Hx) | not (a : Hx) | pick (a b i : Hx)
mutual
inductive Sm where
  | set (i : Nat) (e : Ex)
  | asg (tg : Tg) (e : Ex)
  | par (is : List Nat) (es : Exs)
  | aug (i : Nat) (o : BOp) (e : Ex)
  | expr (e : Ex)
  | ret (e : Ex) | retN
  | ite (c : Ex) (a b : Sms)
  | while (c : Ex) (b : Sms)
  | for (tg : Tg) (it : Itx) (b : Sms)
  | pass | brk | cnt
  | raise (c : Str)
  | tryR (b : Sms) (x : Str) (e : Ex)
  | tryA (b : Sms) (x : Str) (i : Nat) (e : Hx)
  | fz (i : Nat)
inductive Sms where
  | nil | cons (s : Sm) (ss : Sms)
end

abbrev Env := List (Option D)
abbrev Hs := List Cell
mutual
/-- data without cells, out of data with lists in cells, at most so deep -/
def fzD : Nat → D → Hs → Option (D × Hs)
  | 0, _, _ => none
  | k + 1, d, h => if d.pure then some (d, h) else match d with
    | .ref n => match h[n]? with
      | some (.lst xs) => match fzL k xs h with
        | some (ys, h1) => match h1[n]? with
          | some (.lst _) => some (.lst ys, h1.set n .dead)
          | _ => none
        | none => none
      | _ => none
    | .tup xs => match fzL k xs h with
      | some (ys, h1) => some (.tup ys, h1)
      | none => none
    | .lst xs => match fzL k xs h with
      | some (ys, h1) => some (.lst ys, h1)
      | none => none
    | _ => none
def fzL : Nat → List D → Hs → Option (List D × Hs)
  | _, [], h => some ([], h)
  | k, x :: xs, h => match fzD k x h with
    | some (y, h1) => match fzL k xs h1 with
      | some (ys, h2) => some (y :: ys, h2)
      | none => none
    | none => none
end
def DEEPF : Nat := 6
def fzR (d : D) (h : Hs) : R D := match fzD DEEPF d h with
  | some (d', h') => .ok d' h'
  | none => .stuck
structure Cfg where
  Γ : Nat → List D → Hs → R D
  gl : Str → Option D
  xs : List Str
  F : Nat

inductive Out where
  | nx (ρ : Env) (h : Hs) | ret (d : D) (h : Hs) | brk (ρ : Env) (h : Hs) | cnt (ρ : Env) (h : Hs) | exc (c : Str) (p : Option D) (ρ : Env) (h : Hs) | stuck

/-- an expression's result, then a statement's rest -/
@[reducible] def R.go {α : Type} (x : R α) (ρ : Env) (f : α → Hs → Out) : Out := match x with
  | .ok a h => f a h
  | .exc c p h => .exc c p ρ h
  | .stuck => .stuck
@[reducible] def Out.andThen (x : Out) (f : Env → Hs → Out) : Out := match x with
  | .nx ρ h => f ρ h
  | o => o
@[simp] theorem R.go_ok {α : Type} (a : α) (h : Hs) (ρ : Env) (f : α → Hs → Out) : (R.ok a h).go ρ f = f a h := rfl
@[simp] theorem R.go_exc {α : Type} (c : Str) (p : Option D) (h : Hs) (ρ : Env) (f : α → Hs → Out) : (R.exc c p h : R α).go ρ f = .exc c p ρ h := rfl
@[simp] theorem R.go_stuck {α : Type} (ρ : Env) (f : α → Hs → Out) : (R.stuck : R α).go ρ f = .stuck := rfl
@[simp] theorem Out.nx_then (ρ : Env) (h : Hs) (f : Env → Hs → Out) : (Out.nx ρ h).andThen f = f ρ h := rfl
@[simp] theorem Out.ret_then (d : D) (h : Hs) (f : Env → Hs → Out) : (Out.ret d h).andThen f = .ret d h := rfl
@[simp] theorem Out.brk_then (ρ : Env) (h : Hs) (f : Env → Hs → Out) : (Out.brk ρ h).andThen f = .brk ρ h := rfl
@[simp] theorem Out.cnt_then (ρ : Env) (h : Hs) (f : Env → Hs → Out) : (Out.cnt ρ h).andThen f = .cnt ρ h := rfl
@[simp] theorem Out.exc_then (c : Str) (p : Option D) (ρ : Env) (h : Hs) (f : Env → Hs → Out) : (Out.exc c p ρ h).andThen f = .exc c p ρ h := rfl
@[simp] theorem Out.stuck_then (f : Env → Hs → Out) : Out.stuck.andThen f = .stuck := rfl

def wipeE (ρ : Env) : List Nat → Env
  | [] => ρ
  | v :: vs => (wipeE ρ vs).set v none

/-! ### loops -/
def whileD (c : Env → Hs → R Bool) (b : Env → Hs → Out) : Nat → Env → Hs → Out
  | 0, _, _ => .stuck
  | n + 1, ρ, h => match c ρ h with
    | .ok true h1 => match b ρ h1 with
      | .nx ρ' h' => whileD c b n ρ' h'
      | .cnt ρ' h' => whileD c b n ρ' h'
      | .brk ρ' h' => .nx ρ' h'
      | o => o
    | .ok false h1 => .nx ρ h1
    | .exc x p h1 => .exc x p ρ h1
    | .stuck => .stuck
def forD (g : D → Env → Hs → Out) (b : Env → Hs → Out) : List D → Env → Hs → Out
  | [], ρ, h => .nx ρ h
  | x :: xs, ρ, h => match g x ρ h with
    | .nx ρ1 h1 => match b ρ1 h1 with
      | .nx ρ' h' => forD g b xs ρ' h'
      | .cnt ρ' h' => forD g b xs ρ' h'
      | .brk ρ' h' => .nx ρ' h'
      | o => o
    | _ => .stuck
def lcD (g : D → Env → Hs → Out) (c : Env → Hs → R Bool) (e : Env → Hs → R D) (ρ : Env) : List D → List D → Hs → R (List D)
  | [], acc, h => .ok acc h
  | x :: xs, acc, h => match g x ρ h with
    | .nx ρ1 h1 => match c ρ1 h1 with
      | .ok true h2 => match e ρ1 h2 with
        | .ok d h3 => if acc.length < LN then lcD g c e ρ xs (acc ++ [d]) h3 else .stuck
        | _ => .stuck
      | .ok false h2 => lcD g c e ρ xs acc h2
      | _ => .stuck
    | _ => .stuck

/-- two clauses -/
def lc2D (g : D → Env → Hs → Out) (i1 : Env → Hs → R (List D)) (g1 : D → Env → Hs → Out) (c1 : Env → Hs → R Bool) (e : Env → Hs → R D) (ρ : Env) (vs1 : List Nat) : List D → List D → Hs → R (List D)
  | [], acc, h => .ok acc h
  | x :: xs, acc, h => match g x ρ h with
    | .nx ρ1 h1 => match i1 ρ1 h1 with
      | .ok ys h2 => match lcD g1 c1 e (wipeE ρ1 vs1) ys acc h2 with
        | .ok acc' h3 => lc2D g i1 g1 c1 e ρ vs1 xs acc' h3
        | _ => .stuck
      | _ => .stuck
    | _ => .stuck
/-- the columns of rows of one length -/
def colsD (rows : List (List D)) : Option (List D) := match rows with
  | [] => none
  | r :: rs => if rs.all (fun x => x.length == r.length) && decide (rows.length ≤ 13) then some ((List.range r.length).map fun j => .tup (rows.map fun x => x.getD j .non)) else none
def tupsOf : List D → Option (List (List D))
  | [] => some []
  | .tup xs :: r => (tupsOf r).map (xs :: ·)
  | .vt xs :: r => (tupsOf r).map (xs :: ·)
  | _ :: _ => none
/-! ### built-ins -/
/-- the best of what is walked -/
def bestL (b : Int → Int → Bool) (m : Int) : List Int → Int
  | [] => m
  | x :: xs => bestL b (if b x m then x else m) xs
def D.ints : List D → Option (List Int)
  | [] => some []
  | .int i :: ds => (D.ints ds).map (i :: ·)
  | _ => none
def D.bools : List D → Option (List Bool)
  | [] => some []
  | .bl i :: ds => (D.bools ds).map (i :: ·)
  | _ => none
def insI (x : Int) : List Int → List Int
  | [] => [x]
  | y :: ys => if x ≤ y then x :: y :: ys else y :: insI x ys
def sortI : List Int → List Int
  | [] => []
  | x :: xs => insI x (sortI xs)
def tyName (h : Hs) (d : D) : Option String := match d with
  | .non => some "NoneType"
  | .bl _ => some "bool"
  | .int _ => some "int"
  | .str _ => some "str"
  | .tup _ => some "tuple"
  | .lst _ => some "list"
  | .ref n => match h[n]? with
    | some (.lst _) => some "list"
    | _ => none
  | _ => none
def isaT (a t : String) : Option Bool :=
  if t = "tuple" ∨ t = "list" ∨ t = "bool" ∨ t = "int" ∨ t = "str" then some (a == t || (a == "bool" && t == "int")) else none
def typeIs (h : Hs) (d : D) (t : String) : Option Bool := (tyName h d).bind fun a => isaT a t

def primD (p : Prim) (fz : Bool) (ds : List D) (h : Hs) : R D :=
  match p, ds with
  | .len, [d] => match d with
    | .str z => if z.length ≤ LN then .ok (.int z.length) h else .stuck
    | d => match seqOf h d with
      | some (xs, _) => .ok (.int xs.length) h
      | none => match dctOf h d with
        | some (false, kvs) => .ok (.int kvs.length) h
        | _ => .stuck
  | .tupleOf, [d] => match seqOf h d with
    | some (xs, true) => .ok (.tup xs) h
    | some (_, false) => .ok d h
    | none => .stuck
  | .listOf, [d] => match seqOf h d with
    | some (xs, _) => newL fz xs h
    | none => .stuck
  | .abs, [.int i] => .ok (.int (if i < 0 then -i else i)) h
  | .intOf, [.int i] => .ok (.int i) h
  | .intOf, [.bl b] => .ok (.int (if b then 1 else 0)) h
  | .max2, [.int i, .int j] => .ok (.int (if j > i then j else i)) h
  | .min2, [.int i, .int j] => .ok (.int (if j < i then j else i)) h
  | .sorted, [d] => match seqOf h d with
    | some (xs, _) => match D.ints xs with
      | some ns => newL fz ((sortI ns).map .int) h
      | none => .stuck
    | none => .stuck
  | .all, [d] => match seqOf h d with
    | some (xs, true) => match D.bools xs with
      | some bs => .ok (.bl (bs.all id)) h
      | none => .stuck
    | _ => .stuck
  | .any, [d] => match seqOf h d with
    | some (xs, true) => match D.bools xs with
      | some bs => .ok (.bl (bs.any id)) h
      | none => .stuck
    | _ => .stuck
  | .sum, [d] => match seqOf h d with
    | some (xs, true) => match D.ints xs with
      | some ns => .ok (.int ns.sum) h
      | none => .stuck
    | _ => .stuck
  | .isinst t, [d] => match typeIs h d t with
    | some b => .ok (.bl b) h
    | none => .stuck
  | .str, [.int i] => if i.natAbs.log2 < 1920 then .ok (.str (toString i)) h else .stuck
  | .repr, [d] => match d.pyH h with
    | some x => if x.hasDict = false ∧ x.showable = true ∧ x.depth ≤ 64 ∧ x.shown.length ≤ LN then .ok (.str x.shown) h else .stuck
    | none => .stuck
  | .max1, [d] => match seqOf h d with
    | some (xs, true) => match D.ints xs with
      | some (n :: ns) => .ok (.int (bestL (fun x y => decide (x > y)) n ns)) h
      | _ => .stuck
    | _ => .stuck
  | .min1, [d] => match seqOf h d with
    | some (xs, true) => match D.ints xs with
      | some (n :: ns) => .ok (.int (bestL (fun x y => decide (x < y)) n ns)) h
      | _ => .stuck
    | _ => .stuck
  | _, _ => .stuck

def idxOf (y : D) : List D → Nat → Option Nat
  | [], _ => none
  | x :: xs, n => if flatEq x y then some n else idxOf y xs (n + 1)
/-- is it a list's method, or a tuple's -/
def Mt.recv (m : Mt) (h : Hs) (x : D) : Bool := match m with
  | .tindex => (match x with | .vt _ => true | _ => false)
  | _ => (match seqOf h x with | some (_, true) => true | _ => false)
def Mt.onL : Mt → Bool
  | .tindex => false
  | _ => true
def methD (m : Mt) (x : D) (ds : List D) (h : Hs) : R D := match m, ds with
  | .append, [y] => match x with
    | .ref n => match h[n]? with
      | some (.lst xs) => if xs.length < LN then .ok .non (h.set n (.lst (xs ++ [y]))) else .stuck
      | _ => .stuck
    | _ => .stuck
  | .pop, [] => match x with
    | .ref n => match h[n]? with
      | some (.lst xs) => match xs[xs.length - 1]? with
        | some y => .ok y (h.set n (.lst xs.dropLast))
        | none => .stuck
      | _ => .stuck
    | _ => .stuck
  | .popAt, [.int i] => match x with
    | .ref n => match h[n]? with
      | some (.lst xs) => if 0 ≤ i ∧ i < xs.length ∧ xs.length ≤ LN then (match xs[i.toNat]? with
        | some y => .ok y (h.set n (.lst (xs.eraseIdx i.toNat)))
        | none => .stuck) else .stuck
      | _ => .stuck
    | _ => .stuck
  | .index, [y] => match seqOf h x with
    | some (xs, true) => if y.flat && xs.all D.flat then (match idxOf y xs 0 with
      | some j => .ok (.int (j : Nat)) h
      | none => .stuck) else .stuck
    | _ => .stuck
  | .insert, [.int i, y] => match x with
    | .ref n => match h[n]? with
      | some (.lst xs) => if 0 ≤ i ∧ i ≤ xs.length ∧ xs.length < LN then .ok .non (h.set n (.lst (xs.take i.toNat ++ y :: xs.drop i.toNat))) else .stuck
      | _ => .stuck
    | _ => .stuck
  | .tindex, [y] => match x with
    | .vt xs => if y.flat && xs.all D.flat then (match idxOf y xs 0 with
      | some j => .ok (.int (j : Nat)) h
      | none => .stuck) else .stuck
    | _ => .stuck
  | _, _ => .stuck
def truD (h : Hs) (d : D) : Option Bool := match d with
  | .non => some false
  | .bl b => some b
  | .int i => some (i != 0)
  | .str y => if y.length ≤ LN then some ((y.length : Int) != 0) else none
  | d => match seqOf h d with
    | some (xs, _) => some (!xs.isEmpty)
    | none => match dctOf h d with
      | some (false, kvs) => some (!kvs.isEmpty)
      | _ => none

def idxD (a i : D) (h : Hs) : R D :=
  match dctOf h a with
  | some (t, kvs) => match keyOf i with
    | some k => if isT k = t then (match dget kvs k with | some v => .ok v h | none => .stuck) else .stuck
    | none => .stuck
  | none => match a, i with
    | .str z, .int i => if z.length ≤ LN then (match atI z.cps.toList i with | some c => .ok (.str ⟨#[c]⟩) h | none => .stuck) else .stuck
    | a, .int i => match seqOf h a with
      | some (xs, _) => match atI xs i with
        | some v => .ok v h
        | none => .stuck
      | none => .stuck
    | _, _ => .stuck
def cutD {α : Type} (xs : List α) (lo hi : Option Int) : List α := (xs.drop (HT.sIx xs.length 0 lo)).take (HT.sIx xs.length xs.length hi - HT.sIx xs.length 0 lo)
def sliceD (fz : Bool) (a : D) (lo hi : Option Int) (h : Hs) : R D :=
  match a with
  | .str z => if z.length ≤ LN then .ok (.str (cutS z lo hi)) h else .stuck
  | a => match seqOf h a with
    | some (xs, true) => newL fz (cutD xs lo hi) h
    | some (xs, false) => if HT.sIx xs.length 0 lo = 0 ∧ HT.sIx xs.length xs.length hi = xs.length then .ok a h else .ok (.tup (cutD xs lo hi)) h
    | none => .stuck
def revD (fz : Bool) (a : D) (h : Hs) : R D := match seqOf h a with
  | some (xs, true) => newL fz xs.reverse h
  | _ => .stuck
def freezeD (d : D) (h : Hs) : R D := match d with
  | .ref n => match h[n]? with
    | some (.lst xs) => if D.pures xs then .ok (.lst xs) (h.set n .dead) else .stuck
    | _ => .stuck
  | d => if d.pure then .ok d h else .stuck
def setLst (n : Nat) (xs : List D) (i v : D) (h : Hs) : Option Hs := match i with
  | .int k => (ixN xs.length k).map fun j => h.set n (.lst (xs.set j v))
  | _ => none
def setDct (n : Nat) (t : Bool) (kvs : List (DKey × D)) (i v : D) (h : Hs) : Option Hs := match keyOf i with
  | some k => if isT k = t ∧ kvs.length < LN then some (h.set n (.dct t (dput kvs k v))) else none
  | none => none
def setD (a i v : D) (h : Hs) : Option Hs := match a with
  | .ref n => match h[n]? with
    | some (.lst xs) => setLst n xs i v h
    | some (.dct t kvs) => setDct n t kvs i v h
    | _ => none
  | _ => none

/-! ### denotation -/
def truF (f : Env → Hs → R D) : Env → Hs → R Bool := fun ρ h => (f ρ h).bind fun x h1 => match truD h1 x with
  | some k => .ok k h1
  | none => .stuck
def noT : Env → Hs → R Bool := fun _ _ => .stuck
abbrev withT (f : Env → Hs → R D) : (Env → Hs → R D) × (Env → Hs → R Bool) := (f, truF f)
mutual
/-- a value, and a test's answer -/
def Ex.dt (c : Cfg) : Ex → (Env → Hs → R D) × (Env → Hs → R Bool)
  | .var i => withT fun ρ h => match ρ[i]? with
    | some (some d) => .ok d h
    | _ => .stuck
  | .glob x => withT fun _ h => match c.gl x with
    | some d => .ok d h
    | none => .stuck
  | .cint i => withT fun _ h => .ok (.int i) h
  | .cbl b => withT fun _ h => .ok (.bl b) h
  | .cnon => withT fun _ h => .ok .non h
  | .cstr s => withT fun _ h => .ok (.str s) h
  | .bin o fz a b => withT fun ρ h => ((a.dt c).1 ρ h).bind fun x h1 => ((b.dt c).1 ρ h1).bind fun y h2 => binD o fz x y h2
  | .neg a => withT fun ρ h => ((a.dt c).1 ρ h).bind fun x h1 => match x with | .int i => .ok (.int (-i)) h1 | _ => .stuck
  | .cmp o a b => withT fun ρ h => ((a.dt c).1 ρ h).bind fun x h1 => ((b.dt c).1 ρ h1).bind fun y h2 => cmpD o x y h2
  | .chain o o' a b e => withT fun ρ h => ((a.dt c).1 ρ h).bind fun x h1 => ((b.dt c).1 ρ h1).bind fun y h2 => (cmpD o x y h2).bind fun z h3 => match z with
    | .bl true => ((e.dt c).1 ρ h3).bind fun w h4 => cmpD o' y w h4
    | .bl false => .ok (.bl false) h3
    | _ => .stuck
  | .and a b => (fun ρ h => ((a.dt c).1 ρ h).bind fun x h1 => match x with
      | .bl true => (b.dt c).1 ρ h1
      | .bl false => .ok (.bl false) h1
      | _ => .stuck,
    fun ρ h => ((a.dt c).2 ρ h).bind fun k h1 => if k = true then (b.dt c).2 ρ h1 else .ok false h1)
  | .or a b => (fun ρ h => ((a.dt c).1 ρ h).bind fun x h1 => match x with
      | .bl true => .ok (.bl true) h1
      | .bl false => (b.dt c).1 ρ h1
      | _ => .stuck,
    fun ρ h => ((a.dt c).2 ρ h).bind fun k h1 => if k = true then .ok true h1 else (b.dt c).2 ρ h1)
  | .not a => (fun ρ h => ((a.dt c).1 ρ h).bind fun x h1 => match x with
      | .bl b => .ok (.bl (!b)) h1
      | _ => .stuck,
    fun ρ h => ((a.dt c).2 ρ h).bind fun k h1 => .ok (!k) h1)
  | .ite t a b => (fun ρ h => ((t.dt c).2 ρ h).bind fun k h1 => if k = true then (a.dt c).1 ρ h1 else (b.dt c).1 ρ h1, noT)
  | .tup es => withT fun ρ h => (es.den c ρ h).bind fun ds h1 => if ds.length ≤ LN then .ok (.tup ds) h1 else .stuck
  | .lst fz es => withT fun ρ h => (es.den c ρ h).bind fun ds h1 => newL fz ds h1
  | .idx a i => withT fun ρ h => ((a.dt c).1 ρ h).bind fun x h1 => ((i.dt c).1 ρ h1).bind fun y h2 => idxD x y h2
  | .slice fz a lo hi => withT fun ρ h => ((a.dt c).1 ρ h).bind fun x h1 => (lo.part c ρ h1).bind fun l h2 => (hi.part c ρ h2).bind fun u h3 => sliceD fz x l u h3
  | .call f es => withT fun ρ h => (es.den c ρ h).bind fun ds h1 => c.Γ f ds h1
  | .prim p fz es => withT fun ρ h => (es.den c ρ h).bind fun ds h1 => primD p fz ds h1
  | .lrange fz a => withT fun ρ h => ((a.dt c).1 ρ h).bind fun x h1 => match x with
    | .int n => if -(LN : Int) ≤ n ∧ n ≤ (LN : Int) then newL fz ((List.range n.toNat).map fun k => .int (k : Nat)) h1 else .stuck
    | _ => .stuck
  | .lc fz own tg it cond elt => withT fun ρ h => (it.den c ρ h).bind fun xs h1 =>
    (lcD (tg.den c) (cond.tsts c) (elt.dt c).1 (wipeE ρ (own.map (·.2))) xs [] h1).bind fun ds h2 => newL fz ds h2
  | .rev fz a => withT fun ρ h => ((a.dt c).1 ρ h).bind fun x h1 => revD fz x h1
  | .freeze a => (fun ρ h => ((a.dt c).1 ρ h).bind fun x h1 => freezeD x h1, noT)
  | .dnew t => withT fun _ h => .ok (.ref h.length) (h ++ [.dct t []])
  | .meth m a es => withT fun ρ h => ((a.dt c).1 ρ h).bind fun x h1 => if m.recv h1 x = true then (es.den c ρ h1).bind fun ds h2 => methD m x ds h2 else .stuck
  | .tupS es => withT fun ρ h => (es.den c ρ h).bind fun ds h1 => if ds.length ≤ LN then .ok (.tup ds) h1 else .stuck
  | .lc2 fz own vs1 tg it tg1 it1 cond elt => withT fun ρ h => (it.den c ρ h).bind fun xs h1 =>
    (lc2D (tg.den c) (it1.den c) (tg1.den c) (cond.tsts c) (elt.dt c).1 (wipeE ρ (own.map (·.2))) vs1 xs [] h1).bind fun ds h2 => newL fz ds h2
  | .ctup es => withT fun ρ h => (es.den c ρ h).bind fun ds h1 => if ds.length ≤ LN then .ok (.vt ds) h1 else .stuck
  | .fzd a => (fun ρ h => ((a.dt c).1 ρ h).bind fun x h1 => fzR x h1, noT)
def Exs.den (c : Cfg) : Exs → Env → Hs → R (List D)
  | .nil => fun _ h => .ok [] h
  | .cons e es => fun ρ h => ((e.dt c).1 ρ h).bind fun x h1 => (es.den c ρ h1).bind fun xs h2 => .ok (x :: xs) h2
/-- some of them starred -/
def Sxs.den (c : Cfg) : Sxs → Env → Hs → R (List D)
  | .nil => fun _ h => .ok [] h
  | .cons e es => fun ρ h => ((e.dt c).1 ρ h).bind fun x h1 => (es.den c ρ h1).bind fun xs h2 => .ok (x :: xs) h2
  | .star e es => fun ρ h => ((e.dt c).1 ρ h).bind fun x h1 => match seqOf h1 x with
    | some (ys, _) => (es.den c ρ h1).bind fun xs h2 => .ok (ys ++ xs) h2
    | none => .stuck
/-- an optional part of a slice -/
def Exs.part (c : Cfg) : Exs → Env → Hs → R (Option Int)
  | .nil => fun _ h => .ok none h
  | .cons e _ => fun ρ h => ((e.dt c).1 ρ h).bind fun x h1 => match x with
    | .int i => .ok (some i) h1
    | _ => .stuck
/-- a clause's tests: none or one -/
def Exs.tsts (c : Cfg) : Exs → Env → Hs → R Bool
  | .nil => fun _ h => .ok true h
  | .cons e _ => (e.dt c).2
def Itx.den (c : Cfg) : Itx → Env → Hs → R (List D)
  | .seq e => fun ρ h => ((e.dt c).1 ρ h).bind fun x h1 => match x with
    | .ref _ => .stuck
    | x => match seqOf h1 x with
      | some (xs, _) => .ok xs h1
      | none => .stuck
  | .range es => fun ρ h => (es.den c ρ h).bind fun ds h1 => match ds with
    | [.int n] => if -(LN : Int) ≤ n ∧ n ≤ (LN : Int) then .ok ((List.range n.toNat).map fun k => .int (k : Nat)) h1 else .stuck
    | [.int a, .int b] => if -(LN : Int) ≤ a ∧ a ≤ (LN : Int) ∧ -(LN : Int) ≤ b ∧ b ≤ (LN : Int) then .ok ((List.range (b - a).toNat).map fun k => .int (a + (k : Nat))) h1 else .stuck
    | [.int a, .int b, .int s] => if s = -1 ∧ -(LN : Int) ≤ a ∧ a ≤ (LN : Int) ∧ -(LN : Int) ≤ b ∧ b ≤ (LN : Int) then .ok ((List.range (a - b).toNat).map fun k => .int (a - (k : Nat))) h1 else .stuck
    | _ => .stuck
  | .enum e => fun ρ h => ((e.dt c).1 ρ h).bind fun x h1 => match x with
    | .ref _ => .stuck
    | x => match seqOf h1 x with
      | some (xs, _) => .ok ((List.range xs.length).zipWith (fun k x => .tup [.int (k : Nat), x]) xs) h1
      | none => .stuck
  | .zip a b => fun ρ h => ((a.dt c).1 ρ h).bind fun x h1 => ((b.dt c).1 ρ h1).bind fun y h2 => match x, y with
    | .ref _, _ => .stuck
    | _, .ref _ => .stuck
    | x, y => match seqOf h2 x, seqOf h2 y with
      | some (xs, k), some (ys, k') => if k = k' then .ok (xs.zipWith (fun x y => .tup [x, y]) ys) h2 else .stuck
      | _, _ => .stuck
  | .zipM a b => fun ρ h => ((a.dt c).1 ρ h).bind fun x h1 => ((b.dt c).1 ρ h1).bind fun y h2 => match x, y with
    | .ref _, _ => .stuck
    | _, .ref _ => .stuck
    | x, y => match seqOf h2 x, seqOf h2 y with
      | some (xs, _), some (ys, _) => if xs.length = ys.length then .ok ((List.range xs.length).map fun j => .tup [xs.getD j .non, ys.getD j .non]) h2 else .stuck
      | _, _ => .stuck
  | .enumZ a b => fun ρ h => ((a.dt c).1 ρ h).bind fun x h1 => ((b.dt c).1 ρ h1).bind fun y h2 => match x, y with
    | .ref _, _ => .stuck
    | _, .ref _ => .stuck
    | x, y => match seqOf h2 x, seqOf h2 y with
      | some (xs, _), some (ys, _) => if xs.length = ys.length then .ok ((List.range xs.length).map fun j => .tup [.int (j : Nat), .tup [xs.getD j .non, ys.getD j .non]]) h2 else .stuck
      | _, _ => .stuck
  | .zipS e => fun ρ h => ((e.dt c).1 ρ h).bind fun x h1 => match x with
    | .ref _ => .stuck
    | x => match seqOf h1 x with
      | some (xs, _) => (match (tupsOf xs).bind colsD with
        | some ys => .ok ys h1
        | none => .stuck)
      | none => .stuck
  | .enumF e k => fun ρ h => ((e.dt c).1 ρ h).bind fun x h1 => match x with
    | .ref _ => .stuck
    | x => match seqOf h1 x with
      | some (xs, true) => .ok ((List.range xs.length).zipWith (fun j x => .tup [.int ((k + j : Nat) : Int), x]) xs) h1
      | _ => .stuck
def Tg.den (c : Cfg) : Tg → D → Env → Hs → Out
  | .name i => fun d ρ h => if i < ρ.length then .nx (ρ.set i (some d)) h else .stuck
  | .tup ts => fun d ρ h => match d with
    | .tup xs => if xs.length = ts.n then ts.den c xs ρ h else .stuck
    | .vt xs => if xs.length = ts.n then ts.den c xs ρ h else .stuck
    | .lst xs => if xs.length = ts.n then ts.den c xs ρ h else .stuck
    | _ => .stuck
  | .idx a i => fun d ρ h => ((a.dt c).1 ρ h).go ρ fun x h1 => ((i.dt c).1 ρ h1).go ρ fun y h2 => match setD x y d h2 with
    | some h3 => .nx ρ h3
    | none => .stuck
def Tgs.den (c : Cfg) : Tgs → List D → Env → Hs → Out
  | .nil => fun ds ρ h => match ds with
    | [] => .nx ρ h
    | _ => .stuck
  | .cons t ts => fun ds ρ h => match ds with
    | d :: r => (t.den c d ρ h).andThen fun ρ1 h1 => ts.den c r ρ1 h1
    | [] => .stuck
end
abbrev Ex.den (c : Cfg) (e : Ex) : Env → Hs → R D := (e.dt c).1
abbrev Ex.tst (c : Cfg) (e : Ex) : Env → Hs → R Bool := (e.dt c).2

def augD (o : BOp) (x y : D) : Option D := match o, x, y with
  | .add, .int i, .int j => some (.int (i + j))
  | .sub, .int i, .int j => some (.int (i - j))
  | .mul, .int i, .int j => if (-(2 ^ 64) < i ∧ i < 2 ^ 64) ∨ (-(2 ^ 64) < j ∧ j < 2 ^ 64) then some (.int (i * j)) else none
  | .fdiv, .int i, .int j => if 0 < j ∧ j < 1073741824 then some (.int (i / j)) else none
  | .mod, .int i, .int j => if 0 < j then some (.int (i % j)) else none
  | .add, .str i, .str j => if i.length + j.length ≤ LN then some (.str (i ++ j)) else none
  | _, _, _ => none
def setS (ρ : Env) (i : Nat) (d : D) (h : Hs) : Out := if i < ρ.length then .nx (ρ.set i (some d)) h else .stuck

/-- the classes of the program's own exceptions: one is above all others -/
def supOf (k x : Str) : Bool := k == x || x == ("MatedsquaresError" : Str)
def Hx.val (k : Str) : Hx → Option D
  | .cint i => some (.int i)
  | .cbl b => some (.bl b)
  | .cnon => some .non
  | .cstr s => some (.str s)
  | .isi x => some (.bl (supOf k x))
  | .isv => some (.bl true)
  | .and a b => match a.val k with
    | some (.bl true) => b.val k
    | some (.bl false) => some (.bl false)
    | _ => none
  | .not a => match a.val k with
    | some (.bl b) => some (.bl (!b))
    | _ => none
  | .pick a b i => match a.val k, b.val k, i.val k with
    | some x, some y, some (.bl j) => some (if j then y else x)
    | _, _, _ => none
/-- the classes that it asks about -/
def Hx.xs : Hx → List Str
  | .isi x => [x]
  | .and a b => a.xs ++ b.xs
  | .not a => a.xs
  | .pick a b i => a.xs ++ b.xs ++ i.xs
  | _ => []
mutual
def Sm.den (c : Cfg) : Sm → Env → Hs → Out
  | .set i e, ρ, h => (e.den c ρ h).go ρ fun d h1 => setS ρ i d h1
  | .asg tg e, ρ, h => (e.den c ρ h).go ρ fun d h1 => tg.den c d ρ h1
  | .par is es, ρ, h => (es.den c ρ h).go ρ fun ds h1 => match is, ds with
    | [i, j], [x, y] => if i < ρ.length ∧ j < ρ.length then .nx ((ρ.set i (some x)).set j (some y)) h1 else .stuck
    | [i, j, k], [x, y, z] => if i < ρ.length ∧ j < ρ.length ∧ k < ρ.length then .nx (((ρ.set i (some x)).set j (some y)).set k (some z)) h1 else .stuck
    | _, _ => .stuck
  | .aug i o e, ρ, h => match ρ[i]? with
    | some (some x) => (e.den c ρ h).go ρ fun y h1 => match augD o x y with
      | some z => setS ρ i z h1
      | none => .stuck
    | _ => .stuck
  | .expr e, ρ, h => (e.den c ρ h).go ρ fun _ h1 => .nx ρ h1
  | .ret e, ρ, h => (e.den c ρ h).go ρ fun d h1 => .ret d h1
  | .retN, _, h => .ret .non h
  | .ite t a b, ρ, h => (t.tst c ρ h).go ρ fun k h1 => if k = true then a.den c ρ h1 else b.den c ρ h1
  | .while t b, ρ, h => whileD (t.tst c) (b.den c) c.F ρ h
  | .for tg it b, ρ, h => (it.den c ρ h).go ρ fun xs h1 => forD (tg.den c) (b.den c) xs ρ h1
  | .pass, ρ, h => .nx ρ h
  | .brk, ρ, h => .brk ρ h
  | .cnt, ρ, h => .cnt ρ h
  | .raise x, ρ, h => if c.xs.contains x then .exc x none ρ h else .stuck
  | .tryR b x e, ρ, h => match b.den c ρ h with
    | .exc k p ρ' h' => if c.xs.contains k && c.xs.contains x then (if supOf k x then (e.den c ρ' h').go ρ' fun d h1 => .ret d h1 else .exc k p ρ' h') else .stuck
    | o => o
  | .tryA b x i e, ρ, h => match b.den c ρ h with
    | .exc k p ρ' h' => if c.xs.contains k && c.xs.contains x && e.xs.all c.xs.contains then (if supOf k x then (match p, e.val k with
      | none, some d => if i < ρ'.length then .ret d h' else .stuck
      | _, _ => .stuck) else .exc k p ρ' h') else .stuck
    | o => o
  | .fz i, ρ, h => match ρ[i]? with
    | some (some d) => (match fzD DEEPF d h with
      | some (d', h') => .nx (ρ.set i (some d')) h'
      | none => .stuck)
    | _ => .nx ρ h
def Sms.den (c : Cfg) : Sms → Env → Hs → Out
  | .nil, ρ, h => .nx ρ h
  | .cons s ss, ρ, h => (s.den c ρ h).andThen fun ρ1 h1 => ss.den c ρ1 h1
end

/-! ### functions, programs -/
structure Fn where
  nm : Str
  ps : List Str
  N : List Str
  body : Sms
  sh : Bool := false
def pureO : Option D → Bool
  | none => true
  | some d => d.pure
/-- a def's body, run on plain data with cells of its own -/
def runFn (c : Cfg) (f : Fn) (ds : List D) : R D :=
  if ds.length = f.ps.length ∧ D.pures ds then
    match f.body.den c (ds.map some ++ List.replicate (f.N.length - ds.length) none) [] with
    | .nx _ _ => .ok .non []
    | .ret d _ => if d.pure then .ok d [] else .stuck
    | .exc x p _ _ => if pureO p then .exc x p [] else .stuck
    | _ => .stuck
  else .stuck
/-- .. on what it is handed, with its caller's cells -/
def runSh (c : Cfg) (f : Fn) (ds : List D) (h : Hs) : R D :=
  if ds.length = f.ps.length then
    match f.body.den c (ds.map some ++ List.replicate (f.N.length - ds.length) none) h with
    | .nx _ h' => .ok .non h'
    | .ret d h' => .ok d h'
    | .exc x p _ h' => .exc x p h'
    | _ => .stuck
  else .stuck
def G (fs : List Fn) (gl : Str → Option D) (xs : List Str) (F : Nat) : Nat → Nat → List D → Hs → R D
  | 0, _, _, _ => .stuck
  | n + 1, x, ds, h => match fs[x]? with
    | none => .stuck
    | some f => if f.sh then runSh ⟨G fs gl xs F n, gl, xs, F⟩ f ds h else match runFn ⟨G fs gl xs F n, gl, xs, F⟩ f ds with
      | .ok d _ => .ok d h
      | .exc x p _ => .exc x p h
      | .stuck => .stuck
end Ev
set_option maxHeartbeats 2000000
/-! Ev, part Gd: defs whose callers stand in no display: repr of tuples and lists. -/
namespace Ev
open PySem PySem.Spec PyProof.Rows L2
/-- the promise of a def to callers outside of all displays -/
structure FnG (prog : Program) (wd : World) (K : PySem.W.Frag) (mg : Str → Option Value) (ground : Heap) (C : CXT) (n : Nat) (at' : Addr) (fun' : FuncData) (names : List Str) (want : Sp) : Prop where
  size : ∀ {xs H Q E}, want xs H Q E → xs.length = names.length
  goes : ∀ {A : Around} {up : List PySem.Env} {s : Shared} {H : Hp} {given : Args} {us : List Value} {xs : List V} {Q : VK} {E : XK}, Room n A → A.guards = some [] →
    Env0 prog wd K mg ground A up s H → BindsTo s fun' given (names.zip us) → Vals xs us → want xs H Q E → codeAny (model prog wd) A (.call (.ref at') given) (CR C up prog wd H s Q E) s
theorem FnG.less {prog : Program} {wd : World} {K : PySem.W.Frag} {mg : Str → Option Value} {ground : Heap} {C : CXT} {m n : Nat} {at' : Addr} {fun' : FuncData} {names : List Str} {want : Sp}
    (D : FnG prog wd K mg ground C m at' fun' names want) (h : m ≤ n) : FnG prog wd K mg ground C n at' fun' names want := ⟨D.size, fun r => D.goes (r.mono h)⟩
theorem deep_guards {A : Around} {e : PySem.Env} : (A.deeper e).guards = A.guards := rfl
/-- such a def by its body -/
theorem fnG_of {prog : Program} {wd : World} {K : PySem.W.Frag} {mg : Str → Option Value} {ground : Heap} {C : CXT} {n : Nat} {want : Sp} {x qual : Str} {pars : Arguments} {bd : List Stmt} {sc : Scope} {at' : Addr} {fun' : FuncData} {N names : List Str}
    (D : FunD K x qual pars bd sc [] [] at' fun') (S : FnScope N names sc) (size : ∀ {xs H Q E}, want xs H Q E → xs.length = names.length)
    (body : ∀ (cd : Value) (A : Around) (up : List PySem.Env) (s : Shared) (H : Hp) (xs : List V) (Q : VK) (E : XK), Room n (A.deeper (envOfC qual sc s.heap.objs.size at' cd)) → A.guards = some [] → want xs H Q E →
      ∃ t, PSs (cxOf C prog wd K mg ground N qual sc at' cd A up s H E) bd t ∧ t { nx := fun _ H' => Q .non H', rt := Q } (L2.start N xs) H) : FnG prog wd K mg ground C (n + 1) at' fun' names want := by
  refine ⟨size, ?_⟩
  intro A up s H given us xs Q E room gd e0 bnd rel hw
  obtain ⟨_, _, _, _, _, _, _, cd, _, _, rfl, found, code, _⟩ := D.ex
  have keeps : ∀ b o, ground.get? b = some o → s.heap.get? b = some o := fun b o e => (e0.bs b o e).1
  have KX : K.In s.heap := e0.mod.kin.keeps keeps
  have places : ∀ y ∈ names.zip us, sc.names.lookup y.1 = some .local ∨ (sc.names.lookup y.1 = some .cell ∧ ((cellsFrom (s.heap.objs.size + 1) sc.names []).lookup y.1).isSome = true) := by
    intro y hy
    obtain ⟨nm, v⟩ := y
    have hm := (List.of_mem_zip hy).1
    rcases S.par nm hm with l | l
    · exact Or.inl l
    · exact Or.inr ⟨l, PySem.W.cellsFrom_some _ _ _ (Or.inl l)⟩
  refine codeAny_call_function room.depth (KX _ _ found) rfl S.co S.gen rfl (PySem.W.codeRec_of KX code) (bnd _ _ _ _ ?_)
  refine wpAny_newFunctionEnv_cells S.kind places ?_
  intro env henv s1 made
  subst henv
  refine ⟨(e0.mod.nolimit.keeps keeps).keeps made.toInCall.keep, codeAny_func ?_⟩
  obtain ⟨t, walk, res⟩ := body cd A up s H xs Q E (room.deeper _) gd hw
  have I : Inv (cxOf C prog wd K mg ground N qual sc at' cd A up s H E) [] (L2.start N xs) H s1 := inv_start S room.hd e0 (size hw) rel made
  refine wpAny_mono (walk.run [] s1 (L2.start N xs) H _ I res) ?_ (fun _ _ z => z)
  intro fl s' z
  cases fl with
  | next =>
    obtain ⟨σ', H', J, q⟩ := z
    exact ⟨V.non, H', J.os, J.bare, J.base, J.hok, rfl, q⟩
  | ret u =>
    obtain ⟨v, σ', H', J, rv, q⟩ := z
    exact ⟨v, H', J.os, J.bare, J.base, J.hok, rv, q⟩
  | brk => exact (z.choose_spec.choose_spec.2 : False).elim
  | cont => exact (z.choose_spec.choose_spec.2 : False).elim
section
variable {X : Cx} {C : CXT} {n : Nat} {at' : Addr} {fun' : FuncData} {names : List Str} {want : Sp} {E : L2.St → XK}
/-- its call -/
theorem pe_callG {x : Str} {p pos : Pos} {e : Expr} {es : List Expr} {t : TA} (D : FnG X.prog X.w X.K X.mg X.base C n at' fun' names want) (room : Room n X.A) (gd : X.A.guards = some []) (glob : Gl X x) (there : X.mg x = some (.ref at')) (kept : PySem.W.keepIn X.K (.ref at') = true)
    (bnd : Binds X.K fun' names []) (out : ∀ σ, PassesAt C X σ (E σ)) (walk : PA X (e :: es) t) (dbg : (x == ("__debug__" : Str)) = false) (st : starEach (e :: es) X.env = (false, eval e X.env) :: starEach es X.env)
    (bk : (backTo pos (starEach es X.env)).any (·.1) = false) : PE X (.Call (.Name x p) (e :: es) [] pos) (tCallS want E t) := by
  constructor
  intro pins s σ H Q I h
  refine wpAny_Call_Name_kw (ld_glob I glob there ?_ dbg)
  refine PySem.W.callWith_K (h₀ := X.base) I.ok.mod.kin kept ?_ st bk
  refine thn (walk.run pos pins s σ H _ I h) ?_
  intro us s1 z
  obtain ⟨xs, H1, I1, rel, hw⟩ := z
  refine ⟨I1.kIn, ?_⟩
  have len : us.length = names.length := rel.length ▸ D.size hw
  have b := bnd s1 us I1.kIn (by rw [List.append_nil]; exact len)
  rw [List.append_nil] at b
  refine wpAny_call (codeAny_mono (D.goes (given := ⟨us, []⟩) room gd I1.env0 b rel hw) ?_)
  intro r s' z
  cases r with
  | error ex => exact out σ pins H1 s1 ex s' I1 z
  | ok fl =>
    cases fl with
    | ret u => exact I1.after z
    | next => exact (z : False).elim
    | brk => exact (z : False).elim
    | cont => exact (z : False).elim
end
/-- repr of plain data -/
def rRepr (K : PySem.W.Frag) : List V → Hp → VK → Prop := fun xs H Q => ∃ v d, xs = [v] ∧ Dp K H v d ∧ d.hasDict = false ∧ d.showable = true ∧ d.depth ≤ 64 ∧ d.shown.length ≤ sizeLine ∧ Q (.str d.shown) H
theorem call_reprD {X : Cx} (gd : X.A.guards = some []) (un : X.A.units + 65 < cLine) : CallR X (.builtin "repr") (rRepr X.K) := by
  intro pins s σ H xs us Q I rel h
  obtain ⟨v, d, rfl, dp, nd, sh, dep, sz, q⟩ := h
  obtain ⟨u, rfl, ru⟩ := vals1 rel
  cases dp with
  | non => cases ru; exact PySem.P.repr_of_none ⟨.str _, H, I.tok _, ⟨_, rfl⟩, by simpa only [PyData.shown] using q⟩
  | bl b =>
    cases ru
    exact PySem.P.repr_of_bool ⟨.str _, H, I.tok _, ⟨_, rfl⟩, by simpa only [PyData.shown] using q⟩
  | int i =>
    obtain ⟨t, rfl⟩ := ru
    exact PySem.P.repr_of_int (by simpa only [PyData.showable, decide_eq_true_eq] using sh) ⟨.str _, H, I.tok _, ⟨_, rfl⟩, by simpa only [PyData.shown] using q⟩
  | str x =>
    obtain ⟨t, rfl⟩ := ru
    exact PySem.P.repr_of_str ⟨.str _, H, I.tok _, ⟨_, rfl⟩, by simpa only [PyData.shown] using q⟩ (by simpa only [PyData.shown] using sz)
  | @lst a xs ds h1 h2 =>
    cases ru
    obtain ⟨as, rd⟩ := Dp.reads I _ _ _ (Dp.lst h1 h2) rfl
    exact repr_of_reads' rd sh (PyData.noDict_hsm nd) gd (by omega) (fun _ _ e => e) (fun h' u t k => ⟨.str _, H, I.kept k, ⟨_, rfl⟩, q⟩) sz
  | @tup a xs ds h1 h2 =>
    cases ru
    obtain ⟨as, rd⟩ := Dp.reads I _ _ _ (Dp.tup h1 h2) rfl
    exact repr_of_reads' rd sh (PyData.noDict_hsm nd) gd (by omega) (fun _ _ e => e) (fun h' u t k => ⟨.str _, H, I.kept k, ⟨_, rfl⟩, q⟩) sz
/-- the call of the law itself: `Seen` says what is tracked at the start -/
structure Seen (K : PySem.W.Frag) (prog : Program) (wd : World) (h : Heap) (a : Addr) (ns : List Int) (H : Hp) : Prop where
  only : Only H
  list : SqL K H a (ns.map V.int)
  good : HOk prog wd H h
  mine : ∀ b, H b ≠ none → b = a
  free : H a ≠ none → K.lookup a = none
theorem seen_ex {K : PySem.W.Frag} {prog : Program} {wd : World} {h : Heap} {a : Addr} {vs : List Value} {ns : List Int} (KX : K.In h) (there : h.get? a = some { cls := .type "list", data := .seq vs.toArray }) (are : IntsAre vs ns) (short : ns.length ≤ sizeLine) :
    ∃ H, Seen K prog wd h a ns H := by
  have rv : Vals (ns.map V.int) vs := vals_ints are
  by_cases known : ∃ o, K.lookup a = some o
  · obtain ⟨o, hk⟩ := known
    have e := KX a o hk
    rw [there] at e
    cases e
    refine ⟨fun _ => none, ⟨fun _ => Or.inl rfl, Or.inr ⟨_, vs.toArray, _, hk, rfl, rfl, rfl, ?_, by simpa using rv⟩, fun b u z => (nomatch z), fun b z => absurd rfl z, fun z => absurd rfl z⟩⟩
    rw [List.size_toArray, are.length]
    exact short
  · have hk : K.lookup a = none := by
      cases e : K.lookup a with
      | none => rfl
      | some o => exact absurd ⟨o, e⟩ known
    generalize ho : HO.frz { cls := .type "list", data := .seq vs.toArray } (.lst (ns.map V.int)) = o
    refine ⟨fun b => if b = a then some o else none, ⟨fun b => ?_, ?_, fun b u z => ?_, fun b z => ?_, fun _ => hk⟩⟩
    · by_cases hb : b = a
      · subst ho
        exact Or.inr ⟨_, _, if_pos hb⟩
      · exact Or.inl (if_neg hb)
    · subst ho
      exact Or.inl (Or.inr ⟨_, if_pos rfl⟩)
    · by_cases hb : b = a
      · have z1 := (if_pos hb).symm.trans z
        subst ho
        cases z1
        subst hb
        exact ⟨there, by rw [List.length_map]; exact short, vs, _, rv, there⟩
      · exact nomatch (if_neg hb).symm.trans z
    · by_cases hb : b = a
      · exact hb
      · exact absurd (if_neg hb) z
theorem law_callG {prog : Program} {wd : World} {K : PySem.W.Frag} {mg mb : Str → Option Value} {C : CXT} {n : Nat} {at' a : Addr} {fun' : FuncData} {x : Str} {want : Sp} {s : Shared} {vs : List Value} {ns : List Int}
    (KX : K.In s.heap) (glob : s.heap.Ns mainGlobals mg) (blt : s.heap.Ns builtinsNs mb) (boot : ∀ x : Str, x ≠ "__name__" → mb x = bootBuiltins x) (lim : s.heap.NoLimit) (calm : s.gens = #[])
    (there : s.heap.get? a = some { cls := .type "list", data := .seq vs.toArray }) (are : IntsAre vs ns) (short : ns.length ≤ sizeLine) (room : Room n callerA)
    (D : ∀ ground : Heap, K.In ground → ground.Ns mainGlobals mg → FnG prog wd K mg ground C n at' fun' [x] want) (bnd : ∀ (s : Shared) (u : Value), BindsTo s fun' ⟨[u], []⟩ [(x, u)])
    (hw : ∀ H : Hp, Only H → SqL K H a (ns.map V.int) → want [.ref a] H (fun v _ => v = .bl true) fun _ _ _ => False) (none' : ∀ H e s', C [] H s (fun _ _ _ => False) e s' → False) :
    codeAny (model prog wd) callerA (.call (.ref at') ⟨[.ref a], []⟩) (fun r s' => r = .ok (.ret (.bool true)) ∧ OldK s.heap s'.heap ∧ s'.os = s.os ∧ AllBare s'.gens) s := by
  obtain ⟨H, Z⟩ := seen_ex (prog := prog) (wd := wd) KX there are short
  have hid : ∀ {b : Addr} {o : Obj}, s.heap.get? b = some o → H b = none → (hidT s.heap H).get? b = some o := fun e z => hidT_get e z
  have dicts : ∀ {b : Addr} {o : Obj} {es : Array DictEntry} {ep : Nat}, s.heap.get? b = some o → o.data = .dict es ep → H b = none := by
    intro b o es ep e d
    cases q : H b with
    | none => rfl
    | some u =>
      have := Z.mine b (by rw [q]; exact fun z => nomatch z)
      subst this
      rw [there] at e
      cases e
      exact nomatch (d : Data.seq vs.toArray _ = Data.dict es ep)
  have spaces : ∀ {b : Addr} {m : Str → Option Value}, s.heap.Ns b m → (hidT s.heap H).Ns b m := by
    intro b m z
    obtain ⟨o, es, ep, e, d, r⟩ := z
    exact ⟨o, es, ep, hid e (dicts e d), d, r⟩
  have KB : K.In (hidT s.heap H) := by
    intro b o e
    refine hid (KX b o e) ?_
    cases q : H b with
    | none => rfl
    | some u =>
      have hb := Z.mine b (by rw [q]; exact fun z => nomatch z)
      have := Z.free (by rw [← hb, q]; exact fun z => nomatch z)
      rw [hb, this] at e
      cases e
  have mod : Mod K mg (hidT s.heap H) := by
    obtain ⟨mc, l1, l2⟩ := lim
    exact ⟨KB, spaces glob, ⟨mb, spaces blt, boot⟩, mc, spaces l1, l2⟩
  have e0 : Env0 prog wd K mg (hidT s.heap H) callerA [] s H := ⟨rfl, mod, fun b o e => of_hidT e, Nat.le_of_eq (hidT_size _ _), trivial, fun b hb => (nomatch hb), Z.good, .of_eq calm⟩
  refine codeAny_mono ((D _ KB (spaces glob)).goes (given := ⟨[.ref a], []⟩) (us := [.ref a]) (xs := [.ref a]) room rfl e0 (bnd s (.ref a)) (.cons rfl .nil) (hw H Z.only Z.list)) ?_
  intro r s' z
  cases r with
  | error e => exact (none' H e s' z).elim
  | ok fl =>
    cases fl with
    | next => exact (z : False).elim
    | brk => exact (z : False).elim
    | cont => exact (z : False).elim
    | ret u =>
      obtain ⟨v, H', os, bare, un, good, rel, q⟩ := z
      cases (q : v = .bl true)
      cases (rel : u = Value.bool true)
      refine ⟨rfl, OldK.of_keep fun b o e => ?_, os, bare⟩
      cases q : H b with
      | none => exact un.keep b o e q (fun z => nomatch z) (by simp)
      | some u =>
        rcases Z.only b with z | ⟨ob, ys, z⟩
        · rw [q] at z; cases z
        · obtain ⟨e1, _⟩ := Z.good b _ z
          obtain ⟨e2, _⟩ := good b _ (un.frzs b ob _ z)
          rw [e] at e1
          cases e1
          exact e2
end Ev
/-! Ev, part X: rules that the layer lacks. -/
namespace Ev
open PySem PySem.Spec PyProof.Rows Srt SrtO
section
variable {prog : Program} {w : World} {A : Around} {E : Value → Shared → Prop} {s : Shared}
theorem collect_tup {l : Addr} {vs : List Value} {Q : List Value → Shared → Prop} (hl : IsTup s.heap l vs.toArray)
    (h : Q vs { s with heap := (s.heap.push (seqObj "list" #[] 0)).update s.heap.objs.size (Obj.mapSeq (· ++ vs.toArray)) }) (hsz : vs.length ≤ sizeLine) :
    wpAny (model prog w) A (collect (.ref l)) Q E s := by
  obtain ⟨o, ho, hc, n, hd⟩ := id hl
  unfold collect
  refine wpAny_bind (wpAny_runValue (codeAny_builtin entry_proto_collect' ?_))
  show wpAny _ _ (do again (.builtin "list.__iadd__" ⟨[← newList [], .ref l], []⟩)) _ _ s
  refine wpAny_bind (wpAny_newList (wpAny_pure ⟨Code.quiet_builtin _ (by decide +kernel), codeAny_builtin entry_list_iadd' ?_⟩))
  show wpAny _ _ (Builtin.List.listExtendWith (.ref s.heap.objs.size) (.ref l) (.ref s.heap.objs.size)) _ _ { s with heap := s.heap.push (seqObj "list" #[] 0) }
  unfold Builtin.List.listExtendWith
  have ho' : (s.heap.push (seqObj "list" #[] 0)).get? l = some o := Heap.get?_push_of_some _ ho
  refine wpAny_bind (wpAny_typeOf (T := "tuple") ⟨o, ho', hc⟩ ?_)
  have ht : (Value.type "tuple" == Value.type "tuple") = true := by rfl
  rw [if_pos (by rw [ht]; simp)]
  refine wpAny_bind (listItems_at ho' hd ?_)
  refine wpAny_bind (listItems_at (xs := #[]) (n := 0) (Heap.get?_push_size _ rfl) rfl ?_)
  rw [if_neg (by simp)]
  refine wpAny_bind (listUpdate_at (xs := #[]) (n := 0) (Heap.get?_push_size _ rfl) rfl ?_ (Nat.zero_le _) (by show (#[] ++ vs.toArray).size ≤ sizeLine + 1; simp only [Array.size_append, List.size_toArray, List.length_nil]; omega))
  refine wpAny_pure ?_
  show wpAny (model prog w) A (do
      let o ← load s.heap.objs.size
      match o.data with
      | .seq xs _ => pure xs.toList
      | _ => unsupported "internal:collect") Q E { s with heap := (s.heap.push (seqObj "list" #[] 0)).update s.heap.objs.size (Obj.mapSeq (· ++ vs.toArray)) }
  refine wpAny_bind (wpAny_load (get?_update_seq (Heap.get?_push_size _ rfl) _) ?_)
  show wpAny _ _ (pure ((#[] : Array Value) ++ vs.toArray).toList) Q E _
  rw [show ((#[] : Array Value) ++ vs.toArray).toList = vs by simp]
  exact wpAny_pure h
theorem sorted_tup {l : Addr} {vs : List Value} {ltv : Value → Value → Bool} {Q : Value → Shared → Prop} (O : Swo ltv) (hl : IsTup s.heap l vs.toArray) (hz : vs.length ≤ sizeLine)
    (hS : 2 ≤ vs.length → ∀ (h₁ : Heap) (a : Addr), h₁.get? a = some (seqObj "list" vs.toArray 0) → (∀ b o, s.heap.get? b = some o → b ≠ a ∧ h₁.get? b = some o) → SortableO prog w A.in1.in1 { s with heap := h₁ } a vs ltv)
    (h : ∀ out : List Value, Srtd ltv out → Stb ltv out vs → Q (.ref (s.heap.objs.size + 1)) { s with heap := sortedAll s.heap vs out.toArray }) :
    wpAny (model prog w) A (call (.builtin "sorted") [.ref l]) Q E s := by
  refine Calls.call_function_entry kind_sorted plain_sorted entry_sorted (args_sorted1 _) ?_
  unfold Builtin.«sorted»
  refine wpAny_bind (m := checkCount "sorted" 1 1 _) (wpAny_pure ?_)
  refine wpAny_bind (collect_tup hl ?_ hz)
  refine wpAny_bind (wpAny_newList ?_ hz)
  have hsz : ((s.heap.push (seqObj "list" #[] 0)).update s.heap.objs.size (Obj.mapSeq (· ++ vs.toArray))).objs.size = s.heap.objs.size + 1 := by
    rw [Heap.size_update, size_push']
  have hoL : (((s.heap.push (seqObj "list" #[] 0)).update s.heap.objs.size (Obj.mapSeq (· ++ vs.toArray))).push (seqObj "list" vs.toArray 0)).get? (s.heap.objs.size + 1) = some (seqObj "list" vs.toArray 0) := by
    rw [← hsz]; exact Heap.get?_push_size _ rfl
  have keep : ∀ b o, s.heap.get? b = some o → b ≠ s.heap.objs.size + 1 ∧ (((s.heap.push (seqObj "list" #[] 0)).update s.heap.objs.size (Obj.mapSeq (· ++ vs.toArray))).push (seqObj "list" vs.toArray 0)).get? b = some o := fun b o q => by
    have hlt : b < s.heap.objs.size := Heap.lt_size q
    refine ⟨Nat.ne_of_lt (Nat.lt_succ_of_lt hlt), Heap.get?_push_of_some _ ?_⟩
    rw [Heap.get?_update_ne _ _ _ _ (Nat.ne_of_lt hlt)]
    exact Heap.get?_push_of_some _ q
  show wpAny _ _ _ _ _ { s with heap := ((s.heap.push (seqObj "list" #[] 0)).update s.heap.objs.size (Obj.mapSeq (· ++ vs.toArray))).push (seqObj "list" vs.toArray 0) }
  rw [hsz]
  refine wpAny_bind (wpAny_holding (wpAny_call_entry slot_list_sort ⟨_, hoL, rfl⟩ entry_list_sort (list_sort_ord O hoL hz (fun h2 => hS h2 _ _ hoL keep) fun out hs hb => ⟨_, rfl, ?_⟩) (args_list_sort _)))
  exact wpAny_pure ⟨_, rfl, h out hs hb⟩
end
end Ev
namespace Ev
open PySem PySem.Spec PyProof.Rows L2
theorem cr_sortedTup {X : Cx} : CallR X (.builtin "sorted") (fun vs H Q => ∃ (a : Addr) (ns : List Int), vs = [V.ref a] ∧ SqT X.K H a (ns.map V.int) ∧ ∀ (ns' : List Int) (p : Addr), ns'.Perm ns → ns'.Pairwise (· ≤ ·) → H p = none → Q (.ref p) (upd H p (.lst (ns'.map V.int)))) := by
  intro pins s σ H vs us Q I r h
  obtain ⟨a, ns, rfl, hs, q⟩ := h
  obtain ⟨its, rv, hl, hz⟩ := I.tuple hs
  rw [Vals.ref1 r]
  have hi := rv.ints
  refine sorted_tup SrtO.swo_int hl (by rw [← rv.length]; exact hz) (fun h2 h₁ a' _ _ => SrtO.ints_sortable hi h2) fun out h1 h2 => ?_
  obtain ⟨k1, k2, k3⟩ := SrtO.ints_out hi h1 h2
  obtain ⟨ep, he'⟩ := PyProof.Rows.sortedAll_at s.heap its out.toArray
  have hlen : ((out.map SrtO.iv).map V.int).length ≤ sizeLine := by
    rw [List.length_map, k2.length_eq]
    rw [List.length_map] at hz
    exact hz
  exact ⟨.ref _, upd H (s.heap.objs.size + 1) (.lst ((out.map SrtO.iv).map V.int)), I.laid (t' := s.toks) (fun _ _ => PyProof.Rows.sortedAll_old) (Nat.le_succ _) ⟨hlen, out, ep, vals_of_ints k1, he'⟩, rfl, q _ _ k2 k3 (I.hok.fresh (Nat.le_succ _))⟩
end Ev
set_option maxHeartbeats 1000000
/-! Ev, part W: enumerate over a tuple. -/
namespace EnT
open PySem PySem.Spec PyProof.Rows L2

theorem drawsT {prog : Program} {w : World} {A : Around} (hh : A.handled = none) (it l : Addr) (hne : l ≠ it) (us : Array Value) :
    Draws prog w A it [it, l] us.size (fun i v => us[i]? = some v) (fun i h => h.IsTupleIter it l i ∧ h.IsTuple l us) := by
  refine ⟨fun _ _ st => ?_, fun _ _ _ st k => ?_, fun i s Q E hi st hQ => ?_, fun s Q E st hE => ?_⟩
  · obtain ⟨⟨o, ho, _⟩, _⟩ := st
    exact ⟨o, ho⟩
  · exact ⟨st.1.at fun o q => k it (by simp) o q, (let ⟨o, ho, r⟩ := st.2; ⟨o, k l (by simp) o ho, r⟩)⟩
  · have e : us[i]? = some us[i] := by simp [hi]
    exact RZ.nextOf_tuple_item st.1 st.2 e fun h' a b => hQ _ h' s.toks e ⟨a, (let ⟨o, ho, r⟩ := st.2; ⟨o, b.extBut l o hne ho, r⟩)⟩ b
  · exact RZ.nextOf_tuple_end hh st.1 st.2 (by simp) hE

theorem drawsEnd {prog : Program} {w : World} {A : Around} (hh : A.handled = none) (it l : Addr) (us : Array Value) {i : Nat} (hi : us[i]? = none) :
    Draws prog w A it [it, l] 0 (fun _ _ => True) (fun _ h => h.IsTupleIter it l i ∧ h.IsTuple l us) := by
  refine ⟨fun _ _ st => ?_, fun _ _ _ st k => ?_, fun i s Q E z => absurd z (Nat.not_lt_zero i), fun s Q E st hE => ?_⟩
  · obtain ⟨⟨o, ho, _⟩, _⟩ := st
    exact ⟨o, ho⟩
  · exact ⟨st.1.at fun o q => k it (by simp) o q, (let ⟨o, ho, r⟩ := st.2; ⟨o, k l (by simp) o ho, r⟩)⟩
  · exact RZ.nextOf_tuple_end hh st.1 st.2 hi hE

/-- where the iterator goes, then the enumerator -/
abbrev enH (h : Heap) (l : Addr) : Heap := h.push { cls := .type "tuple_iterator", data := .fields #[.ref l, .int 0 0] }
theorem enum_newT (l : Addr) (us : Array Value) : Meets (Builtin.«enumerate.__new__» ⟨[.type "enumerate", .ref l], []⟩) fun _ R s => s.heap.IsTuple l us ∧
    R (.ok (.ret (.ref (enH s.heap l).objs.size))) { s with heap := (enH s.heap l).push { cls := .type "enumerate", data := .fields #[.none, .bool false, .ref s.heap.objs.size, rawInt 0, .none, .none] } } :=
  .of_wp fun prog w A R s h => by
    obtain ⟨hp, g, d, tk, os⟩ := s
    obtain ⟨ht, fin⟩ := h
    have hsub := sub_enumerate
    have hT : Heap.IsTuple (Shared.heap ⟨hp, g, d, tk, os⟩) l us := ht
    wp_walk
    refine wpAny_stack_any fun st => wpAny_pure ?_
    split
    · rename_i c _ _ _ _ _
      cases (c == Value.type "enumerate") <;> (wp_walk using wpAny_pyIter_tuple hT; exact ⟨_, rfl, fin⟩)
    · wp_walk using wpAny_pyIter_tuple hT
      exact ⟨_, rfl, fin⟩
section
variable {prog : Program} {w : World} {A : Around} {E : Value → Shared → Prop} {s : Shared}
theorem call_enumT {l : Addr} {us : Array Value} {Q : Value → Shared → Prop} (hl : s.heap.IsTuple l us)
    (h : ∀ h', IsEnum h' (s.heap.objs.size + 1) s.heap.objs.size 0 .none → h'.IsTupleIter s.heap.objs.size l 0 → (∀ b o, s.heap.get? b = some o → h'.get? b = some o) → Q (.ref (s.heap.objs.size + 1)) { s with heap := h' }) :
    wpAny (model prog w) A (call (.type "enumerate") [.ref l]) Q E s := by
  have z : (enH s.heap l).objs.size = s.heap.objs.size + 1 := Heap.size_push ..
  refine callType_new F.called_enumerate (by decide) (F.typeCall_enumerate_1 _) (F.newCall_enumerate_1 _) (fun ob => F.args_object_init_2 ob _) F.entry_enumerate_new (enum_newT l us) ⟨hl, ?_⟩
  show _ ∧ _
  rw [z]
  have he : IsEnum ((enH s.heap l).push { cls := .type "enumerate", data := .fields #[.none, .bool false, .ref s.heap.objs.size, rawInt 0, .none, .none] }) (s.heap.objs.size + 1) s.heap.objs.size 0 .none := by
    rw [← z]; exact Heap.get?_push_size (enH s.heap l) rfl
  exact ⟨⟨_, he, rfl⟩, h _ he ⟨_, Heap.get?_push_of_some _ (Heap.get?_push_size _ rfl), rfl, rfl⟩ fun b o q => Heap.get?_push_of_some _ (Heap.get?_push_of_some _ q)⟩
end

/-- the tuple at a, its items numbered -/
def IteT (K : PySem.W.Frag) (a : Addr) : It where
  go i H := ∃ (xs : List V) (x : V), SqT K H a xs ∧ xs[i]? = some x
  yld i H v H' := ∃ T x, v = .ref T ∧ H T = none ∧ H' = upd H T (.tup [.int (i : Nat), x]) ∧ ∀ xs, SqT K H a xs → xs[i]? = some x
  stop i H := ∃ xs : List V, SqT K H a xs ∧ xs.length ≤ i
structure EnSt (a e it : Addr) (i : Nat) (h : Heap) : Prop where
  en : ∃ old, IsEnum h e it ((i : Nat) : Int) old
  ti : h.IsTupleIter it a i
  ne : e ≠ it
  ai : a ≠ it
  ae : a ≠ e
theorem two {b e it : Addr} (h : b ∈ [e, it]) : b = e ∨ b = it := by simpa using h
theorem EnSt.lt {a e it : Addr} {i : Nat} {h : Heap} (st : EnSt a e it i h) {b : Addr} (hb : b ∈ [e, it]) : b < h.objs.size := by
  rcases two hb with rfl | rfl
  · obtain ⟨_, q⟩ := st.en; exact Heap.lt_size q
  · obtain ⟨_, q, _⟩ := st.ti; exact Heap.lt_size q
theorem turn_enumT {P : Program} {w : World} {K : PySem.W.Frag} {elts : List Expr} {kk : Nat} {tpos : Pos} (a e it : Addr) : Turn P w K (.Tuple elts kk tpos) (IteT K a) [e, it] e (EnSt a e it) := by
  refine ⟨by simp, fun i h st b hb => ?_, fun i h h' st k => ?_, ?_, ?_, fun A i s Q E st hQ => ?_⟩
  · rcases two hb with rfl | rfl
    · obtain ⟨_, q⟩ := st.en; exact ⟨_, q, fun v z => nomatch z⟩
    · obtain ⟨o, q, _, d⟩ := st.ti; exact ⟨o, q, fun v z => by rw [d] at z; cases z⟩
  · obtain ⟨old, q⟩ := st.en
    exact ⟨⟨old, k e (by simp) _ q⟩, st.ti.at fun o z => k it (by simp) o z, st.ne, st.ai, st.ae⟩
  · rintro X rfl rfl rfl hc i pins s σ H E I hf st ⟨xs, x, hq, hx⟩
    obtain ⟨its, rv, p, hz⟩ := I.tuple hq
    obtain ⟨u, hu, ru⟩ := rv.get hx
    obtain ⟨old, he⟩ := st.en
    have pt : s.heap.IsTuple a its.toArray := p
    have hlt : i < its.toArray.size := by
      rw [List.size_toArray]; exact (List.getElem?_eq_some_iff.mp hu).1
    refine wpAny_pyNext_enum_itemD (drawsT (A := X.A.in1) (I.ok.hd hc) it a st.ai its.toArray) he ⟨st.ti, pt⟩ hlt st.ne (by simp [st.ne, Ne.symm st.ae]) fun y h' tk py ho st' hT hsz hk => ?_
    have ey : y = u := by
      have py' : its.toArray[i]? = some y := py
      rw [List.getElem?_toArray, hu] at py'; exact (Option.some.inj py').symm
    subst ey
    refine ⟨_, rfl, wpAny_letOwnedTupleGo_enum (s := { s with heap := h', toks := tk + 1 }) ho fun h2 he2 sb => ?_⟩
    have big : ∀ b ∈ [e, it], b ≠ s.heap.objs.size := fun b hb => Nat.ne_of_lt (st.lt hb)
    have hT2 : h2.get? s.heap.objs.size = some { cls := .type "tuple", data := .seq #[.int i tk, y] } := (sb.2 _ (big e (by simp)).symm).trans hT
    have new : ObjOk X.prog X.w (upd H s.heap.objs.size (.tup [.int (i : Nat), x])) h2 s.heap.objs.size (.tup [.int (i : Nat), x]) := ⟨by show 2 ≤ sizeLine; decide, [.int i tk, y], .cons ⟨_, rfl⟩ (.cons ru .nil), ⟨_, hT2, rfl, _, rfl⟩⟩
    have I1 : Inv X pins σ (upd H s.heap.objs.size (.tup [.int (i : Nat), x])) { s with heap := h2, toks := tk + 1 } :=
      I.turnedNew (ch := [e, it]) (fun b ob hb q => by
        have n1 : b ≠ e := fun z => hb (by simp [z])
        have n2 : b ≠ it := fun z => hb (by simp [z])
        exact (sb.2 b n1).trans (hk b ob n1 n2 q)) hf (Nat.le_refl _) new
    refine ⟨.ref s.heap.objs.size, _, I1, rfl, ⟨_, x, rfl, I.hok.fresh (Nat.le_refl _), rfl, fun zs hzs => by rw [I.tuple_inj hzs hq]; exact hx⟩, ⟨⟨y, ?_⟩, st'.1.at fun o q => (sb.2 it (Ne.symm st.ne)).trans q, st.ne, st.ai, st.ae⟩, fun b hb => ?_⟩
    · rw [show ((i + 1 : Nat) : Int) = (i : Int) + 1 from by omega]; exact he2
    · rw [upd_ne (big b hb)]; exact (hf b hb).1
  · rintro X rfl rfl rfl hc i pins s σ H E I hf st ⟨xs, hq, hx⟩
    obtain ⟨its, rv, p, hz⟩ := I.tuple hq
    obtain ⟨old, he⟩ := st.en
    have hl := rv.length
    have pt : s.heap.IsTuple a its.toArray := p
    obtain ⟨f0, f1, f2, f3, f4, f5⟩ := hf it (by simp)
    exact wpAny_pyNext_enum_endD (drawsEnd (A := X.A.in1) (I.ok.hd hc) it a its.toArray (i := i) (by simp; omega)) he ⟨st.ti, pt⟩ fun h' eb => ⟨rfl, I.turned (t' := s.toks) (fun b o n q => eb b o n q) f0 f1 f3 f4 f5⟩
  · obtain ⟨_, he⟩ := st.en
    exact wpAny_pyIter_enum he hQ
/-- over a list or a tuple -/
def iEnumA (K : PySem.W.Frag) (ta : TA) : TI := fun σ H R => ta σ H fun vs H1 => ∃ a xs, vs = [.ref a] ∧ ((SqL K H1 a xs ∧ R (Ite K a) H1) ∨ (SqT K H1 a xs ∧ R (IteT K a) H1))
theorem pi_enumA {X : Cx} {e : Expr} {ta : TA} {p pos tpos : Pos} {elts : List Expr} {kk : Nat} (hg : Gl X "enumerate") (hm : X.mg "enumerate" = none) (ha : PA X [e] ta) (hs : starEach [e] X.env = [(false, eval e X.env)] := by rfl) :
    PI X (.Tuple elts kk tpos) (.Call (.Name "enumerate" p) [e] [] pos) (iEnumA X.K ta) := by
  constructor
  intro pins s σ H R I h
  refine Call_ (ld_blt I hg hm boot_enumerate (PyProof.Rows.callWith_type1 (thn (ha.run pos pins s σ H _ I h) fun us s1 q => ?_) hs rfl))
  obtain ⟨_, H1, I1, r1, a, xs, rfl, q⟩ := q
  obtain ⟨u, rfl, ru⟩ := vals1 r1
  cases ru
  have fp : ∀ b ∈ [s1.heap.objs.size + 1, s1.heap.objs.size], FpOk X pins H1 b := fun b hb => by
    have le : s1.heap.objs.size ≤ b := by rcases two hb with rfl | rfl <;> omega
    exact I1.fpOk le (I1.hok.fresh le)
  rcases q with ⟨hq, q⟩ | ⟨hq, q⟩
  · obtain ⟨its, rv, p', hz⟩ := I1.list hq
    refine call_enumerate_list p'.isList fun h' he ht _ hk => wpAny_pyIter_enum he ?_
    exact ⟨_, [s1.heap.objs.size + 1, s1.heap.objs.size], _, _, H1, rfl, I1.kept (t' := s1.toks) hk, turn_enum a (s1.heap.objs.size + 1) s1.heap.objs.size, ⟨⟨.none, he⟩, ht, Nat.succ_ne_self _⟩, fp, q⟩
  · obtain ⟨its, rv, p', hz⟩ := I1.tuple hq
    obtain ⟨oa, hoa, _⟩ := id p'
    have la : a < s1.heap.objs.size := Heap.lt_size hoa
    refine call_enumT (show s1.heap.IsTuple a its.toArray from p') fun h' he ht hk => wpAny_pyIter_enum he ?_
    exact ⟨_, [s1.heap.objs.size + 1, s1.heap.objs.size], _, _, H1, rfl, I1.kept (t' := s1.toks) hk, turn_enumT a (s1.heap.objs.size + 1) s1.heap.objs.size, ⟨⟨.none, he⟩, ht, Nat.succ_ne_self _, Nat.ne_of_lt la, Nat.ne_of_lt (Nat.lt_succ_of_lt la)⟩, fp, q⟩
end EnT
set_option maxHeartbeats 1000000
/-! Ev, part V: the greatest, the least of a list. -/
namespace Ev
open PySem PySem.Spec PyProof.Rows L2

theorem bestL_snoc (b : Int → Int → Bool) (x : Int) : ∀ (xs : List Int) (m : Int), bestL b m (xs ++ [x]) = if b x (bestL b m xs) then x else bestL b m xs
  | [], m => rfl
  | y :: ys, m => bestL_snoc b x ys _
theorem arg_best (b : Int → Int → Bool) (f : Nat → Int) (n : Int) (ns : List Int) (h : ∀ i x, (n :: ns)[i]? = some x → f i = x) : ∀ k, k ≤ ns.length → f (argBest (fun i j => b (f i) (f j)) k) = bestL b n (ns.take k)
  | 0, _ => by rw [List.take_zero]; exact h 0 n rfl
  | k + 1, hk => by
    have ih := arg_best b f n ns h k (by omega)
    have e : ns[k]? = some ns[k] := List.getElem?_eq_getElem (by omega)
    have ek : f (k + 1) = ns[k] := h (k + 1) _ (by simpa using e)
    rw [List.take_add_one, e]
    show _ = bestL b n (ns.take k ++ [ns[k]])
    rw [bestL_snoc, ← ih]
    show f (if b (f (k + 1)) (f (argBest (fun i j => b (f i) (f j)) k)) = true then k + 1 else argBest (fun i j => b (f i) (f j)) k) = _
    rw [ek]
    by_cases q : b ns[k] (f (argBest (fun i j => b (f i) (f j)) k)) = true
    · rw [if_pos q, if_pos q]; exact ek
    · rw [if_neg q, if_neg q]
theorem int_pairs : ∀ {ns : List Int} {its : List Value}, Vals (ns.map V.int) its → ∃ ps : List (Int × Tok), its = ps.map (fun p => .int p.1 p.2) ∧ ps.map (·.1) = ns
  | [], _, .nil => ⟨[], rfl, rfl⟩
  | n :: ns, _, .cons r rr => by
    obtain ⟨t, rfl⟩ := r
    obtain ⟨ps, rfl, rfl⟩ := int_pairs rr
    exact ⟨(n, t) :: ps, rfl, rfl⟩
theorem pair_at {ps : List (Int × Tok)} {n : Int} {ns : List Int} (e : ps.map (·.1) = n :: ns) : ∀ i x, (n :: ns)[i]? = some x → numAt ps.toArray i = x := fun i x q => by
  rw [← e, List.getElem?_map] at q
  unfold numAt
  rw [List.getElem?_toArray, q]; rfl
def rBest (K : PySem.W.Frag) (b : Int → Int → Bool) : List V → Hp → VK → Prop := fun vs H Q => ∃ (a : Addr) (n : Int) (ns : List Int), vs = [.ref a] ∧ SqL K H a ((n :: ns).map V.int) ∧ Q (.int (bestL b n ns)) H
section
variable {X : Cx}
theorem best_end {b : Int → Int → Bool} {ps : List (Int × Tok)} {n : Int} {ns : List Int} (e : ps.map (·.1) = n :: ns) {v : Value}
    (hv : (intItems ps.toArray)[argBest (fun i j => b (numAt ps.toArray i) (numAt ps.toArray j)) (ps.toArray.size - 1)]? = some v) : RelV (.int (bestL b n ns)) v := by
  obtain ⟨t, rfl⟩ := intItems_at hv
  have hl : ps.length = ns.length + 1 := by have := congrArg List.length e; simpa using this
  have hs : ps.toArray.size - 1 = ns.length := by rw [List.size_toArray]; omega
  rw [hs, arg_best b _ n ns (pair_at e) ns.length (Nat.le_refl _), List.take_length]
  exact ⟨t, rfl⟩
theorem cr_max1 (hc : X.calm = true) : CallR X (.builtin "max") (rBest X.K fun x y => decide (x > y)) := by
  intro pins s σ H vs us Q I r h
  obtain ⟨a, n, ns, rfl, hs, q⟩ := h
  obtain ⟨its, rv, hl, _⟩ := I.list hs
  obtain ⟨ps, rfl, e⟩ := int_pairs rv
  rw [Vals.ref1 r]
  refine max_intList (xs := ps.toArray) (I.ok.hd hc) (by have := hl.isList; simpa [intItems] using this) (by have := congrArg List.length e; simp at this; simp; omega) fun v h' tk hv k => ?_
  exact ⟨_, H, I.kept k, best_end (b := fun x y => decide (x > y)) e hv, q⟩
theorem cr_min1 (hc : X.calm = true) : CallR X (.builtin "min") (rBest X.K fun x y => decide (x < y)) := by
  intro pins s σ H vs us Q I r h
  obtain ⟨a, n, ns, rfl, hs, q⟩ := h
  obtain ⟨its, rv, hl, _⟩ := I.list hs
  obtain ⟨ps, rfl, e⟩ := int_pairs rv
  rw [Vals.ref1 r]
  refine min_intList (xs := ps.toArray) (I.ok.hd hc) (by have := hl.isList; simpa [intItems] using this) (by have := congrArg List.length e; simp at this; simp; omega) fun v h' tk hv k => ?_
  exact ⟨_, H, I.kept k, best_end (b := fun x y => decide (x < y)) e hv, q⟩
end
end Ev
/-! Ev, part C: how data lie in the abstract heap. S: what is plain data there; ι: where the cells lie. -/
namespace Ev
open PySem PySem.Spec PyProof.Rows L2

section
variable (K : PySem.W.Frag)
mutual
inductive RV (S : Hp) (ι : List Addr) : D → V → Prop where
  | non : RV S ι .non .non
  | bl (b : Bool) : RV S ι (.bl b) (.bl b)
  | int (i : Int) : RV S ι (.int i) (.int i)
  | str (s : Str) : RV S ι (.str s) (.str s)
  | tup {a : Addr} {vs : List V} {ds : List D} : S a = some (.tup vs) → RVs S ι ds vs → RV S ι (.tup ds) (.ref a)
  | lst {a : Addr} {vs : List V} {ds : List D} : S a = some (.lst vs) → RVs S ι ds vs → RV S ι (.lst ds) (.ref a)
  | vw {a : Addr} {vs : List V} {ds : List D} : SqL K S a vs → RVs S ι ds vs → RV S ι (.vw ds) (.ref a)
  | vt {a : Addr} {o : Obj} {vs : List V} {ds : List D} : S a = some (.frz o (.tup vs)) → o.cls = .type "tuple" ∧ o.dict = none → RVs S ι ds vs → RV S ι (.vt ds) (.ref a)
  | ref {n : Nat} {a : Addr} : ι[n]? = some a → RV S ι (.ref n) (.ref a)
inductive RVs (S : Hp) (ι : List Addr) : List D → List V → Prop where
  | nil : RVs S ι [] []
  | cons {d : D} {v : V} {ds : List D} {vs : List V} : RV S ι d v → RVs S ι ds vs → RVs S ι (d :: ds) (v :: vs)
end
end

abbrev Sub (S S' : Hp) : Prop := ∀ a o, S a = some o → S' a = some o
theorem SqL.up {K : PySem.W.Frag} {S S' : Hp} (h : Sub S S') {a : Addr} {vs : List V} : SqL K S a vs → SqL K S' a vs
  | .inl (.inl e) => .inl (.inl (h _ _ e))
  | .inl (.inr ⟨o, e⟩) => .inl (.inr ⟨o, h _ _ e⟩)
  | .inr e => .inr e
theorem SqT.up {K : PySem.W.Frag} {S S' : Hp} (h : Sub S S') {a : Addr} {vs : List V} : SqT K S a vs → SqT K S' a vs
  | .inl (.inl e) => .inl (.inl (h _ _ e))
  | .inl (.inr ⟨o, e⟩) => .inl (.inr ⟨o, h _ _ e⟩)
  | .inr e => .inr e

theorem vtT {K : PySem.W.Frag} {S : Hp} {a : Addr} {o : Obj} {vs : List V} (e : S a = some (.frz o (.tup vs))) : SqT K S a vs := .inl (.inr ⟨o, e⟩)
section
variable {K : PySem.W.Frag} {S S' : Hp} {ι ι' : List Addr} {H H' : Hp} {h h' : Hs} {ρ : Env} {σ : L2.St}
mutual
theorem RV.up (hS : Sub S S') (hι : ∀ (n : Nat) (a : Addr), ι[n]? = some a → ι'[n]? = some a) : ∀ {d : D} {v : V}, RV K S ι d v → RV K S' ι' d v
  | _, _, .non => .non
  | _, _, .bl b => .bl b
  | _, _, .int i => .int i
  | _, _, .str s => .str s
  | _, _, .tup e r => .tup (hS _ _ e) (RVs.up hS hι r)
  | _, _, .lst e r => .lst (hS _ _ e) (RVs.up hS hι r)
  | _, _, .vw e r => .vw (SqL.up hS e) (RVs.up hS hι r)
  | _, _, .vt e z r => .vt (hS _ _ e) z (RVs.up hS hι r)
  | _, _, .ref e => .ref (hι _ _ e)
theorem RVs.up (hS : Sub S S') (hι : ∀ (n : Nat) (a : Addr), ι[n]? = some a → ι'[n]? = some a) : ∀ {d : List D} {v : List V}, RVs K S ι d v → RVs K S' ι' d v
  | _, _, .nil => .nil
  | _, _, .cons r t => .cons (RV.up hS hι r) (RVs.up hS hι t)
end
theorem RVs.length : ∀ {ds : List D} {vs : List V}, RVs K S ι ds vs → ds.length = vs.length
  | _, _, .nil => rfl
  | _, _, .cons _ t => congrArg Nat.succ (RVs.length t)
theorem RVs.get : ∀ {ds : List D} {vs : List V} {i : Nat} {d : D}, RVs K S ι ds vs → ds[i]? = some d → ∃ v, vs[i]? = some v ∧ RV K S ι d v
  | _, _, _, _, .nil, e => by simp at e
  | _, _, 0, _, .cons r _, e => by simp at e; subst e; exact ⟨_, rfl, r⟩
  | _, _, i + 1, d, .cons _ t, e => by
    obtain ⟨u, h1, h2⟩ := RVs.get (i := i) (d := d) t (by simpa using e)
    exact ⟨u, by simpa using h1, h2⟩
theorem RVs.none : ∀ {ds : List D} {vs : List V} {i : Nat}, RVs K S ι ds vs → ds[i]? = .none → vs[i]? = .none := fun {ds vs i} r e => by
  have := r.length
  exact List.getElem?_eq_none_iff.mpr (by have := List.getElem?_eq_none_iff.mp e; omega)
theorem RVs.append : ∀ {xs ys : List D} {us ws : List V}, RVs K S ι xs us → RVs K S ι ys ws → RVs K S ι (xs ++ ys) (us ++ ws)
  | _, _, _, _, .nil, s => s
  | _, _, _, _, .cons r t, s => .cons r (RVs.append t s)
theorem RVs.take : ∀ {xs : List D} {us : List V} (n : Nat), RVs K S ι xs us → RVs K S ι (xs.take n) (us.take n)
  | _, _, 0, _ => .nil
  | _, _, _ + 1, .nil => .nil
  | _, _, n + 1, .cons r t => .cons r (RVs.take n t)
theorem RVs.drop : ∀ {xs : List D} {us : List V} (n : Nat), RVs K S ι xs us → RVs K S ι (xs.drop n) (us.drop n)
  | _, _, 0, r => r
  | _, _, _ + 1, .nil => .nil
  | _, _, n + 1, .cons _ t => RVs.drop n t
theorem RVs.set {x : D} {u : V} (r : RV K S ι x u) : ∀ {xs : List D} {us : List V} (i : Nat), RVs K S ι xs us → RVs K S ι (xs.set i x) (us.set i u)
  | _, _, _, .nil => .nil
  | _, _, 0, .cons _ t => .cons r t
  | _, _, i + 1, .cons q t => .cons q (RVs.set r i t)
theorem RVs.rep (n : Nat) {xs : List D} {us : List V} (r : RVs K S ι xs us) : RVs K S ι (List.replicate n xs).flatten (List.replicate n us).flatten := by
  induction n with
  | zero => exact .nil
  | succ n ih => rw [List.replicate_succ, List.replicate_succ, List.flatten_cons, List.flatten_cons]; exact r.append ih
theorem RVs.ints : ∀ {ns : List Int}, RVs K S ι (ns.map .int) (ns.map .int)
  | [] => .nil
  | n :: ns => .cons (.int n) RVs.ints
theorem RVs.nil_iff {xs : List D} {us : List V} (r : RVs K S ι xs us) : xs = [] ↔ us = [] := by
  cases r with
  | nil => simp
  | cons _ _ => simp

/-! ### cells, slots -/
def CellOk (K : PySem.W.Frag) (S : Hp) (ι : List Addr) (H : Hp) (a : Addr) : Cell → Prop
  | .dead => True
  | .obj c fs => S a = none ∧ ∃ dx vs, H a = some (.ins (He.ga K c) dx vs) ∧ Paired (fun (p : Str × D) (q : Str × V) => p.1 = q.1 ∧ RV K S ι p.2 q.2) fs vs
  | .lst xs => S a = none ∧ ∃ vs, H a = some (.lst vs) ∧ RVs K S ι xs vs
  | .dct false kvs => S a = none ∧ ∃ kv, H a = some (.dK kv) ∧ Paired (fun (p : DKey × D) (q : Key × V) => p.1 = .inl q.1 ∧ RV K S ι p.2 q.2) kvs kv
  | .dct true kvs => S a = none ∧ ∃ kv, H a = some (.dT kv) ∧ Paired (fun (p : DKey × D) (q : List Key × V) => p.1 = .inr q.1 ∧ RV K S ι p.2 q.2) kvs kv
structure HRel (K : PySem.W.Frag) (S : Hp) (ι : List Addr) (h : Hs) (H : Hp) : Prop where
  len : ι.length = h.length
  nd : ι.Nodup
  sub : Sub S H
  out : ∀ a ∈ ι, H a ≠ none
  cell : ∀ (n : Nat) (a : Addr) (c : Cell), ι[n]? = some a → h[n]? = some c → CellOk K S ι H a c
def ERel (K : PySem.W.Frag) (S : Hp) (ι : List Addr) (ρ : Env) (σ : L2.St) : Prop := ρ.length = σ.length ∧ ∀ (i : Nat) (d : D), ρ[i]? = some (some d) → ∃ v, σ[i]? = some (some v) ∧ RV K S ι d v
structure Ext (S : Hp) (ι : List Addr) (H : Hp) (S' : Hp) (ι' : List Addr) (H' : Hp) : Prop where
  sub : Sub S S'
  pre : ∀ (n : Nat) (a : Addr), ι[n]? = some a → ι'[n]? = some a
  keep : ∀ a o, H a = some o → a ∉ ι → H' a = some o
  new : ∀ a, a ∈ ι' → a ∈ ι ∨ H a = none
  snew : ∀ a, S' a ≠ none → S a ≠ none ∨ a ∈ ι ∨ H a = none
  there : ∀ a, a ∈ ι → H a ≠ none → H' a ≠ none

theorem Ext.refl : Ext S ι H S ι H := ⟨fun _ _ e => e, fun _ _ e => e, fun _ _ e _ => e, fun _ e => .inl e, fun _ e => .inl e, fun _ _ e => e⟩
theorem none_or {H : Hp} (a : Addr) : H a = none ∨ ∃ o, H a = some o := by
  cases H a with
  | none => exact .inl rfl
  | some o => exact .inr ⟨o, rfl⟩
theorem Ext.trans {S2 : Hp} {ι2 : List Addr} {H2 : Hp} (x : Ext S ι H S' ι' H') (y : Ext S' ι' H' S2 ι2 H2) : Ext S ι H S2 ι2 H2 := by
  refine ⟨fun a o e => y.sub _ _ (x.sub _ _ e), fun n a e => y.pre _ _ (x.pre _ _ e), fun a o e ne => ?_, fun a m => ?_, fun a m => ?_, fun a m e => ?_⟩
  · refine y.keep a o (x.keep a o e ne) fun m => ?_
    rcases x.new a m with q | q
    · exact ne q
    · rw [e] at q; cases q
  · rcases y.new a m with q | q
    · exact x.new a q
    · rcases none_or (H := H) a with e | ⟨o, e⟩
      · exact .inr e
      · by_cases k : a ∈ ι
        · exact .inl k
        · rw [x.keep a o e k] at q; cases q
  · rcases y.snew a m with q | q | q
    · exact x.snew a q
    · rcases x.new a q with z | z
      · exact .inr (.inl z)
      · exact .inr (.inr z)
    · rcases none_or (H := H) a with e | ⟨o, e⟩
      · exact .inr (.inr e)
      · by_cases k : a ∈ ι
        · exact .inr (.inl k)
        · rw [x.keep a o e k] at q; cases q
  · obtain ⟨n, hn⟩ := List.mem_iff_getElem?.mp m
    exact y.there a (List.mem_of_getElem? (x.pre n a hn)) (x.there a m e)
theorem RV.ext {S2 : Hp} {ι2 : List Addr} {d : D} {v : V} (r : RV K S ι d v) (x : Ext S ι H S2 ι2 H') : RV K S2 ι2 d v := r.up x.sub x.pre
theorem RVs.ext {S2 : Hp} {ι2 : List Addr} {d : List D} {v : List V} (r : RVs K S ι d v) (x : Ext S ι H S2 ι2 H') : RVs K S2 ι2 d v := r.up x.sub x.pre
theorem ERel.ext (r : ERel K S ι ρ σ) (x : Ext S ι H S' ι' H') : ERel K S' ι' ρ σ := ⟨r.1, fun i d e => let ⟨v, h1, h2⟩ := r.2 i d e; ⟨v, h1, h2.ext x⟩⟩

/-- an own exception: its class by name, what it carries -/
def XOk (K : PySem.W.Frag) (mg : Str → Option Value) (c : Str) (p : Option D) (cls : Value) (dd : Option Addr) (S : Hp) (ι : List Addr) : Prop :=
  (∃ C, mg c = some (.ref C) ∧ cls = .ref C) ∧ match p with
    | none => dd = none
    | some d => ∃ a f v, dd = some a ∧ S a = some (.xd [(f, v)]) ∧ RV K S ι d v

/-! ### what a reading is asked -/
def PostG {α : Type} (K : PySem.W.Frag) (mg : Str → Option Value) (W : WX) (S : Hp) (ι : List Addr) (H : Hp) (σ : L2.St) (k : α → Hs → Hp → List Addr → Hp → Prop) : R α → Prop
  | .ok a h' => ∀ S' ι' H', HRel K S' ι' h' H' → Ext S ι H S' ι' H' → k a h' S' ι' H'
  | .exc c p h' => ∀ cls dd S' ι' H', HRel K S' ι' h' H' → Ext S ι H S' ι' H' → XOk K mg c p cls dd S' ι' → W cls dd σ H'
  | .stuck => False
variable {mg : Str → Option Value} {W : WX}
theorem PostG.bind {α β : Type} {x : R α} {f : α → Hs → R β} {k : β → Hs → Hp → List Addr → Hp → Prop} (hp : PostG K mg W S ι H σ k (x.bind f)) :
    PostG K mg W S ι H σ (fun a h' S' ι' H' => PostG K mg W S' ι' H' σ k (f a h')) x := by
  cases x with
  | ok a h1 =>
    intro S' ι' H' hr ex
    have hp : PostG K mg W S ι H σ k (f a h1) := hp
    show PostG K mg W S' ι' H' σ k (f a h1)
    cases e : f a h1 with
    | ok b h2 => rw [e] at hp; exact fun S2 ι2 H2 hr2 ex2 => hp S2 ι2 H2 hr2 (ex.trans ex2)
    | exc c p h2 => rw [e] at hp; exact fun cls dd S2 ι2 H2 hr2 ex2 xo => hp cls dd S2 ι2 H2 hr2 (ex.trans ex2) xo
    | stuck => rw [e] at hp; exact hp
  | exc c p h1 => exact hp
  | stuck => exact hp
theorem PostG.imp {α : Type} {x : R α} {k k' : α → Hs → Hp → List Addr → Hp → Prop} (hp : PostG K mg W S ι H σ k x) (hk : ∀ a h' S' ι' H', HRel K S' ι' h' H' → Ext S ι H S' ι' H' → k a h' S' ι' H' → k' a h' S' ι' H') :
    PostG K mg W S ι H σ k' x := by
  cases x with
  | ok a h1 => exact fun S' ι' H' hr ex => hk _ _ _ _ _ hr ex (hp S' ι' H' hr ex)
  | exc c p h1 => exact hp
  | stuck => exact hp

def Post (K : PySem.W.Frag) (mg : Str → Option Value) (W : WX) (D' : Ends) (S : Hp) (ι : List Addr) (H : Hp) : Out → Prop
  | .nx ρ' h' => ∀ S' ι' σ' H', HRel K S' ι' h' H' → ERel K S' ι' ρ' σ' → Ext S ι H S' ι' H' → D'.nx σ' H'
  | .ret d h' => ∀ v S' ι' H', HRel K S' ι' h' H' → Ext S ι H S' ι' H' → RV K S' ι' d v → D'.rt v H'
  | .brk ρ' h' => ∀ S' ι' σ' H', HRel K S' ι' h' H' → ERel K S' ι' ρ' σ' → Ext S ι H S' ι' H' → D'.bk σ' H'
  | .cnt ρ' h' => ∀ S' ι' σ' H', HRel K S' ι' h' H' → ERel K S' ι' ρ' σ' → Ext S ι H S' ι' H' → D'.ct σ' H'
  | .exc c p ρ' h' => ∀ cls dd S' ι' σ' H', HRel K S' ι' h' H' → ERel K S' ι' ρ' σ' → Ext S ι H S' ι' H' → XOk K mg c p cls dd S' ι' → W cls dd σ' H'
  | .stuck => False
theorem Post.ext {D' : Ends} {o : Out} {S2 : Hp} {ι2 : List Addr} {H2 : Hp} (hp : Post K mg W D' S ι H o) (ex : Ext S ι H S2 ι2 H2) : Post K mg W D' S2 ι2 H2 o := by
  cases o with
  | nx ρ h => exact fun S' ι' σ' H' a b c => hp S' ι' σ' H' a b (ex.trans c)
  | ret d h => exact fun v S' ι' H' a c r => hp v S' ι' H' a (ex.trans c) r
  | brk ρ h => exact fun S' ι' σ' H' a b c => hp S' ι' σ' H' a b (ex.trans c)
  | cnt ρ h => exact fun S' ι' σ' H' a b c => hp S' ι' σ' H' a b (ex.trans c)
  | exc c p ρ h => exact fun cls dd S' ι' σ' H' a b c x => hp cls dd S' ι' σ' H' a b (ex.trans c) x
  | stuck => exact hp
/-- an expression, then the rest of a statement -/
theorem Post.go {α : Type} {D' : Ends} {x : R α} {f : α → Hs → Out} (he : ERel K S ι ρ σ) (hp : Post K mg W D' S ι H (x.go ρ f)) :
    PostG K mg W S ι H σ (fun a h' S' ι' H' => Post K mg W D' S' ι' H' (f a h')) x := by
  cases x with
  | ok a h1 => exact fun S' ι' H' hr ex => Post.ext hp ex
  | exc c p h1 => exact fun cls dd S' ι' H' hr ex xo => hp cls dd S' ι' σ H' hr (he.ext ex) ex xo
  | stuck => exact hp

/-- a reading does at least what the denotation says -/
def SE (K : PySem.W.Frag) (mg : Str → Option Value) (W : WX) (t : TE) (de : Env → Hs → R D) : Prop := ∀ ρ h S ι σ H Q, HRel K S ι h H → ERel K S ι ρ σ → PostG K mg W S ι H σ (fun d _ S' ι' H' => ∀ v, RV K S' ι' d v → Q v H') (de ρ h) → t σ H Q
def ST (K : PySem.W.Frag) (mg : Str → Option Value) (W : WX) (t : TT) (de : Env → Hs → R Bool) : Prop := ∀ ρ h S ι σ H Q, HRel K S ι h H → ERel K S ι ρ σ → PostG K mg W S ι H σ (fun k _ _ _ H' => Q k H') (de ρ h) → t σ H Q
def SA (K : PySem.W.Frag) (mg : Str → Option Value) (W : WX) (t : TA) (de : Env → Hs → R (List D)) : Prop := ∀ ρ h S ι σ H Q, HRel K S ι h H → ERel K S ι ρ σ → PostG K mg W S ι H σ (fun ds _ S' ι' H' => ∀ vs, RVs K S' ι' ds vs → Q vs H') (de ρ h) → t σ H Q
def SS (K : PySem.W.Frag) (mg : Str → Option Value) (W : WX) (t : TS) (ds : Env → Hs → Out) : Prop := ∀ ρ h S ι σ H D', HRel K S ι h H → ERel K S ι ρ σ → Post K mg W D' S ι H (ds ρ h) → t D' σ H
def SG (K : PySem.W.Frag) (mg : Str → Option Value) (W : WX) (t : TG) (dg : D → Env → Hs → Out) : Prop := ∀ d v ρ h S ι σ H Q, HRel K S ι h H → ERel K S ι ρ σ → RV K S ι d v →
  (match dg d ρ h with
    | .nx ρ' h' => ∀ S' ι' σ' H', HRel K S' ι' h' H' → ERel K S' ι' ρ' σ' → Ext S ι H S' ι' H' → Q σ' H'
    | .exc c p ρ' h' => ∀ cls dd S' ι' σ' H', HRel K S' ι' h' H' → ERel K S' ι' ρ' σ' → Ext S ι H S' ι' H' → XOk K mg c p cls dd S' ι' → W cls dd σ' H'
    | _ => False) → t v σ H Q

/-! ### a new object -/
theorem HRel.fz {p : Addr} {o : HO} (r : HRel K S ι h H) (hp : H p = none) : HRel K (upd S p o) ι h (upd H p o) := by
  have hs : S p = none := by
    cases e : S p with
    | none => rfl
    | some q => rw [r.sub _ _ e] at hp; cases hp
  have np : p ∉ ι := fun m => r.out p m hp
  have up : Sub S (upd S p o) := fun a q e => by rw [upd_ne (ne_of_none e hs)]; exact e
  refine ⟨r.len, r.nd, fun a q e => ?_, fun a m e => ?_, fun n a c ha hc => ?_⟩
  · by_cases k : a = p
    · subst k; rw [upd_same] at e ⊢; exact e
    · rw [upd_ne k] at e ⊢; exact r.sub _ _ e
  · have k : a ≠ p := fun e => np (e ▸ m)
    rw [upd_ne k] at e
    exact r.out a m e
  · have k : a ≠ p := fun e => np (e ▸ List.mem_of_getElem? ha)
    have := r.cell n a c ha hc
    cases c with
    | dead => trivial
    | obj cn fs =>
      obtain ⟨h1, dx, vs, h2, h3⟩ := this
      exact ⟨by rw [upd_ne k]; exact h1, dx, vs, by rw [upd_ne k]; exact h2, Paired.mapP h3 fun _ _ z => ⟨z.1, z.2.up up fun _ _ e => e⟩⟩
    | lst xs =>
      obtain ⟨h1, vs, h2, h3⟩ := this
      exact ⟨by rw [upd_ne k]; exact h1, vs, by rw [upd_ne k]; exact h2, h3.up up fun _ _ e => e⟩
    | dct t kvs =>
      cases t with
      | false =>
        obtain ⟨h1, vs, h2, h3⟩ := this
        exact ⟨by rw [upd_ne k]; exact h1, vs, by rw [upd_ne k]; exact h2, Paired.mapP h3 fun _ _ z => ⟨z.1, z.2.up up fun _ _ e => e⟩⟩
      | true =>
        obtain ⟨h1, vs, h2, h3⟩ := this
        exact ⟨by rw [upd_ne k]; exact h1, vs, by rw [upd_ne k]; exact h2, Paired.mapP h3 fun _ _ z => ⟨z.1, z.2.up up fun _ _ e => e⟩⟩
theorem Ext.fz {p : Addr} {o : HO} (r : HRel K S ι h H) (hp : H p = none) : Ext S ι H (upd S p o) ι (upd H p o) := by
  have hs : S p = none := by
    cases e : S p with
    | none => rfl
    | some q => rw [r.sub _ _ e] at hp; cases hp
  refine ⟨fun a q e => by rw [upd_ne (ne_of_none e hs)]; exact e, fun _ _ e => e, fun a q e _ => by rw [upd_ne (ne_of_none e hp)]; exact e, fun a m => .inl m, fun a e => ?_, fun a m e => ?_⟩
  · by_cases k : a = p
    · subst k; exact .inr (.inr hp)
    · rw [upd_ne k] at e; exact .inl e
  · by_cases k : a = p
    · subst k; rw [upd_same]; exact fun z => nomatch z
    · rw [upd_ne k]; exact e
theorem Hp.snone (r : HRel K S ι h H) {p : Addr} (hp : H p = none) : S p = none := by
  cases e : S p with
  | none => rfl
  | some q => rw [r.sub _ _ e] at hp; cases hp
theorem nd_ix {α : Type} : ∀ {l : List α} {i j : Nat} {x : α}, l.Nodup → l[i]? = some x → l[j]? = some x → i = j
  | [], i, _, _, _, e, _ => by simp at e
  | y :: l, 0, 0, _, _, _, _ => rfl
  | y :: l, 0, j + 1, x, nd, e, f => by
    simp at e; subst e
    exact absurd (List.mem_of_getElem? (by simpa using f)) (List.nodup_cons.mp nd).1
  | y :: l, i + 1, 0, x, nd, e, f => by
    simp at f; subst f
    exact absurd (List.mem_of_getElem? (by simpa using e)) (List.nodup_cons.mp nd).1
  | y :: l, i + 1, j + 1, x, nd, e, f => congrArg Nat.succ (nd_ix (List.nodup_cons.mp nd).2 (by simpa using e) (by simpa using f))
theorem idx_snoc {α : Type} {l : List α} {x : α} {n : Nat} {a : α} (e : (l ++ [x])[n]? = some a) : l[n]? = some a ∨ (n = l.length ∧ a = x) := by
  by_cases k : n < l.length
  · rw [List.getElem?_append_left k] at e; exact .inl e
  · rw [List.getElem?_append_right (by omega)] at e
    cases q : n - l.length with
    | zero => rw [q] at e; simp at e; exact .inr ⟨by omega, e.symm⟩
    | succ m => rw [q] at e; simp at e
theorem CellOk.up {a : Addr} {c : Cell} (x : CellOk K S ι H a c) (hS : Sub S S') (hι : ∀ (n : Nat) (a : Addr), ι[n]? = some a → ι'[n]? = some a) (hs : S a = none → S' a = none) (hH : ∀ o, H a = some o → H' a = some o) : CellOk K S' ι' H' a c := by
  cases c with
  | dead => trivial
  | obj cn fs =>
    obtain ⟨h1, dx, vs, h2, h3⟩ := x
    exact ⟨hs h1, dx, vs, hH _ h2, Paired.mapP h3 fun _ _ z => ⟨z.1, z.2.up hS hι⟩⟩
  | lst xs =>
    obtain ⟨h1, vs, h2, h3⟩ := x
    exact ⟨hs h1, vs, hH _ h2, h3.up hS hι⟩
  | dct t kvs =>
    cases t with
    | false =>
      obtain ⟨h1, vs, h2, h3⟩ := x
      exact ⟨hs h1, vs, hH _ h2, Paired.mapP h3 fun _ _ z => ⟨z.1, z.2.up hS hι⟩⟩
    | true =>
      obtain ⟨h1, vs, h2, h3⟩ := x
      exact ⟨hs h1, vs, hH _ h2, Paired.mapP h3 fun _ _ z => ⟨z.1, z.2.up hS hι⟩⟩
theorem pre_snoc {p : Addr} : ∀ (n : Nat) (a : Addr), ι[n]? = some a → (ι ++ [p])[n]? = some a := fun n a e => by
  have k : n < ι.length := (List.getElem?_eq_some_iff.mp e).1
  rw [List.getElem?_append_left k]; exact e
/-- a new cell -/
theorem HRel.cellNew {p : Addr} {o : HO} {c : Cell} (r : HRel K S ι h H) (hp : H p = none) (hc : CellOk K S (ι ++ [p]) (upd H p o) p c) : HRel K S (ι ++ [p]) (h ++ [c]) (upd H p o) := by
  have np : p ∉ ι := fun m => r.out p m hp
  refine ⟨by rw [List.length_append, List.length_append, r.len]; rfl, ?_, fun a q e => ?_, fun a m e => ?_, fun n a c' ha hc' => ?_⟩
  · rw [List.nodup_append]
    exact ⟨r.nd, by simp, fun a ha b hb => by simp at hb; subst hb; exact fun e => np (e ▸ ha)⟩
  · have k : a ≠ p := fun z => by subst z; rw [Hp.snone r hp] at e; cases e
    rw [upd_ne k]; exact r.sub _ _ e
  · by_cases k : a = p
    · subst k; rw [upd_same] at e; cases e
    · rw [upd_ne k] at e
      rcases List.mem_append.mp m with q | q
      · exact r.out a q e
      · simp at q; exact k q
  · rcases idx_snoc ha with q | ⟨q, z⟩
    · have k : a ≠ p := fun e => np (e ▸ List.mem_of_getElem? q)
      have hn : n < h.length := by rw [← r.len]; exact (List.getElem?_eq_some_iff.mp q).1
      rw [List.getElem?_append_left hn] at hc'
      exact (r.cell n a c' q hc').up (fun _ _ e => e) pre_snoc (fun e => e) fun o' e => by rw [upd_ne k]; exact e
    · subst z
      rw [q, r.len] at hc'
      simp at hc'
      subst hc'
      exact hc
theorem Ext.cellNew {p : Addr} {o : HO} (hp : H p = none) : Ext S ι H S (ι ++ [p]) (upd H p o) := by
  refine ⟨fun _ _ e => e, pre_snoc, fun a q e _ => by rw [upd_ne (ne_of_none e hp)]; exact e, fun a m => ?_, fun a e => .inl e, fun a m e => ?_⟩
  · rcases List.mem_append.mp m with q | q
    · exact .inl q
    · simp at q; subst q; exact .inr hp
  · by_cases k : a = p
    · subst k; rw [upd_same]; exact fun z => nomatch z
    · rw [upd_ne k]; exact e
/-- a cell is written -/
theorem HRel.write {n : Nat} {p : Addr} {o : HO} {c : Cell} (r : HRel K S ι h H) (hn : ι[n]? = some p) (hs : S p = none) (hc : CellOk K S ι (upd H p o) p c) : HRel K S ι (h.set n c) (upd H p o) := by
  refine ⟨by rw [List.length_set]; exact r.len, r.nd, fun a q e => ?_, fun a m e => ?_, fun m a c' ha hc' => ?_⟩
  · have k : a ≠ p := fun z => by subst z; rw [hs] at e; cases e
    rw [upd_ne k]; exact r.sub _ _ e
  · by_cases k : a = p
    · subst k; rw [upd_same] at e; cases e
    · rw [upd_ne k] at e; exact r.out a m e
  · by_cases k : m = n
    · subst k
      rw [ha] at hn; cases hn
      have hl : m < h.length := by rw [← r.len]; exact (List.getElem?_eq_some_iff.mp ha).1
      rw [List.getElem?_set_self hl] at hc'
      cases hc'
      exact hc
    · rw [List.getElem?_set_ne (Ne.symm k)] at hc'
      have ka : a ≠ p := fun z => by
        subst z
        obtain ⟨l1, e1⟩ := List.getElem?_eq_some_iff.mp ha
        obtain ⟨l2, e2⟩ := List.getElem?_eq_some_iff.mp hn
        exact k (nd_ix r.nd ha hn)
      exact (r.cell m a c' ha hc').up (fun _ _ e => e) (fun _ _ e => e) (fun e => e) fun o' e => by rw [upd_ne ka]; exact e
theorem Ext.write {n : Nat} {p : Addr} {o : HO} (hn : ι[n]? = some p) : Ext S ι H S ι (upd H p o) := by
  refine ⟨fun _ _ e => e, fun _ _ e => e, fun a q e ne => ?_, fun _ m => .inl m, fun _ e => .inl e, fun a m e => ?_⟩
  · have k : a ≠ p := fun z => ne (z ▸ List.mem_of_getElem? hn)
    rw [upd_ne k]; exact e
  · by_cases k : a = p
    · subst k; rw [upd_same]; exact fun z => nomatch z
    · rw [upd_ne k]; exact e
end
end Ev
/-! Ev, part D: operations on values. -/
namespace Ev
open PySem PySem.Spec PyProof.Rows L2

section
variable {K : PySem.W.Frag} {S S' : Hp} {ι ι' : List Addr} {H H' : Hp} {h h' : Hs} {ρ : Env} {σ : L2.St} {mg : Str → Option Value} {W : WX} {Q : VK}

abbrev KQ (K : PySem.W.Frag) (Q : VK) : D → Hs → Hp → List Addr → Hp → Prop := fun d _ S' ι' H' => ∀ v, RV K S' ι' d v → Q v H'

theorem line_of {n : Nat} (e : n ≤ LN) : n ≤ sizeLine := Nat.le_trans e LN_le
theorem seq_ok (r : HRel K S ι h H) {d : D} {v : V} (rv : RV K S ι d v) {xs : List D} {b : Bool} (e : seqOf h d = some (xs, b)) :
    ∃ a vs, v = .ref a ∧ RVs K S ι xs vs ∧ (b = true → SqL K H a vs) ∧ (b = false → SqT K H a vs) := by
  cases rv with
  | tup e1 r1 => cases e; exact ⟨_, _, rfl, r1, fun z => (by cases z), fun _ => SqT.of (r.sub _ _ e1)⟩
  | lst e1 r1 => cases e; exact ⟨_, _, rfl, r1, fun _ => SqL.of (r.sub _ _ e1), fun z => (by cases z)⟩
  | vw e1 r1 => cases e; exact ⟨_, _, rfl, r1, fun _ => SqL.up r.sub e1, fun z => (by cases z)⟩
  | vt e1 _ r1 => cases e; exact ⟨_, _, rfl, r1, fun z => (by cases z), fun _ => SqT.up r.sub (vtT e1)⟩
  | @ref n a en =>
    replace e : (match h[n]? with | some (Cell.lst xs) => some (xs, true) | _ => none) = some _ := e
    cases q : h[n]? with
    | none => rw [q] at e; cases e
    | some c =>
      rw [q] at e
      cases c with
      | dead => cases e
      | obj _ _ => cases e
      | dct t kvs => cases e
      | lst ys =>
        cases e
        obtain ⟨_, vs, h2, h3⟩ := r.cell n a _ en q
        exact ⟨a, vs, rfl, h3, fun _ => SqL.of h2, fun z => (by cases z)⟩
  | non => cases e
  | bl _ => cases e
  | int _ => cases e
  | str _ => cases e
theorem seq_lst (r : HRel K S ι h H) {d : D} {v : V} (rv : RV K S ι d v) {xs : List D} (nv : ∀ ys, d ≠ .vw ys) (e : seqOf h d = some (xs, true)) :
    ∃ a vs, v = .ref a ∧ RVs K S ι xs vs ∧ H a = some (.lst vs) := by
  cases rv with
  | tup e1 r1 => cases e
  | lst e1 r1 => cases e; exact ⟨_, _, rfl, r1, r.sub _ _ e1⟩
  | vw e1 r1 => exact absurd rfl (nv _)
  | vt e1 _ r1 => cases e
  | @ref n a en =>
    replace e : (match h[n]? with | some (Cell.lst xs) => some (xs, true) | _ => none) = some _ := e
    cases q : h[n]? with
    | none => rw [q] at e; cases e
    | some c =>
      rw [q] at e
      cases c with
      | dead => cases e
      | obj _ _ => cases e
      | dct t kvs => cases e
      | lst ys =>
        cases e
        obtain ⟨_, vs, h2, h3⟩ := r.cell n a _ en q
        exact ⟨a, vs, rfl, h3, h2⟩
  | non => cases e
  | bl _ => cases e
  | int _ => cases e
  | str _ => cases e
/-- a new list -/
theorem newL_post (r : HRel K S ι h H) {fz : Bool} {ds : List D} {vs : List V} (rs : RVs K S ι ds vs) (hp : PostG K mg W S ι H σ (KQ K Q) (newL fz ds h)) :
    vs.length ≤ sizeLine ∧ ∀ p, H p = none → Q (.ref p) (upd H p (.lst vs)) := by
  unfold newL at hp
  by_cases z : ds.length ≤ LN
  · rw [if_pos z] at hp
    refine ⟨by rw [← rs.length]; exact line_of z, fun p hn => ?_⟩
    cases fz with
    | true =>
      have ex := Ext.fz (o := .lst vs) r hn
      exact hp _ _ _ (r.fz hn) ex _ (.lst upd_same (rs.ext ex))
    | false =>
      have ex : Ext S ι H S (ι ++ [p]) (upd H p (.lst vs)) := Ext.cellNew hn
      refine hp _ _ _ (r.cellNew hn ⟨Hp.snone r hn, vs, upd_same, rs.ext ex⟩) ex _ (.ref ?_)
      rw [← r.len]; simp
  · rw [if_neg z] at hp; exact hp.elim
theorem tup_post (r : HRel K S ι h H) {ds : List D} {vs : List V} (rs : RVs K S ι ds vs) (hp : PostG K mg W S ι H σ (KQ K Q) (.ok (.tup ds) h)) {p : Addr} (hn : H p = none) : Q (.ref p) (upd H p (.tup vs)) := by
  have ex := Ext.fz (o := .tup vs) r hn
  exact hp _ _ _ (r.fz hn) ex _ (.tup upd_same (rs.ext ex))
theorem flat_post (r : HRel K S ι h H) {d : D} {v : V} (rv : RV K S ι d v) (hp : PostG K mg W S ι H σ (KQ K Q) (.ok d h)) : Q v H := hp _ _ _ r Ext.refl _ rv

/-! ### two-place operations -/
def BOp.op : BOp → Operator
  | .add => .Add | .sub => .Sub | .mul => .Mult | .fdiv => .FloorDiv | .mod => .Mod | .pow => .Pow
def rAddS : R2 := fun x y H Q => ∃ i j, x = .str i ∧ y = .str j ∧ i.length + j.length ≤ sizeLine ∧ Q (.str (i ++ j)) H
def rBin (K : PySem.W.Frag) : BOp → R2
  | .add => fun x y H Q => rI0 (fun i j => .int (i + j)) x y H Q ∨ rAddS x y H Q ∨ rCatT K x y H Q ∨ rCat x y H Q
  | .sub => rI0 fun i j => .int (i - j)
  | .mul => fun x y H Q => rI CMul (fun i j => .int (i * j)) x y H Q ∨ rI CMulW (fun i j => .int (i * j)) x y H Q ∨ rRep x y H Q
  | .fdiv => fun x y H Q => rI CDiv (fun i j => .int (i / j)) x y H Q ∨ rI CDivW (fun i j => .int (i / j)) x y H Q
  | .mod => rI (fun _ j => 0 < j) fun i j => .int (i % j)
  | .pow => rI CPow fun i j => .int (i ^ j.toNat)
theorem bin_op {X : Cx} (o : BOp) : OpR X (binaryOp o.op) (rBin X.K o) := by
  cases o with
  | add => exact op_add.or (op_add_str.or (op_catT.or op_cat))
  | sub => exact op_sub
  | mul => exact op_mul.or (op_mulW.or op_rep)
  | fdiv => exact op_fdiv.or op_fdivW
  | mod => exact op_mod
  | pow => exact op_pow
theorem bin_sound (o : BOp) (fz : Bool) (r : HRel K S ι h H) {d e : D} {x y : V} (rx : RV K S ι d x) (ry : RV K S ι e y) (hp : PostG K mg W S ι H σ (KQ K Q) (binD o fz d e h)) : rBin K o x y H Q := by
  unfold binD at hp
  split at hp
  · cases rx; cases ry
    exact .inl ⟨_, _, rfl, rfl, flat_post r (.int _) hp⟩
  · cases rx; cases ry
    exact ⟨_, _, rfl, rfl, flat_post r (.int _) hp⟩
  · cases rx; cases ry
    split at hp
    · rename_i hc
      rcases hc with hc | hc | hc
      · exact .inl ⟨_, _, rfl, rfl, .inl hc, flat_post r (.int _) hp⟩
      · exact .inl ⟨_, _, rfl, rfl, .inr hc, flat_post r (.int _) hp⟩
      · exact .inr (.inl ⟨_, _, rfl, rfl, hc, flat_post r (.int _) hp⟩)
    · exact hp.elim
  · cases rx; cases ry
    split at hp
    · rename_i hc
      rcases hc with ⟨h0, hc | hc⟩
      · exact .inl ⟨_, _, rfl, rfl, ⟨h0, hc⟩, flat_post r (.int _) hp⟩
      · exact .inr ⟨_, _, rfl, rfl, ⟨h0, hc⟩, flat_post r (.int _) hp⟩
    · exact hp.elim
  · cases rx; cases ry
    split at hp
    · rename_i hc
      exact ⟨_, _, rfl, rfl, hc, flat_post r (.int _) hp⟩
    · exact hp.elim
  · cases rx; cases ry
    split at hp
    · rename_i hc
      exact ⟨_, _, rfl, rfl, ⟨hc.1, by omega, hc.2.2⟩, flat_post r (.int _) hp⟩
    · exact hp.elim
  · cases rx; cases ry
    split at hp
    · rename_i hc
      exact .inr (.inl ⟨_, _, rfl, rfl, line_of hc, flat_post r (.str _) hp⟩)
    · exact hp.elim
  · cases rx with
    | tup e1 r1 => cases ry with
      | tup e2 r2 =>
        split at hp
        · rename_i hc
          refine .inr (.inr (.inl ⟨_, _, _, _, rfl, rfl, SqT.of (r.sub _ _ e1), SqT.of (r.sub _ _ e2), fun z => hc.2 (r1.nil_iff.mpr z), by rw [← r1.length, ← r2.length]; exact line_of hc.1, fun z => ?_, fun z p hn => ?_⟩))
          · split at hp
            · exact flat_post r (.tup e1 r1) hp
            · rename_i hne
              exact absurd (r2.nil_iff.mpr z) (by intro q; exact hne q)
          · split at hp
            · exact absurd (r2.nil_iff.mp rfl) z
            · exact tup_post r (r1.append r2) hp hn
        · exact hp.elim
  · split at hp
    · exact hp.elim
    · exact hp.elim
    · rename_i n1 n2 e1 e2 _ _ _
      obtain ⟨a, vs, rfl, r1, h1⟩ := seq_lst r rx (fun ys => n1 ys) e1
      obtain ⟨b, us, rfl, r2, h2⟩ := seq_lst r ry (fun ys => n2 ys) e2
      obtain ⟨z, q⟩ := newL_post r (r1.append r2) hp
      rw [List.length_append] at z
      exact .inr (.inr (.inr ⟨_, _, _, _, rfl, rfl, h1, h2, z, q⟩))
    · exact hp.elim
  · split at hp
    · exact hp.elim
    · rename_i k _ _ _ _ n1 _ e1
      cases ry
      split at hp
      · rename_i hk
        obtain ⟨a, vs, rfl, r1, h1⟩ := seq_lst r rx (fun ys => n1 ys) e1
        obtain ⟨z, q⟩ := newL_post r (r1.rep _) hp
        have hl : (List.replicate (Int.toNat k) vs).flatten.length = Int.toNat k * vs.length := by simp
        refine .inr (.inr ⟨_, _, _, rfl, rfl, h1, ?_, ?_, ?_, q⟩)
        · have := hk.1; unfold LN at this; omega
        · have := hk.2; unfold LN at this; omega
        · rw [hl] at z; rw [Nat.mul_comm]; exact z
      · exact hp.elim
    · exact hp.elim
  · exact hp.elim

/-! ### data, equality -/
mutual
theorem py_ok (hs : Sub S H) : ∀ {d : D} {v : V} {z : PyData}, RV K S ι d v → d.py = some z → Dp K H v z
  | _, _, _, .non, e => by cases e; exact .non
  | _, _, _, .bl b, e => by cases e; exact .bl b
  | _, _, _, .int i, e => by cases e; exact .int i
  | _, _, _, .str s, e => by cases e; exact .str s
  | .tup ds, _, z, .tup e1 r, e => by
    unfold D.py at e
    cases q : D.pys ds with
    | none => rw [q] at e; cases e
    | some zs => rw [q] at e; cases e; exact .tup (SqT.of (hs _ _ e1)) (pys_ok hs r q)
  | .lst ds, _, z, .lst e1 r, e => by
    unfold D.py at e
    cases q : D.pys ds with
    | none => rw [q] at e; cases e
    | some zs => rw [q] at e; cases e; exact .lst (SqL.of (hs _ _ e1)) (pys_ok hs r q)
  | .vw ds, _, z, .vw e1 r, e => by
    unfold D.py at e
    cases q : D.pys ds with
    | none => rw [q] at e; cases e
    | some zs => rw [q] at e; cases e; exact .lst (SqL.up hs e1) (pys_ok hs r q)
  | .vt ds, _, z, .vt e1 _ r, e => by
    unfold D.py at e
    cases q : D.pys ds with
    | none => rw [q] at e; cases e
    | some zs => rw [q] at e; cases e; exact .tup (SqT.up hs (vtT e1)) (pys_ok hs r q)
  | .ref n, _, z, .ref e1, e => by cases e
theorem pys_ok (hs : Sub S H) : ∀ {ds : List D} {vs : List V} {zs : List PyData}, RVs K S ι ds vs → D.pys ds = some zs → DpAll K H vs zs
  | _, _, _, .nil, e => by cases e; exact .nil
  | d :: ds, _, zs, .cons r t, e => by
    unfold D.pys at e
    cases q : d.py with
    | none => rw [q] at e; cases e
    | some z =>
      cases q2 : D.pys ds with
      | none => rw [q, q2] at e; cases e
      | some zz => rw [q, q2] at e; cases e; exact .cons (py_ok hs r q) (pys_ok hs t q2)
end
theorem pyH_ok (r : HRel K S ι h H) {d : D} {v : V} {z : PyData} (rv : RV K S ι d v) (e : d.pyH h = some z) : Dp K H v z := by
  cases d with
  | ref n =>
    cases rv with
    | @ref _ a en =>
      replace e : (match h[n]? with | some (Cell.lst xs) => (D.pys xs).map PyData.list | _ => none) = some z := e
      cases q : h[n]? with
      | none => rw [q] at e; cases e
      | some c =>
        rw [q] at e
        cases c with
        | dead => cases e
        | obj _ _ => cases e
        | dct t kvs => cases e
        | lst ys =>
          replace e : (D.pys ys).map PyData.list = some z := e
          cases q2 : D.pys ys with
          | none => rw [q2] at e; cases e
          | some zs =>
            rw [q2] at e; cases e
            obtain ⟨_, vs, h2, h3⟩ := r.cell n a _ en q
            exact .lst (SqL.of h2) (pys_ok r.sub h3 q2)
  | non => exact py_ok r.sub rv e
  | bl _ => exact py_ok r.sub rv e
  | int _ => exact py_ok r.sub rv e
  | str _ => exact py_ok r.sub rv e
  | tup _ => exact py_ok r.sub rv e
  | lst _ => exact py_ok r.sub rv e
  | vw _ => exact py_ok r.sub rv e
  | vt _ => exact py_ok r.sub rv e

/-! ### keys -/
theorem key1_ok {d : D} {v : V} {k : Key} (rv : RV K S ι d v) (e : keyOf1 d = some k) : v = kV k := by
  cases rv <;> cases e <;> rfl
theorem keys_ok : ∀ {ds : List D} {vs : List V} {ks : List Key}, RVs K S ι ds vs → keysOf ds = some ks → vs = ks.map kV
  | _, _, _, .nil, e => by cases e; rfl
  | d :: ds, _, ks, .cons r t, e => by
    unfold keysOf at e
    cases q : keyOf1 d with
    | none => rw [q] at e; cases e
    | some z =>
      cases q2 : keysOf ds with
      | none => rw [q, q2] at e; cases e
      | some zz => rw [q, q2] at e; cases e; rw [key1_ok r q, keys_ok t q2]; rfl
theorem dget_k {kvs : List (DKey × D)} {kv : List (Key × V)} (r : Paired (fun (p : DKey × D) (q : Key × V) => p.1 = .inl q.1 ∧ RV K S ι p.2 q.2) kvs kv) (k : Key) :
    match dget kvs (.inl k) with
      | some d => ∃ v, valV kv k = some v ∧ RV K S ι d v
      | none => valV kv k = none := by
  induction r with
  | nil => rfl
  | @cons p q kvs kv hpq _ ih =>
    obtain ⟨e, rv⟩ := hpq
    by_cases z : q.1 = k
    · have e1 : dget (p :: kvs) (.inl k) = some p.2 := by simp [dget, List.find?_cons, e, z]
      rw [e1, valV_pos z]
      exact ⟨_, rfl, rv⟩
    · have e1 : dget (p :: kvs) (.inl k) = dget kvs (.inl k) := by simp [dget, List.find?_cons, e, z]
      rw [e1, valV_neg z]
      exact ih
theorem dget_t {kvs : List (DKey × D)} {kv : List (List Key × V)} (r : Paired (fun (p : DKey × D) (q : List Key × V) => p.1 = .inr q.1 ∧ RV K S ι p.2 q.2) kvs kv) (k : List Key) :
    match dget kvs (.inr k) with
      | some d => ∃ v, valV kv k = some v ∧ RV K S ι d v
      | none => valV kv k = none := by
  induction r with
  | nil => rfl
  | @cons p q kvs kv hpq _ ih =>
    obtain ⟨e, rv⟩ := hpq
    by_cases z : q.1 = k
    · have e1 : dget (p :: kvs) (.inr k) = some p.2 := by simp [dget, List.find?_cons, e, z]
      rw [e1, valV_pos z]
      exact ⟨_, rfl, rv⟩
    · have e1 : dget (p :: kvs) (.inr k) = dget kvs (.inr k) := by simp [dget, List.find?_cons, e, z]
      rw [e1, valV_neg z]
      exact ih
/-- reading a dict in a cell -/
theorem dct_get (r : HRel K S ι h H) {d i : D} {v y : V} (rv : RV K S ι d v) (ri : RV K S ι i y) {t : Bool} {kvs : List (DKey × D)} {k : DKey} (e : dctOf h d = some (t, kvs)) (ek : keyOf i = some k) (hk : isT k = t) :
    ∃ a o, v = .ref a ∧ DGet H a y o ∧ (match dget kvs k with | some d => ∃ w, o = some w ∧ RV K S ι d w | none => o = none) := by
  cases d with
  | ref n =>
    cases rv with
    | @ref _ a en =>
      replace e : (match h[n]? with | some (Cell.dct t kvs) => some (t, kvs) | _ => none) = some (t, kvs) := e
      cases q : h[n]? with
      | none => rw [q] at e; cases e
      | some c =>
        rw [q] at e
        cases c with
        | dead => cases e
        | obj _ _ => cases e
        | lst _ => cases e
        | dct t' kvs' =>
          cases e
          have hc := r.cell n a _ en q
          cases t with
          | false =>
            obtain ⟨_, kv, h2, h3⟩ := hc
            cases k with
            | inr _ => cases hk
            | inl k =>
              refine ⟨a, valV kv k, rfl, ?_, ?_⟩
              · cases i with
                | int i => cases ek; cases ri; exact DGet.k (k := Sum.inl i) h2
                | str i => cases ek; cases ri; exact DGet.k (k := Sum.inr i) h2
                | tup xs =>
                  replace ek : (keysOf xs).map Sum.inr = some _ := ek
                  cases q2 : keysOf xs with
                  | none => rw [q2] at ek; cases ek
                  | some _ => rw [q2] at ek; cases ek
                | _ => cases ek
              · have := dget_k h3 k
                cases q2 : dget kvs (.inl k) with
                | none => rw [q2] at this; exact this
                | some d => rw [q2] at this; exact this
          | true =>
            obtain ⟨_, kv, h2, h3⟩ := hc
            cases k with
            | inl _ => cases hk
            | inr k =>
              refine ⟨a, valV kv k, rfl, ?_, ?_⟩
              · cases i with
                | int i => cases ek
                | str i => cases ek
                | tup xs =>
                  replace ek : (keysOf xs).map Sum.inr = some _ := ek
                  cases q2 : keysOf xs with
                  | none => rw [q2] at ek; cases ek
                  | some ks =>
                    rw [q2] at ek; cases ek
                    cases ri with
                    | tup e1 r1 =>
                      have e2 := keys_ok r1 q2
                      subst e2
                      exact DGet.t h2 (r.sub _ _ e1)
                | _ => cases ek
              · have := dget_t h3 k
                cases q2 : dget kvs (.inr k) with
                | none => rw [q2] at this; exact this
                | some d => rw [q2] at this; exact this
  | _ => cases e

/-! ### comparisons -/
def COp.op : COp → CmpOp
  | .eq => .Eq | .ne => .NotEq | .lt => .Lt | .le => .LtE | .gt => .Gt | .ge => .GtE | .is => .Is | .isnot => .IsNot | .isin => .In | .notin => .NotIn
def rInDct (n : Bool) : R2 := fun x y H Q => ∃ a o, y = .ref a ∧ DGet H a x o ∧ Q (.bl (if n then !o.isSome else o.isSome)) H
def rInStr (n : Bool) : R2 := fun x y H Q => ∃ i j, x = .str i ∧ y = .str j ∧ Q (.bl (if n then !(!(Builtin.Str.occurrences j i 0 j.length 1).isEmpty) else (!(Builtin.Str.occurrences j i 0 j.length 1).isEmpty))) H
def rInDN (K : PySem.W.Frag) (n : Bool) : R2 := fun x y H Q => ∃ d ds, Dp K H x d ∧ Dp K H y (.list ds) ∧ SeqAt.shaped d = true ∧ SeqAt.shaped (.list ds) = true ∧ Q (.bl (if n then !ds.any (fun z => PyData.eqv z d) else ds.any fun z => PyData.eqv z d)) H
def rInAll (K : PySem.W.Frag) (n : Bool) : R2 := fun x y H Q => rInDct n x y H Q ∨ rInStr n x y H Q ∨ rIn K n x y H Q ∨ rInDN K n x y H Q
def rCmp (K : PySem.W.Frag) : COp → R2
  | .eq => fun x y H Q => rEq x y H Q ∨ rEqD K x y H Q
  | .ne => fun x y H Q => rNe x y H Q ∨ rNeD K x y H Q
  | .lt => rI0 fun i j => .bl (decide (i < j))
  | .le => rI0 fun i j => .bl (decide (i ≤ j))
  | .gt => rI0 fun i j => .bl (decide (j < i))
  | .ge => rI0 fun i j => .bl (decide (j ≤ i))
  | .is => fun x y H Q => (y = .non ∧ Q (.bl (decide (x = .non))) H) ∨ rIsB x y H Q
  | .isnot => fun x y H Q => (y = .non ∧ Q (.bl (!decide (x = .non))) H) ∨ rNotB x y H Q
  | .isin => rInAll K false
  | .notin => rInAll K true
section
variable {X : Cx}
theorem op_in_dct (hu : X.A.units + 1 < cLine) : OpR X (compareOp .In) (rInDct false) := by
  intro pins s σ H x y v u Q I rx ry ⟨a, o, e, g, q⟩
  subst e
  cases ry
  exact d_in hu I g rx fun s' I' => ⟨.bl o.isSome, H, I', rfl, q⟩
theorem op_notin_dct (hu : X.A.units + 1 < cLine) : OpR X (compareOp .NotIn) (rInDct true) := by
  intro pins s σ H x y v u Q I rx ry ⟨a, o, e, g, q⟩
  subst e
  cases ry
  exact d_notIn hu I g rx fun s' I' => ⟨.bl (!o.isSome), H, I', rfl, q⟩
theorem cmp_op (hu : X.A.units + 65 < cLine) (o : COp) : OpR X (compareOp o.op) (rCmp X.K o) := by
  cases o with
  | eq => exact op_eq.or (op_eqD (by omega))
  | ne => exact op_ne.or (op_neD (by omega))
  | lt => exact op_lt
  | le => exact op_le
  | gt => exact op_gt
  | ge => exact op_ge
  | is => exact op_isN.or op_isBl
  | isnot => exact op_notN.or op_notBl
  | isin => exact (op_in_dct (by omega)).or (op_in_str.or (op_in_seq.or (op_inD hu)))
  | notin => exact (op_notin_dct (by omega)).or (op_notin_str.or (op_notIn_seq.or (op_notInD hu)))
end
theorem flat_ok {d : D} {v : V} (rv : RV K S ι d v) (e : d.flat = true) : flatV v = true := by
  cases rv <;> first | rfl | cases e
theorem flats_ok : ∀ {ds : List D} {vs : List V}, RVs K S ι ds vs → ds.all D.flat = true → vs.all flatV = true
  | _, _, .nil, _ => rfl
  | _, _, .cons r t, e => by
    rw [List.all_cons, Bool.and_eq_true] at e ⊢
    exact ⟨flat_ok r e.1, flats_ok t e.2⟩
theorem flat_eq {a y : D} {v u : V} (ra : RV K S ι a v) (ry : RV K S ι y u) (ha : a.flat = true) (hy : y.flat = true) : flatEq y a = eqV u v := by
  cases ra <;> first | (cases ha; done) | (cases ry <;> first | (cases hy; done) | rfl)
theorem flat_any {a : D} {v : V} (ra : RV K S ι a v) (ha : a.flat = true) : ∀ {ds : List D} {vs : List V}, RVs K S ι ds vs → ds.all D.flat = true → (ds.any fun y => flatEq y a) = inV v vs
  | _, _, .nil, _ => rfl
  | _, _, .cons r t, e => by
    rw [List.all_cons, Bool.and_eq_true] at e
    unfold inV
    rw [List.any_cons, List.any_cons, flat_eq ra r ha e.1, flat_any ra ha t e.2]
    rfl
theorem in_sound (n : Bool) (r : HRel K S ι h H) {d e : D} {x y : V} (rx : RV K S ι d x) (ry : RV K S ι e y)
    (hp : PostG K mg W S ι H σ (KQ K Q) ((cmpD.inD d e h).bind fun d h => match d with | .bl c => .ok (.bl (if n then !c else c)) h | _ => .stuck)) : rInAll K n x y H Q := by
  unfold cmpD.inD at hp
  split at hp
  · rename_i t kvs e1
    split at hp
    · rename_i k e2
      split at hp
      · rename_i hk
        obtain ⟨a, o, rfl, g, q⟩ := dct_get r ry rx e1 e2 hk
        refine .inl ⟨a, o, rfl, g, ?_⟩
        have : o.isSome = (dget kvs k).isSome := by
          cases z : dget kvs k with
          | none => rw [z] at q; rw [q]; rfl
          | some d => rw [z] at q; obtain ⟨w, e, _⟩ := q; rw [e]; rfl
        rw [this]
        exact flat_post r (.bl _) hp
      · exact hp.elim
    · exact hp.elim
  · split at hp
    · cases rx; cases ry
      exact .inr (.inl ⟨_, _, rfl, rfl, flat_post r (.bl _) hp⟩)
    · split at hp
      · rename_i ys isl e1
        obtain ⟨a, vs, rfl, r1, hl, ht⟩ := seq_ok r ry e1
        split at hp
        · rename_i hf
          rw [Bool.and_eq_true] at hf
          refine .inr (.inr (.inl ⟨a, vs, rfl, ?_, flat_ok rx hf.1, flats_ok r1 hf.2, ?_⟩))
          · cases isl with
            | true => exact .inl (hl rfl)
            | false => exact .inr (ht rfl)
          · have q := flat_post r (.bl _) hp
            rw [flat_any rx hf.1 r1 hf.2] at q
            exact q
        · split at hp
          · rename_i x' zs e2 e3
            split at hp
            · rename_i hf
              rw [Bool.and_eq_true, Bool.and_eq_true] at hf
              refine .inr (.inr (.inr ⟨x', zs, py_ok r.sub rx e2, .lst (hl hf.1.1) (pys_ok r.sub r1 e3), hf.1.2, hf.2, ?_⟩))
              exact flat_post r (.bl _) hp
            · exact hp.elim
          · exact hp.elim
      · exact hp.elim
theorem strEq_some {d e : D} {k : Bool} (h : strEq d e = some k) : ∃ i j, d = .str i ∧ e = .str j ∧ k = (i == j) := by
  cases d <;> cases e <;> first
    | (cases h; exact ⟨_, _, rfl, rfl, rfl⟩)
    | cases h
theorem cmp_sound (o : COp) (r : HRel K S ι h H) {d e : D} {x y : V} (rx : RV K S ι d x) (ry : RV K S ι e y) (hp : PostG K mg W S ι H σ (KQ K Q) (cmpD o d e h)) : rCmp K o x y H Q := by
  cases o with
  | eq =>
    unfold cmpD at hp
    dsimp only at hp
    split at hp
    · rename_i k e0
      obtain ⟨i, j, rfl, rfl, rfl⟩ := strEq_some e0
      cases rx
      cases ry
      exact .inl ⟨rfl, by rw [dec_str]; exact flat_post r (.bl _) hp⟩
    · split at hp
      · rename_i a b e1 e2
        split at hp
        · rename_i hf
          rw [Bool.and_eq_true] at hf
          exact .inr ⟨a, b, pyH_ok r rx e1, pyH_ok r ry e2, hf.1, hf.2, flat_post r (.bl _) hp⟩
        · exact hp.elim
      · exact hp.elim
  | ne =>
    unfold cmpD at hp
    dsimp only at hp
    split at hp
    · rename_i k e0
      obtain ⟨i, j, rfl, rfl, rfl⟩ := strEq_some e0
      cases rx
      cases ry
      exact .inl ⟨rfl, by rw [dec_str]; exact flat_post r (.bl _) hp⟩
    · split at hp
      · rename_i a b e1 e2
        split at hp
        · rename_i hf
          rw [Bool.and_eq_true] at hf
          exact .inr ⟨a, b, pyH_ok r rx e1, pyH_ok r ry e2, hf.1, hf.2, flat_post r (.bl _) hp⟩
        · exact hp.elim
      · exact hp.elim
  | lt => unfold cmpD at hp; dsimp only at hp; split at hp; (cases rx; cases ry; exact ⟨_, _, rfl, rfl, flat_post r (.bl _) hp⟩); exact hp.elim
  | le => unfold cmpD at hp; dsimp only at hp; split at hp; (cases rx; cases ry; exact ⟨_, _, rfl, rfl, flat_post r (.bl _) hp⟩); exact hp.elim
  | gt => unfold cmpD at hp; dsimp only at hp; split at hp; (cases rx; cases ry; exact ⟨_, _, rfl, rfl, flat_post r (.bl _) hp⟩); exact hp.elim
  | ge => unfold cmpD at hp; dsimp only at hp; split at hp; (cases rx; cases ry; exact ⟨_, _, rfl, rfl, flat_post r (.bl _) hp⟩); exact hp.elim
  | is =>
    unfold cmpD at hp; dsimp only at hp
    split at hp
    · cases ry
      refine .inl ⟨rfl, ?_⟩
      have q := flat_post r (.bl _) hp
      cases rx <;> exact q
    · split at hp
      · cases ry
        cases rx
        exact .inr ⟨_, _, rfl, rfl, flat_post r (.bl _) hp⟩
      · exact hp.elim
    · exact hp.elim
  | isnot =>
    unfold cmpD at hp; dsimp only at hp
    split at hp
    · cases ry
      refine .inl ⟨rfl, ?_⟩
      have q := flat_post r (.bl _) hp
      cases rx <;> exact q
    · split at hp
      · cases ry
        cases rx
        exact .inr ⟨_, _, rfl, rfl, flat_post r (.bl _) hp⟩
      · exact hp.elim
    · exact hp.elim
  | isin =>
    refine in_sound false r rx ry (mg := mg) (W := W) (σ := σ) ?_
    unfold cmpD at hp; exact hp
  | notin =>
    refine in_sound true r rx ry (mg := mg) (W := W) (σ := σ) ?_
    unfold cmpD at hp; exact hp

/-! ### truth -/
theorem empty_eq {xs : List D} {vs : List V} (r : RVs K S ι xs vs) : xs.isEmpty = vs.isEmpty := by
  cases r <;> rfl
theorem tru_sound (r : HRel K S ι h H) {d : D} {v : V} (rv : RV K S ι d v) {k : Bool} (e : truD h d = some k) : TruV K v H k := by
  cases d with
  | non => cases e; cases rv; rfl
  | bl b => cases e; cases rv; rfl
  | int i => cases e; cases rv; rfl
  | str y =>
    unfold truD at e
    dsimp only at e
    split at e
    · rename_i hl; cases e; cases rv; exact ⟨line_of hl, rfl⟩
    · cases e
  | tup xs =>
    cases e; cases rv with
    | tup e1 r1 => rw [empty_eq r1]; exact .inr (.inl ⟨_, SqT.of (r.sub _ _ e1), rfl⟩)
  | lst xs =>
    cases e; cases rv with
    | lst e1 r1 => rw [empty_eq r1]; exact .inl ⟨_, SqL.of (r.sub _ _ e1), rfl⟩
  | vw xs =>
    cases e; cases rv with
    | vw e1 r1 => rw [empty_eq r1]; exact .inl ⟨_, SqL.up r.sub e1, rfl⟩
  | vt xs =>
    cases e; cases rv with
    | vt e1 _ r1 => rw [empty_eq r1]; exact .inr (.inl ⟨_, SqT.up r.sub (vtT e1), rfl⟩)
  | ref n =>
    cases rv with
    | @ref _ a en =>
      replace e : (match seqOf h (.ref n) with | some (xs, _) => some (!xs.isEmpty) | none => match dctOf h (.ref n) with | some (false, kvs) => some (!kvs.isEmpty) | _ => none) = some k := e
      cases q : h[n]? with
      | none =>
        have e1 : seqOf h (.ref n) = none := by show (match h[n]? with | some (Cell.lst xs) => some (xs, true) | _ => none) = none; rw [q]
        have e2 : dctOf h (.ref n) = none := by show (match h[n]? with | some (Cell.dct t kvs) => some (t, kvs) | _ => none) = none; rw [q]
        rw [e1, e2] at e; cases e
      | some c =>
        have hc := r.cell n a c en q
        cases c with
        | dead =>
          have e1 : seqOf h (.ref n) = none := by show (match h[n]? with | some (Cell.lst xs) => some (xs, true) | _ => none) = none; rw [q]
          have e2 : dctOf h (.ref n) = none := by show (match h[n]? with | some (Cell.dct t kvs) => some (t, kvs) | _ => none) = none; rw [q]
          rw [e1, e2] at e; cases e
        | obj _ _ =>
          have e1 : seqOf h (.ref n) = none := by show (match h[n]? with | some (Cell.lst xs) => some (xs, true) | _ => none) = none; rw [q]
          have e2 : dctOf h (.ref n) = none := by show (match h[n]? with | some (Cell.dct t kvs) => some (t, kvs) | _ => none) = none; rw [q]
          rw [e1, e2] at e; cases e
        | lst xs =>
          have e1 : seqOf h (.ref n) = some (xs, true) := by show (match h[n]? with | some (Cell.lst xs) => some (xs, true) | _ => none) = _; rw [q]
          rw [e1] at e; cases e
          obtain ⟨_, vs, h2, h3⟩ := hc
          rw [empty_eq h3]
          exact .inl ⟨_, SqL.of h2, rfl⟩
        | dct t kvs =>
          have e1 : seqOf h (.ref n) = none := by show (match h[n]? with | some (Cell.lst xs) => some (xs, true) | _ => none) = none; rw [q]
          have e2 : dctOf h (.ref n) = some (t, kvs) := by show (match h[n]? with | some (Cell.dct t kvs) => some (t, kvs) | _ => none) = _; rw [q]
          rw [e1, e2] at e
          cases t with
          | true => cases e
          | false =>
            cases e
            obtain ⟨_, kv, h2, h3⟩ := hc
            refine .inr (.inr ⟨kv, h2, ?_⟩)
            cases h3 <;> rfl

/-! ### items, slices -/
theorem ixN_at {xs : List D} {vs : List V} (r : RVs K S ι xs vs) {i : Int} {d : D} (e : atI xs i = some d) : ∃ v, atI vs i = some v ∧ RV K S ι d v := by
  unfold atI at e ⊢
  rw [← r.length]
  cases q : ixN xs.length i with
  | none => rw [q] at e; cases e
  | some j => rw [q] at e; exact r.get e
def rIdx (K : PySem.W.Frag) : R2 := fun x y H Q => (∃ a v, x = .ref a ∧ DGet H a y (some v) ∧ Q v H) ∨ rIx K x y H Q
theorem ix_dct {X : Cx} (hu : X.A.units + 1 < cLine) : IxR X (fun x y H Q => ∃ a v, x = .ref a ∧ DGet H a y (some v) ∧ Q v H) := by
  intro value slice pins s σ H x y v u Q I rx ry ⟨a, w, e, g, q⟩ hs
  subst e
  cases rx
  exact tail_any (dict_typeIs I g) PySem.F.slot_dict_getitem.lookup (d_getItem hu I g ry fun w' s' I' rw' => ⟨w, H, I', rw', q⟩) hs
theorem idx_ix {X : Cx} (hu : X.A.units + 1 < cLine) : IxR X (rIdx X.K) := (ix_dct hu).or ix_seq
theorem idx_sound (r : HRel K S ι h H) {d e : D} {x y : V} (rx : RV K S ι d x) (ry : RV K S ι e y) (hp : PostG K mg W S ι H σ (KQ K Q) (idxD d e h)) : rIdx K x y H Q := by
  unfold idxD at hp
  split at hp
  · rename_i t kvs e1
    split at hp
    · rename_i k e2
      split at hp
      · rename_i hk
        obtain ⟨a, o, rfl, g, q⟩ := dct_get r rx ry e1 e2 hk
        split at hp
        · rename_i w e3
          rw [e3] at q
          obtain ⟨v, rfl, rv⟩ := q
          exact .inl ⟨a, v, rfl, g, flat_post r rv hp⟩
        · exact hp.elim
      · exact hp.elim
    · exact hp.elim
  · split at hp
    · cases rx; cases ry
      split at hp
      · rename_i hl
        split at hp
        · rename_i c e3
          exact .inr (.inr (.inr ⟨_, _, c, rfl, rfl, line_of hl, e3, flat_post r (.str _) hp⟩))
        · exact hp.elim
      · exact hp.elim
    · cases ry
      split at hp
      · rename_i xs b e3
        obtain ⟨a, vs, rfl, r1, hl, ht⟩ := seq_ok r rx e3
        split at hp
        · rename_i w e4
          obtain ⟨v, e5, rv⟩ := ixN_at r1 e4
          cases b with
          | true => exact .inr (.inl ⟨a, vs, _, v, rfl, rfl, hl rfl, e5, flat_post r rv hp⟩)
          | false => exact .inr (.inr (.inl ⟨a, vs, _, v, rfl, rfl, ht rfl, e5, flat_post r rv hp⟩))
        · exact hp.elim
      · exact hp.elim
    · exact hp.elim
theorem cut_ok {xs : List D} {vs : List V} (r : RVs K S ι xs vs) (lo hi : Option Int) : RVs K S ι (cutD xs lo hi) (cutV vs lo hi) := by
  unfold cutD cutV
  rw [← r.length]
  exact (r.drop _).take _
def rSl (K : PySem.W.Frag) : V → Option Int → Option Int → Hp → VK → Prop := fun x lo hi H Q => rSlS x lo hi H Q ∨ rSlL K x lo hi H Q ∨ rSlA K x lo hi H Q
theorem sl_all {X : Cx} : SlR X (rSl X.K) := sl_str.or (sl_list.or sl_tupA)
theorem sl_sound {fz : Bool} (r : HRel K S ι h H) {d : D} {x : V} (rx : RV K S ι d x) {lo hi : Option Int} (hp : PostG K mg W S ι H σ (KQ K Q) (sliceD fz d lo hi h)) : rSl K x lo hi H Q := by
  unfold sliceD at hp
  split at hp
  · cases rx
    split at hp
    · rename_i hl
      exact .inl ⟨_, rfl, line_of hl, flat_post r (.str _) hp⟩
    · exact hp.elim
  · split at hp
    · rename_i xs e1
      obtain ⟨a, vs, rfl, r1, hl, ht⟩ := seq_ok r rx e1
      exact .inr (.inl ⟨a, vs, rfl, hl rfl, (newL_post r (cut_ok r1 lo hi) hp).2⟩)
    · rename_i xs e1
      obtain ⟨a, vs, rfl, r1, hl, ht⟩ := seq_ok r rx e1
      split at hp
      · rename_i hw
        rw [r1.length] at hw
        exact .inr (.inr ⟨a, vs, rfl, ht rfl, fun _ => flat_post r rx hp, fun z => absurd hw z⟩)
      · rename_i hw
        rw [r1.length] at hw
        exact .inr (.inr ⟨a, vs, rfl, ht rfl, fun z => absurd z hw, fun _ p hn => tup_post r (cut_ok r1 lo hi) hp hn⟩)
    · exact hp.elim
end
end Ev
/-! Ev, part E: built-ins, what loops walk, loops. -/
namespace Ev
open PySem PySem.Spec PyProof.Rows L2

section
variable {K : PySem.W.Frag} {S S' : Hp} {ι ι' : List Addr} {H H' : Hp} {h h' : Hs} {ρ : Env} {σ : L2.St} {mg : Str → Option Value} {W : WX} {Q : VK}

/-! ### built-ins by values -/
theorem ints_of : ∀ {ds : List D} {vs : List V} {ns : List Int}, RVs K S ι ds vs → D.ints ds = some ns → vs = ns.map V.int
  | _, _, _, .nil, e => by cases e; rfl
  | d :: ds, _, ns, .cons r t, e => by
    cases d with
    | int i =>
      replace e : (D.ints ds).map (i :: ·) = some ns := e
      cases q : D.ints ds with
      | none => rw [q] at e; cases e
      | some ms => rw [q] at e; cases e; cases r; rw [ints_of t q]; rfl
    | _ => cases e
theorem bools_of : ∀ {ds : List D} {vs : List V} {ns : List Bool}, RVs K S ι ds vs → D.bools ds = some ns → vs = ns.map V.bl
  | _, _, _, .nil, e => by cases e; rfl
  | d :: ds, _, ns, .cons r t, e => by
    cases d with
    | bl i =>
      replace e : (D.bools ds).map (i :: ·) = some ns := e
      cases q : D.bools ds with
      | none => rw [q] at e; cases e
      | some ms => rw [q] at e; cases e; cases r; rw [bools_of t q]; rfl
    | _ => cases e
theorem insI_perm (x : Int) : ∀ l : List Int, (insI x l).Perm (x :: l)
  | [] => .refl _
  | y :: ys => by
    unfold insI
    split
    · exact .refl _
    · exact ((insI_perm x ys).cons y).trans (.swap x y ys)
theorem sortI_perm : ∀ l : List Int, (sortI l).Perm l
  | [] => .refl _
  | x :: xs => (insI_perm x _).trans ((sortI_perm xs).cons x)
theorem insI_sorted (x : Int) : ∀ l : List Int, l.Pairwise (· ≤ ·) → (insI x l).Pairwise (· ≤ ·)
  | [], _ => by unfold insI; simp
  | y :: ys, hp => by
    unfold insI
    rw [List.pairwise_cons] at hp
    split
    · rename_i hxy
      rw [List.pairwise_cons]
      refine ⟨fun z hz => ?_, List.pairwise_cons.mpr hp⟩
      rcases List.mem_cons.mp hz with e | hz
      · subst e; exact hxy
      · exact Int.le_trans hxy (hp.1 z hz)
    · rename_i hxy
      rw [List.pairwise_cons]
      refine ⟨fun z hz => ?_, insI_sorted x ys hp.2⟩
      rcases List.mem_cons.mp ((insI_perm x ys).mem_iff.mp hz) with e | hz
      · subst e; omega
      · exact hp.1 z hz
theorem sortI_sorted : ∀ l : List Int, (sortI l).Pairwise (· ≤ ·)
  | [] => .nil
  | x :: xs => insI_sorted x _ (sortI_sorted xs)
theorem sorted_uniq : ∀ {l m : List Int}, l.Pairwise (· ≤ ·) → m.Pairwise (· ≤ ·) → l.Perm m → l = m
  | [], m, _, _, p => (List.Perm.eq_nil p.symm).symm
  | x :: l, [], _, _, p => absurd p.length_eq (by simp)
  | x :: l, y :: m, h1, h2, p => by
    have a1 := List.pairwise_cons.mp h1
    have a2 := List.pairwise_cons.mp h2
    have e : x = y := by
      have hx : x ∈ y :: m := p.mem_iff.mp List.mem_cons_self
      have hy : y ∈ x :: l := p.mem_iff.mpr List.mem_cons_self
      rcases List.mem_cons.mp hx with e | hx
      · exact e
      · rcases List.mem_cons.mp hy with e | hy
        · exact e.symm
        · exact Int.le_antisymm (a1.1 y hy) (a2.1 x hx)
    subst e
    rw [sorted_uniq a1.2 a2.2 (List.Perm.cons_inv p)]

/-- a built-in: a function (true) or a class, by the name under which the program knows it -/
def Prim.val : Prim → Value
  | .len => .builtin "len" | .tupleOf => .type "tuple" | .listOf => .type "list" | .abs => .builtin "abs" | .intOf => .type "int" | .sorted => .builtin "sorted"
  | .isinst _ => .builtin "isinstance" | .max2 => .builtin "max" | .min2 => .builtin "min" | .all => .builtin "all" | .any => .builtin "any" | .sum => .builtin "sum"
  | .str => .type "str" | .repr => .builtin "repr" | .max1 => .builtin "max" | .min1 => .builtin "min"
def Prim.nm : Prim → Str
  | .len => "len" | .tupleOf => "tuple" | .listOf => "list" | .abs => "abs" | .intOf => "int" | .sorted => "sorted"
  | .isinst _ => "isinstance" | .max2 => "max" | .min2 => "min" | .all => "all" | .any => "any" | .sum => "sum"
  | .str => "str" | .repr => "repr" | .max1 => "max" | .min1 => "min"
def Prim.isTy : Prim → Option String
  | .tupleOf => some "tuple" | .listOf => some "list" | .intOf => some "int" | .str => some "str"
  | _ => none
def rLenD : List V → Hp → VK → Prop := fun xs H Q => ∃ (a : Addr) (kvs : List (Key × V)), xs = [.ref a] ∧ H a = some (.dK kvs) ∧ Q (.int kvs.length) H
/-- all that is asked of the arguments of a built-in -/
def rPrim (K : PySem.W.Frag) : Prim → List V → Hp → VK → Prop
  | .len => fun xs H Q => ((∃ p ys, xs = [.ref p] ∧ (SqL K H p ys ∨ SqT K H p ys) ∧ Q (.int ys.length) H) ∨ (∃ z, xs = [.str z] ∧ z.length ≤ sizeLine ∧ Q (.int z.length) H)) ∨ rLenD xs H Q
  | .tupleOf => fun xs H Q => ∃ p ys, xs = [.ref p] ∧ ((SqL K H p ys ∧ ∀ l, H l = none → Q (.ref l) (upd H l (.tup ys))) ∨ (SqT K H p ys ∧ Q (.ref p) H))
  | .listOf => fun xs H Q => ∃ p ys, xs = [.ref p] ∧ (SqL K H p ys ∨ SqT K H p ys) ∧ ∀ l, H l = none → Q (.ref l) (upd H l (.lst ys))
  | .abs => fun xs H Q => ∃ i, xs = [.int i] ∧ Q (.int (if i < 0 then -i else i)) H
  | .intOf => fun xs H Q => (∃ i, xs = [.int i] ∧ Q (.int i) H) ∨ ∃ k, xs = [.bl k] ∧ Q (.int (if k then 1 else 0)) H
  | .sorted => fun vs H Q => ∃ (a : Addr) (ns : List Int), vs = [V.ref a] ∧ (SqL K H a (ns.map V.int) ∨ SqT K H a (ns.map V.int)) ∧ ∀ (ns' : List Int) (p : Addr), ns'.Perm ns → ns'.Pairwise (· ≤ ·) → H p = none → Q (.ref p) (upd H p (.lst (ns'.map V.int)))
  | .isinst _ => rIsi K
  | .max2 => fun xs H Q => ∃ i j, xs = [.int i, .int j] ∧ Q (.int (if j > i then j else i)) H
  | .min2 => fun xs H Q => ∃ i j, xs = [.int i, .int j] ∧ Q (.int (if j < i then j else i)) H
  | .all => rAll K
  | .any => rAny K
  | .sum => rSum K
  | .str => fun xs H Q => ∃ i, xs = [.int i] ∧ i.natAbs.log2 < 1920 ∧ Q (.str (toString i)) H
  | .repr => rRepr K
  | .max1 => rBest K fun x y => decide (x > y)
  | .min1 => rBest K fun x y => decide (x < y)
end

section
variable {X : Cx}
theorem call_lenDct : CallR X (.builtin "len") rLenD := by
  intro pins s σ H xs us Q I r h
  obtain ⟨a, kvs, rfl, e, q⟩ := h
  obtain ⟨u, rfl, rx⟩ := vals1 r
  cases rx
  exact d_len I (.inl e) fun t s' I' => ⟨.int kvs.length, H, I', ⟨t, rfl⟩, q⟩
theorem prim_call (hc : X.calm = true) (gd : X.A.guards = some []) (un : X.A.units + 65 < cLine) (p : Prim) : CallR X p.val (rPrim X.K p) := by
  cases p with
  | len => exact (call_len_seq.or call_len_str).or call_lenDct
  | tupleOf => exact call_tuple_of
  | listOf => exact call_list_of
  | abs => exact call_abs
  | intOf => exact call_int1
  | sorted =>
    intro pins s σ H xs us Q I r h
    obtain ⟨a, ns, e, hs | hs, q⟩ := h
    · exact cr_sortedI pins s σ H xs us Q I r ⟨a, ns, e, hs, q⟩
    · exact cr_sortedTup pins s σ H xs us Q I r ⟨a, ns, e, hs, q⟩
  | isinst t => exact call_isi
  | max2 => exact call_max2 hc
  | min2 => exact call_min2 hc
  | all => exact cr_all hc
  | any => exact cr_any hc
  | sum => exact cr_sum hc
  | str => exact call_str_int
  | repr => exact call_reprD gd un
  | max1 => exact cr_max1 hc
  | min1 => exact cr_min1 hc
end

section
variable {K : PySem.W.Frag} {S S' : Hp} {ι ι' : List Addr} {H H' : Hp} {h h' : Hs} {ρ : Env} {σ : L2.St} {mg : Str → Option Value} {W : WX} {Q : VK}
theorem RVs.one {d : D} {vs : List V} (r : RVs K S ι [d] vs) : ∃ v, vs = [v] ∧ RV K S ι d v := by
  cases r with
  | cons r t => cases t; exact ⟨_, rfl, r⟩
theorem RVs.two {d e : D} {vs : List V} (r : RVs K S ι [d, e] vs) : ∃ v u, vs = [v, u] ∧ RV K S ι d v ∧ RV K S ι e u := by
  cases r with
  | cons r t => cases t with
    | cons r2 t => cases t; exact ⟨_, _, rfl, r, r2⟩
theorem dct_at (r : HRel K S ι h H) {d : D} {v : V} (rv : RV K S ι d v) {kvs : List (DKey × D)} (e : dctOf h d = some (false, kvs)) :
    ∃ a kv, v = .ref a ∧ H a = some (.dK kv) ∧ Paired (fun (p : DKey × D) (q : Key × V) => p.1 = .inl q.1 ∧ RV K S ι p.2 q.2) kvs kv := by
  cases d with
  | ref n =>
    cases rv with
    | @ref _ a en =>
      replace e : (match h[n]? with | some (Cell.dct t kvs) => some (t, kvs) | _ => none) = some (false, kvs) := e
      cases q : h[n]? with
      | none => rw [q] at e; cases e
      | some c =>
        rw [q] at e
        cases c with
        | dead => cases e
        | obj _ _ => cases e
        | lst _ => cases e
        | dct t' kvs' =>
          cases e
          obtain ⟨_, kv, h2, h3⟩ := r.cell n a _ en q
          exact ⟨a, kv, rfl, h2, h3⟩
  | _ => cases e
theorem isa_kit {a t : String} {b : Bool} (ha : a = "NoneType" ∨ a = "bool" ∨ a = "int" ∨ a = "str" ∨ a = "tuple" ∨ a = "list") (e : isaT a t = some b) : kitB a t = some b := by
  unfold isaT at e
  split at e
  · rename_i ht
    rcases ha with rfl | rfl | rfl | rfl | rfl | rfl <;> rcases ht with rfl | rfl | rfl | rfl | rfl <;> (cases e; decide +kernel)
  · cases e
theorem ty_ok (r : HRel K S ι h H) {d : D} {v : V} (rv : RV K S ι d v) {a : String} (e : tyName h d = some a) :
    TyX K H v (.type a) ∧ (a = "NoneType" ∨ a = "bool" ∨ a = "int" ∨ a = "str" ∨ a = "tuple" ∨ a = "list") := by
  cases rv with
  | non => cases e; exact ⟨.base .non, by simp⟩
  | bl b => cases e; exact ⟨.base (.bl b), by simp⟩
  | int i => cases e; exact ⟨.base (.int i), by simp⟩
  | str s => cases e; exact ⟨.base (.str s), by simp⟩
  | tup e1 _ => cases e; exact ⟨.base (.tup (r.sub _ _ e1)), by simp⟩
  | lst e1 _ => cases e; exact ⟨.base (.lst (r.sub _ _ e1)), by simp⟩
  | vw _ _ => cases e
  | vt _ _ _ => cases e
  | @ref n p en =>
    replace e : (match h[n]? with | some (Cell.lst _) => some "list" | _ => none) = some a := e
    cases q : h[n]? with
    | none => rw [q] at e; cases e
    | some c =>
      rw [q] at e
      cases c with
      | dead => cases e
      | obj _ _ => cases e
      | dct _ _ => cases e
      | lst xs =>
        cases e
        obtain ⟨_, vs, h2, h3⟩ := r.cell n p _ en q
        exact ⟨.base (.lst h2), by simp⟩
theorem prim_sound {p : Prim} {fz : Bool} (hp' : ∀ t, p ≠ .isinst t) (r : HRel K S ι h H) {ds : List D} {vs : List V} (rs : RVs K S ι ds vs) (hp : PostG K mg W S ι H σ (KQ K Q) (primD p fz ds h)) : rPrim K p vs H Q := by
  unfold primD at hp
  split at hp
  · obtain ⟨v, rfl, rv⟩ := rs.one
    split at hp
    · split at hp
      · rename_i hl; cases rv
        exact .inl (.inr ⟨_, rfl, line_of hl, flat_post r (.int _) hp⟩)
      · exact hp.elim
    · split at hp
      · rename_i xs b e1
        obtain ⟨a, ws, rfl, r1, hl, ht⟩ := seq_ok r rv e1
        have q := flat_post r (.int _) hp
        rw [r1.length] at q
        cases b with
        | true => exact .inl (.inl ⟨a, ws, rfl, .inl (hl rfl), q⟩)
        | false => exact .inl (.inl ⟨a, ws, rfl, .inr (ht rfl), q⟩)
      · split at hp
        · rename_i kvs e2
          obtain ⟨a, kv, rfl, h2, h3⟩ := dct_at r rv e2
          have q := flat_post r (.int _) hp
          rw [Paired.length h3] at q
          exact .inr ⟨a, kv, rfl, h2, q⟩
        · exact hp.elim
  · obtain ⟨v, rfl, rv⟩ := rs.one
    split at hp
    · rename_i xs e1
      obtain ⟨a, ws, rfl, r1, hl, ht⟩ := seq_ok r rv e1
      exact ⟨a, ws, rfl, .inl ⟨hl rfl, fun l hn => tup_post r r1 hp hn⟩⟩
    · rename_i xs e1
      obtain ⟨a, ws, rfl, r1, hl, ht⟩ := seq_ok r rv e1
      exact ⟨a, ws, rfl, .inr ⟨ht rfl, flat_post r rv hp⟩⟩
    · exact hp.elim
  · obtain ⟨v, rfl, rv⟩ := rs.one
    split at hp
    · rename_i xs b e1
      obtain ⟨a, ws, rfl, r1, hl, ht⟩ := seq_ok r rv e1
      refine ⟨a, ws, rfl, ?_, (newL_post r r1 hp).2⟩
      cases b with
      | true => exact .inl (hl rfl)
      | false => exact .inr (ht rfl)
    · exact hp.elim
  · obtain ⟨v, rfl, rv⟩ := rs.one
    cases rv
    exact ⟨_, rfl, flat_post r (.int _) hp⟩
  · obtain ⟨v, rfl, rv⟩ := rs.one
    cases rv
    exact .inl ⟨_, rfl, flat_post r (.int _) hp⟩
  · obtain ⟨v, rfl, rv⟩ := rs.one
    cases rv
    exact .inr ⟨_, rfl, flat_post r (.int _) hp⟩
  · obtain ⟨v, u, rfl, rv, ru⟩ := rs.two
    cases rv; cases ru
    exact ⟨_, _, rfl, flat_post r (.int _) hp⟩
  · obtain ⟨v, u, rfl, rv, ru⟩ := rs.two
    cases rv; cases ru
    exact ⟨_, _, rfl, flat_post r (.int _) hp⟩
  · obtain ⟨v, rfl, rv⟩ := rs.one
    split at hp
    · rename_i xs b e1
      split at hp
      · rename_i ns e2
        obtain ⟨a, ws, rfl, r1, hl, ht⟩ := seq_ok r rv e1
        have e3 := ints_of r1 e2
        subst e3
        refine ⟨a, ns, rfl, ?_, fun ns' p' k1 k2 hn => ?_⟩
        · cases b with
          | true => exact .inl (hl rfl)
          | false => exact .inr (ht rfl)
        · have e4 : ns' = sortI ns := sorted_uniq k2 (sortI_sorted ns) (k1.trans (sortI_perm ns).symm)
          subst e4
          exact (newL_post r RVs.ints hp).2 p' hn
      · exact hp.elim
    · exact hp.elim
  · obtain ⟨v, rfl, rv⟩ := rs.one
    split at hp
    · rename_i xs e1
      split at hp
      · rename_i bs e2
        obtain ⟨a, ws, rfl, r1, hl, ht⟩ := seq_ok r rv e1
        have e3 := bools_of r1 e2
        subst e3
        exact ⟨a, bs, rfl, hl rfl, flat_post r (.bl _) hp⟩
      · exact hp.elim
    · exact hp.elim
  · obtain ⟨v, rfl, rv⟩ := rs.one
    split at hp
    · rename_i xs e1
      split at hp
      · rename_i bs e2
        obtain ⟨a, ws, rfl, r1, hl, ht⟩ := seq_ok r rv e1
        have e3 := bools_of r1 e2
        subst e3
        exact ⟨a, bs, rfl, hl rfl, flat_post r (.bl _) hp⟩
      · exact hp.elim
    · exact hp.elim
  · obtain ⟨v, rfl, rv⟩ := rs.one
    split at hp
    · rename_i xs e1
      split at hp
      · rename_i bs e2
        obtain ⟨a, ws, rfl, r1, hl, ht⟩ := seq_ok r rv e1
        have e3 := ints_of r1 e2
        subst e3
        exact ⟨a, bs, rfl, hl rfl, flat_post r (.int _) hp⟩
      · exact hp.elim
    · exact hp.elim
  · exact absurd rfl (hp' _)
  · obtain ⟨v, rfl, rv⟩ := rs.one
    cases rv
    split at hp
    · rename_i hl
      exact ⟨_, rfl, hl, flat_post r (.str _) hp⟩
    · exact hp.elim
  · obtain ⟨v, rfl, rv⟩ := rs.one
    split at hp
    · rename_i x e1
      split at hp
      · rename_i hl
        exact ⟨v, x, rfl, pyH_ok r rv e1, hl.1, hl.2.1, hl.2.2.1, Nat.le_trans hl.2.2.2 LN_le, flat_post r (.str _) hp⟩
      · exact hp.elim
    · exact hp.elim
  · obtain ⟨v, rfl, rv⟩ := rs.one
    split at hp
    · rename_i xs e1
      split at hp
      · rename_i n ns e2
        obtain ⟨a, ws, rfl, r1, hl, ht⟩ := seq_ok r rv e1
        have e3 := ints_of r1 e2
        subst e3
        exact ⟨a, n, ns, rfl, hl rfl, flat_post r (.int _) hp⟩
      · exact hp.elim
    · exact hp.elim
  · obtain ⟨v, rfl, rv⟩ := rs.one
    split at hp
    · rename_i xs e1
      split at hp
      · rename_i n ns e2
        obtain ⟨a, ws, rfl, r1, hl, ht⟩ := seq_ok r rv e1
        have e3 := ints_of r1 e2
        subst e3
        exact ⟨a, n, ns, rfl, hl rfl, flat_post r (.int _) hp⟩
      · exact hp.elim
    · exact hp.elim
  · exact hp.elim
theorem isinst_sound {t : String} {fz : Bool} (r : HRel K S ι h H) {d : D} {v : V} (rv : RV K S ι d v) (hp : PostG K mg W S ι H σ (KQ K Q) (primD (.isinst t) fz [d] h)) : rIsi K [v, .ty t] H Q := by
  replace hp : PostG K mg W S ι H σ (KQ K Q) (match typeIs h d t with | some b => R.ok (.bl b) h | none => R.stuck) := hp
  cases e : typeIs h d t with
  | none => rw [e] at hp; exact hp.elim
  | some b =>
    rw [e] at hp
    unfold typeIs at e
    cases e1 : tyName h d with
    | none => rw [e1] at e; cases e
    | some a =>
      rw [e1] at e
      obtain ⟨k1, k2⟩ := ty_ok r rv e1
      exact ⟨v, .ty t, .type a, .type t, b, rfl, .ty t, k1, kit_ty (isa_kit k2 e), flat_post r (.bl _) hp⟩

/-! ### what a loop walks -/
/-- the walked thing J yields these items, whatever the heap has become -/
def Yields (K : PySem.W.Frag) (J : It) (xs : List D) (S0 : Hp) (ι0 : List Addr) : Prop :=
  ∀ (i : Nat) (S : Hp) (ι : List Addr) (h : Hs) (H : Hp), Sub S0 S → (∀ (n : Nat) (a : Addr), ι0[n]? = some a → ι[n]? = some a) → HRel K S ι h H →
    (xs.length ≤ i → J.stop i H) ∧ ∀ d, xs[i]? = some d → J.go i H ∧ ∀ x H', J.yld i H x H' → ∃ S', HRel K S' ι h H' ∧ Ext S ι H S' ι H' ∧ RV K S' ι d x
def SI (K : PySem.W.Frag) (mg : Str → Option Value) (W : WX) (wi : TI) (di : Env → Hs → R (List D)) : Prop :=
  ∀ ρ h S ι σ H R', HRel K S ι h H → ERel K S ι ρ σ → PostG K mg W S ι H σ (fun xs _ S' ι' H' => ∀ J, Yields K J xs S' ι' → R' J H') (di ρ h) → wi σ H R'

theorem yields_list {a : Addr} {xs : List D} {vs : List V} (e : SqL K S a vs) (r : RVs K S ι xs vs) : Yields K (Itl K a) xs S ι := by
  intro i S1 ι1 h1 H1 hs hi hr
  have e1 : SqL K H1 a vs := SqL.up hr.sub (SqL.up hs e)
  refine ⟨fun z => ⟨vs, e1, by rw [← r.length]; exact z⟩, fun d ed => ?_⟩
  obtain ⟨v, ev, rv⟩ := r.get ed
  refine ⟨⟨vs, v, e1, ev⟩, fun x H' y => ?_⟩
  obtain ⟨rfl, y⟩ := y
  have := y vs e1
  rw [ev] at this; cases this
  exact ⟨S1, hr, Ext.refl, rv.up hs hi⟩
theorem yields_tup {a : Addr} {xs : List D} {vs : List V} (e : SqT K S a vs) (r : RVs K S ι xs vs) : Yields K (Itt K a) xs S ι := by
  intro i S1 ι1 h1 H1 hs hi hr
  have e1 : SqT K H1 a vs := SqT.up hr.sub (SqT.up hs e)
  refine ⟨fun z => ⟨vs, e1, by rw [← r.length]; exact z⟩, fun d ed => ?_⟩
  obtain ⟨v, ev, rv⟩ := r.get ed
  refine ⟨⟨vs, v, e1, ev⟩, fun x H' y => ?_⟩
  obtain ⟨rfl, y⟩ := y
  have := y vs e1
  rw [ev] at this; cases this
  exact ⟨S1, hr, Ext.refl, rv.up hs hi⟩
theorem enum_at (xs : List D) (i : Nat) : ((List.range xs.length).zipWith (fun k x => D.tup [.int (k : Nat), x]) xs)[i]? = (xs[i]?).map fun x => D.tup [.int (i : Nat), x] := by
  rw [List.getElem?_zipWith]
  by_cases k : i < xs.length
  · rw [List.getElem?_range k, List.getElem?_eq_getElem k]; rfl
  · rw [List.getElem?_eq_none (by simpa using k), List.getElem?_eq_none (l := xs) (by omega)]; rfl
theorem yields_enum {a : Addr} {xs : List D} {vs : List V} (e : SqL K S a vs) (r : RVs K S ι xs vs) : Yields K (Ite K a) ((List.range xs.length).zipWith (fun k x => D.tup [.int (k : Nat), x]) xs) S ι := by
  intro i S1 ι1 h1 H1 hs hi hr
  have e1 : SqL K H1 a vs := SqL.up hr.sub (SqL.up hs e)
  refine ⟨fun z => ⟨vs, e1, by rw [← r.length]; simpa using z⟩, fun d ed => ?_⟩
  rw [enum_at] at ed
  cases q : xs[i]? with
  | none => rw [q] at ed; cases ed
  | some x =>
    rw [q] at ed; cases ed
    obtain ⟨v, ev, rv⟩ := r.get q
    refine ⟨⟨vs, v, e1, ev⟩, fun y H' yl => ?_⟩
    obtain ⟨T, x', rfl, hT, rfl, y⟩ := yl
    have := y vs e1
    rw [ev] at this; cases this
    have ex := Ext.fz (o := .tup [.int (i : Nat), v]) hr hT
    exact ⟨_, hr.fz hT, ex, .tup upd_same (.cons (.int _) (.cons ((rv.up hs hi).ext ex) .nil))⟩
theorem yields_enumT {a : Addr} {xs : List D} {vs : List V} (e : SqT K S a vs) (r : RVs K S ι xs vs) : Yields K (EnT.IteT K a) ((List.range xs.length).zipWith (fun k x => D.tup [.int (k : Nat), x]) xs) S ι := by
  intro i S1 ι1 h1 H1 hs hi hr
  have e1 : SqT K H1 a vs := SqT.up hr.sub (SqT.up hs e)
  refine ⟨fun z => ⟨vs, e1, by rw [← r.length]; simpa using z⟩, fun d ed => ?_⟩
  rw [enum_at] at ed
  cases q : xs[i]? with
  | none => rw [q] at ed; cases ed
  | some x =>
    rw [q] at ed; cases ed
    obtain ⟨v, ev, rv⟩ := r.get q
    refine ⟨⟨vs, v, e1, ev⟩, fun y H' yl => ?_⟩
    obtain ⟨T, x', rfl, hT, rfl, y⟩ := yl
    have := y vs e1
    rw [ev] at this; cases this
    have ex := Ext.fz (o := .tup [.int (i : Nat), v]) hr hT
    exact ⟨_, hr.fz hT, ex, .tup upd_same (.cons (.int _) (.cons ((rv.up hs hi).ext ex) .nil))⟩
theorem zip_at (xs ys : List D) (i : Nat) : (xs.zipWith (fun x y => D.tup [x, y]) ys)[i]? = match xs[i]?, ys[i]? with | some x, some y => some (D.tup [x, y]) | _, _ => none := by
  rw [List.getElem?_zipWith]; cases xs[i]? <;> cases ys[i]? <;> rfl
theorem yields_zipL {a b : Addr} {xs ys : List D} {vs us : List V} (e : SqL K S a vs) (r : RVs K S ι xs vs) (f : SqL K S b us) (t : RVs K S ι ys us) : Yields K (Itz K a b) (xs.zipWith (fun x y => D.tup [x, y]) ys) S ι := by
  intro i S1 ι1 h1 H1 hs hi hr
  have e1 : SqL K H1 a vs := SqL.up hr.sub (SqL.up hs e)
  have f1 : SqL K H1 b us := SqL.up hr.sub (SqL.up hs f)
  refine ⟨fun z => ⟨vs, us, e1, f1, ?_⟩, fun d ed => ?_⟩
  · rw [List.length_zipWith] at z
    rw [← r.length, ← t.length]
    omega
  · rw [zip_at] at ed
    cases q : xs[i]? with
    | none => rw [q] at ed; cases ed
    | some x =>
      cases q2 : ys[i]? with
      | none => rw [q, q2] at ed; cases ed
      | some y =>
        rw [q, q2] at ed; cases ed
        obtain ⟨v, ev, rv⟩ := r.get q
        obtain ⟨u, eu, ru⟩ := t.get q2
        refine ⟨⟨vs, us, v, u, e1, f1, ev, eu⟩, fun w H' yl => ?_⟩
        obtain ⟨T, x', y', rfl, hT, rfl, k1, k2⟩ := yl
        have z1 := k1 vs e1
        rw [ev] at z1; cases z1
        have z2 := k2 us f1
        rw [eu] at z2; cases z2
        have ex := Ext.fz (o := .tup [v, u]) hr hT
        exact ⟨_, hr.fz hT, ex, .tup upd_same (.cons ((rv.up hs hi).ext ex) (.cons ((ru.up hs hi).ext ex) .nil))⟩
theorem yields_zipT {a b : Addr} {xs ys : List D} {vs us : List V} (e : SqT K S a vs) (r : RVs K S ι xs vs) (f : SqT K S b us) (t : RVs K S ι ys us) : Yields K (RZ.ItzT K a b) (xs.zipWith (fun x y => D.tup [x, y]) ys) S ι := by
  intro i S1 ι1 h1 H1 hs hi hr
  have e1 : SqT K H1 a vs := SqT.up hr.sub (SqT.up hs e)
  have f1 : SqT K H1 b us := SqT.up hr.sub (SqT.up hs f)
  refine ⟨fun z => ⟨vs, us, e1, f1, ?_⟩, fun d ed => ?_⟩
  · rw [List.length_zipWith] at z
    rw [← r.length, ← t.length]
    omega
  · rw [zip_at] at ed
    cases q : xs[i]? with
    | none => rw [q] at ed; cases ed
    | some x =>
      cases q2 : ys[i]? with
      | none => rw [q, q2] at ed; cases ed
      | some y =>
        rw [q, q2] at ed; cases ed
        obtain ⟨v, ev, rv⟩ := r.get q
        obtain ⟨u, eu, ru⟩ := t.get q2
        refine ⟨⟨vs, us, v, u, e1, f1, ev, eu⟩, fun w H' yl => ?_⟩
        obtain ⟨T, x', y', rfl, hT, rfl, k1, k2⟩ := yl
        have z1 := k1 vs e1
        rw [ev] at z1; cases z1
        have z2 := k2 us f1
        rw [eu] at z2; cases z2
        have ex := Ext.fz (o := .tup [v, u]) hr hT
        exact ⟨_, hr.fz hT, ex, .tup upd_same (.cons ((rv.up hs hi).ext ex) (.cons ((ru.up hs hi).ext ex) .nil))⟩
theorem yields_range (lo : Int) (n : Nat) : Yields K (Itr lo n) ((List.range n).map fun k => .int (lo + (k : Nat))) S ι := by
  intro i S1 ι1 h1 H1 hs hi r
  refine ⟨fun z => by rw [List.length_map, List.length_range] at z; exact z, fun d e => ?_⟩
  rw [List.getElem?_map] at e
  have hl : i < n := by
    by_cases k : i < n
    · exact k
    · rw [List.getElem?_eq_none (by simpa using k)] at e; cases e
  rw [List.getElem?_range hl] at e
  cases e
  exact ⟨hl, fun x H' y => by obtain ⟨rfl, rfl⟩ := y; exact ⟨S1, r, Ext.refl, .int _⟩⟩
theorem yields_down (lo : Int) (n : Nat) : Yields K (Itc lo (-1) n) ((List.range n).map fun k => .int (lo - (k : Nat))) S ι := by
  intro i S1 ι1 h1 H1 hs hi r
  refine ⟨fun z => by rw [List.length_map, List.length_range] at z; exact z, fun d e => ?_⟩
  rw [List.getElem?_map] at e
  have hl : i < n := by
    by_cases k : i < n
    · exact k
    · rw [List.getElem?_eq_none (by simpa using k)] at e; cases e
  rw [List.getElem?_range hl] at e
  cases e
  refine ⟨hl, fun x H' y => ?_⟩
  obtain ⟨rfl, rfl⟩ := y
  have : lo + (i : Nat) * (-1 : Int) = lo - (i : Nat) := by omega
  rw [this]
  exact ⟨S1, r, Ext.refl, .int _⟩

/-! ### for, while -/
theorem for_sound {g : TG} {dg : D → Env → Hs → Out} {tb : TS} {db : Env → Hs → Out} (hg : SG K mg W g dg) (hb : SS K mg W tb db) {xs : List D} {J : It} (hJ : Yields K J xs S ι) {D' : Ends}
    (r : HRel K S ι h H) (re : ERel K S ι ρ σ) (hp : Post K mg W D' S ι H (forD dg db xs ρ h)) :
    ∃ W' : Nat → Nat → L2.St → Hp → Prop, (∃ m, W' 0 m σ H) ∧ ∀ i m σ H, W' i m σ H →
      (J.stop i H ∧ D'.nx σ H) ∨ (J.go i H ∧ ∃ N : L2.St → Hp → Prop, (∀ σ' H', N σ' H' → ∃ m', m' < m ∧ W' (i + 1) m' σ' H') ∧ ∀ x H', J.yld i H x H' → g x σ H' fun σ2 H2 => tb { D' with nx := N, ct := N, bk := D'.nx } σ2 H2) := by
  refine ⟨fun i m σ' H' => ∃ ρ' h' S' ι', i ≤ xs.length ∧ m = xs.length - i ∧ HRel K S' ι' h' H' ∧ ERel K S' ι' ρ' σ' ∧ Ext S ι H S' ι' H' ∧ Post K mg W D' S' ι' H' (forD dg db (xs.drop i) ρ' h'),
    ⟨xs.length, ρ, h, S, ι, Nat.zero_le _, rfl, r, re, Ext.refl, hp⟩, ?_⟩
  rintro i m σ1 H1 ⟨ρ1, h1, S1, ι1, hi, rfl, r1, re1, ex1, p1⟩
  obtain ⟨hstop, hgo⟩ := hJ i S1 ι1 h1 H1 ex1.sub ex1.pre r1
  by_cases hl : i < xs.length
  · refine .inr ?_
    have hd : xs.drop i = xs[i] :: xs.drop (i + 1) := List.drop_eq_getElem_cons hl
    obtain ⟨go, hy⟩ := hgo xs[i] (List.getElem?_eq_getElem hl)
    refine ⟨go, fun σ' H' => ∃ ρ' h' S' ι', i + 1 ≤ xs.length ∧ xs.length - (i + 1) = xs.length - (i + 1) ∧ HRel K S' ι' h' H' ∧ ERel K S' ι' ρ' σ' ∧ Ext S ι H S' ι' H' ∧ Post K mg W D' S' ι' H' (forD dg db (xs.drop (i + 1)) ρ' h'),
      fun σ' H' hn => ⟨xs.length - (i + 1), by omega, hn⟩, fun x H2 yl => ?_⟩
    obtain ⟨S2, r2, ex2, rv⟩ := hy x H2 yl
    rw [hd] at p1
    replace p1 := Post.ext p1 ex2
    refine hg xs[i] x ρ1 h1 S2 ι1 σ1 H2 _ r2 (re1.ext ex2) rv ?_
    unfold forD at p1
    cases e : dg xs[i] ρ1 h1 with
    | nx ρ3 h3 =>
      rw [e] at p1
      refine fun S3 ι3 σ3 H3 r3 re3 ex3 => hb ρ3 h3 S3 ι3 σ3 H3 _ r3 re3 ?_
      replace p1 := Post.ext (show Post K mg W D' S2 ι1 H2 _ from p1) ex3
      dsimp only at p1
      have ex13 := (ex1.trans ex2).trans ex3
      cases eb : db ρ3 h3 with
      | nx ρ4 h4 =>
        rw [eb] at p1
        exact fun S4 ι4 σ4 H4 r4 re4 ex4 => ⟨ρ4, h4, S4, ι4, hl, rfl, r4, re4, ex13.trans ex4, Post.ext p1 ex4⟩
      | cnt ρ4 h4 =>
        rw [eb] at p1
        exact fun S4 ι4 σ4 H4 r4 re4 ex4 => ⟨ρ4, h4, S4, ι4, hl, rfl, r4, re4, ex13.trans ex4, Post.ext p1 ex4⟩
      | brk ρ4 h4 => rw [eb] at p1; exact p1
      | ret d h4 => rw [eb] at p1; exact p1
      | exc c p ρ4 h4 => rw [eb] at p1; exact p1
      | stuck => rw [eb] at p1; exact p1
    | ret d h3 => rw [e] at p1; exact p1.elim
    | brk ρ3 h3 => rw [e] at p1; exact p1.elim
    | cnt ρ3 h3 => rw [e] at p1; exact p1.elim
    | exc c p ρ3 h3 => rw [e] at p1; exact p1.elim
    | stuck => rw [e] at p1; exact p1.elim
  · have e : i = xs.length := by omega
    subst e
    refine .inl ⟨hstop (Nat.le_refl _), ?_⟩
    rw [List.drop_length] at p1
    exact p1 S1 ι1 σ1 H1 r1 re1 Ext.refl
theorem while_sound {tc : TT} {dc : Env → Hs → R Bool} {tb : TS} {db : Env → Hs → Out} (hc : ST K mg W tc dc) (hb : SS K mg W tb db) {F : Nat} {D' : Ends}
    (r : HRel K S ι h H) (re : ERel K S ι ρ σ) (hp : Post K mg W D' S ι H (whileD dc db F ρ h)) : tWhile tc tb D' σ H := by
  refine ⟨fun m σ' H' => ∃ ρ' h' S' ι', HRel K S' ι' h' H' ∧ ERel K S' ι' ρ' σ' ∧ Ext S ι H S' ι' H' ∧ Post K mg W D' S' ι' H' (whileD dc db m ρ' h'), ⟨F, ρ, h, S, ι, r, re, Ext.refl, hp⟩, ?_⟩
  rintro m σ1 H1 ⟨ρ1, h1, S1, ι1, r1, re1, ex1, p1⟩
  cases m with
  | zero => exact p1.elim
  | succ n =>
    refine hc ρ1 h1 S1 ι1 σ1 H1 _ r1 re1 ?_
    unfold whileD at p1
    cases e : dc ρ1 h1 with
    | ok k h2 =>
      rw [e] at p1
      cases k with
      | true =>
        intro S2 ι2 H2 r2 ex2
        rw [if_pos rfl]
        refine ⟨fun σ' H' => ∃ ρ' h' S' ι', HRel K S' ι' h' H' ∧ ERel K S' ι' ρ' σ' ∧ Ext S ι H S' ι' H' ∧ Post K mg W D' S' ι' H' (whileD dc db n ρ' h'), fun σ' H' hn => ⟨n, Nat.lt_succ_self n, hn⟩, ?_⟩
        refine hb ρ1 h2 S2 ι2 σ1 H2 _ r2 (re1.ext ex2) ?_
        replace p1 := Post.ext (show Post K mg W D' S1 ι1 H1 _ from p1) ex2
        dsimp only at p1
        have ex12 := ex1.trans ex2
        cases eb : db ρ1 h2 with
        | nx ρ4 h4 =>
          rw [eb] at p1
          exact fun S4 ι4 σ4 H4 r4 re4 ex4 => ⟨ρ4, h4, S4, ι4, r4, re4, ex12.trans ex4, Post.ext p1 ex4⟩
        | cnt ρ4 h4 =>
          rw [eb] at p1
          exact fun S4 ι4 σ4 H4 r4 re4 ex4 => ⟨ρ4, h4, S4, ι4, r4, re4, ex12.trans ex4, Post.ext p1 ex4⟩
        | brk ρ4 h4 => rw [eb] at p1; exact p1
        | ret d h4 => rw [eb] at p1; exact p1
        | exc c p ρ4 h4 => rw [eb] at p1; exact p1
        | stuck => rw [eb] at p1; exact p1
      | false =>
        intro S2 ι2 H2 r2 ex2
        rw [if_neg Bool.false_ne_true]
        exact p1 S2 ι2 σ1 H2 r2 (re1.ext ex2) ex2
    | exc c p h2 =>
      rw [e] at p1
      exact fun cls dd S' ι' H' hr ex xo => p1 cls dd S' ι' σ1 H' hr (re1.ext ex) ex xo
    | stuck => rw [e] at p1; exact p1.elim
end
end Ev
/-! Ev, part F: comprehensions. -/
namespace Ev
open PySem PySem.Spec PyProof.Rows L2

section
variable {K : PySem.W.Frag} {S S' : Hp} {ι ι' : List Addr} {H H' : Hp} {h h' : Hs} {ρ : Env} {σ : L2.St} {mg : Str → Option Value} {W : WX} {Q : VK}

def minus (H : Hp) (p : Addr) : Hp := fun a => if a = p then none else H a
theorem minus_at {H : Hp} {p : Addr} : minus H p p = none := by unfold minus; rw [if_pos rfl]
theorem minus_ne {H : Hp} {p a : Addr} (e : a ≠ p) : minus H p a = H a := by unfold minus; rw [if_neg e]
theorem upd_minus {H : Hp} {p : Addr} {o : HO} (e : H p = some o) : upd (minus H p) p o = H := by
  funext a
  by_cases k : a = p
  · subst k; rw [upd_same]; exact e.symm
  · rw [upd_ne k, minus_ne k]
theorem HRel.plus {p : Addr} {o : HO} (r : HRel K S ι h H) (hp : H p = none) : HRel K S ι h (upd H p o) := by
  have hs := Hp.snone r hp
  have np : p ∉ ι := fun m => r.out p m hp
  refine ⟨r.len, r.nd, fun a q e => ?_, fun a m e => ?_, fun n a c ha hc => ?_⟩
  · rw [upd_ne (ne_of_none e hs)]; exact r.sub _ _ e
  · have k : a ≠ p := fun e => np (e ▸ m)
    rw [upd_ne k] at e; exact r.out a m e
  · have k : a ≠ p := fun e => np (e ▸ List.mem_of_getElem? ha)
    exact (r.cell n a c ha hc).up (fun _ _ e => e) (fun _ _ e => e) (fun e => e) fun o' e => by rw [upd_ne k]; exact e
theorem HRel.minus {p : Addr} (r : HRel K S ι h H) (np : p ∉ ι) (hs : S p = none) : HRel K S ι h (minus H p) := by
  refine ⟨r.len, r.nd, fun a q e => ?_, fun a m e => ?_, fun n a c ha hc => ?_⟩
  · rw [minus_ne (ne_of_none e hs)]; exact r.sub _ _ e
  · have k : a ≠ p := fun e => np (e ▸ m)
    rw [minus_ne k] at e; exact r.out a m e
  · have k : a ≠ p := fun e => np (e ▸ List.mem_of_getElem? ha)
    exact (r.cell n a c ha hc).up (fun _ _ e => e) (fun _ _ e => e) (fun e => e) fun o' e => by rw [minus_ne k]; exact e
/-- what goes on around an object that is out of sight -/
theorem Ext.around {S1 S2 S4 : Hp} {ι1 ι2 ι4 : List Addr} {H1 H0 H4 : Hp} {p : Addr} {o : HO} (x : Ext S1 ι1 H1 S2 ι2 H0) (hp : H1 p = none) (y : Ext S2 ι2 (upd H0 p o) S4 ι4 H4) (np : p ∉ ι2) : Ext S1 ι1 H1 S4 ι4 (minus H4 p) := by
  have nn : ∀ a, H0 a = none → a ∈ ι1 ∨ H1 a = none := fun a z => by
    rcases none_or (H := H1) a with e | ⟨q, e⟩
    · exact .inr e
    · by_cases k : a ∈ ι1
      · exact .inl k
      · rw [x.keep a q e k] at z; cases z
  have n2 : ∀ a, upd H0 p o a = none → a ∈ ι1 ∨ H1 a = none := fun a z => by
    by_cases k : a = p
    · subst k; rw [upd_same] at z; cases z
    · rw [upd_ne k] at z; exact nn a z
  refine ⟨fun a q e => y.sub _ _ (x.sub _ _ e), fun n a e => y.pre _ _ (x.pre _ _ e), fun a q e ne => ?_, fun a m => ?_, fun a m => ?_, fun a m e => ?_⟩
  · have k : a ≠ p := ne_of_none e hp
    rw [minus_ne k]
    refine y.keep a q (by rw [upd_ne k]; exact x.keep a q e ne) fun m => ?_
    rcases x.new a m with z | z
    · exact ne z
    · rw [e] at z; cases z
  · rcases y.new a m with q | q
    · exact x.new a q
    · exact n2 a q
  · rcases y.snew a m with q | q | q
    · exact x.snew a q
    · rcases x.new a q with z | z
      · exact .inr (.inl z)
      · exact .inr (.inr z)
    · exact .inr (n2 a q)
  · have k : a ≠ p := fun z => e (z ▸ hp)
    rw [minus_ne k]
    obtain ⟨n, hn⟩ := List.mem_iff_getElem?.mp m
    exact y.there a (List.mem_of_getElem? (x.pre n a hn)) (by rw [upd_ne k]; exact x.there a m e)

theorem wipe_wipe (σ : L2.St) : ∀ vs : List Nat, (wipe σ vs).length = σ.length := wipe_length σ
theorem wipeE_ok {vs : List Nat} (re : ERel K S ι ρ σ) : ERel K S ι (wipeE ρ vs) (wipe σ vs) := by
  induction vs with
  | nil => exact re
  | cons v vs ih =>
    refine ⟨by unfold wipeE wipe; rw [List.length_set, List.length_set]; exact ih.1, fun i d e => ?_⟩
    unfold wipeE at e
    unfold wipe
    by_cases k : v = i
    · subst k
      by_cases hl : v < (wipeE ρ vs).length
      · rw [List.getElem?_set_self hl] at e; cases e
      · rw [List.getElem?_eq_none (by simpa using hl)] at e; cases e
    · rw [List.getElem?_set_ne k] at e ⊢
      exact ih.2 i d e

/-- a target that stores into own slots alone -/
def OwnG (g : TG) (vs : List Nat) : Prop := ∀ v σ H Q, g v (wipe σ vs) H Q → g v (wipe σ vs) H fun σ2 H2 => wipe σ2 vs = wipe σ vs ∧ Q σ2 H2

theorem lc_sound {fz : Bool} {wi : TI} {di : Env → Hs → R (List D)} {g : TG} {dg : D → Env → Hs → Out} {tt : TT} {dt : Env → Hs → R Bool} {te : TE} {de : Env → Hs → R D} {vs : List Nat} (hi : SI K mg W wi di)
    (hg : SG K mg (fun _ _ _ _ => False) g dg) (hown : OwnG g vs) (ht : ST K mg (fun _ _ _ _ => False) tt dt) (he : SE K mg (fun _ _ _ _ => False) te de) :
    SE K mg W (tLc wi g tt te vs) fun ρ h => (di ρ h).bind fun xs h1 => (lcD dg dt de (wipeE ρ vs) xs [] h1).bind fun ds h2 => newL fz ds h2 := by
  intro ρ h S ι σ H Q r re hp
  refine hi ρ h S ι σ H _ r re (PostG.imp hp.bind fun xs h1 S1 ι1 H1 r1 ex1 p1 J hJ => ?_)
  intro D hD
  refine ⟨fun i m H' => ∃ h' S' ι' acc vacc H0, i ≤ xs.length ∧ m = xs.length - i ∧ H' = upd H0 D (.lst vacc) ∧ H0 D = none ∧ HRel K S' ι' h' H0 ∧ Ext S1 ι1 H1 S' ι' H0 ∧ RVs K S' ι' acc vacc ∧
      PostG K mg W S1 ι1 H1 σ (KQ K Q) ((lcD dg dt de (wipeE ρ vs) (xs.drop i) acc h').bind fun ds h2 => newL fz ds h2),
    ⟨xs.length, h1, S1, ι1, [], [], H1, Nat.zero_le _, rfl, rfl, hD, r1, Ext.refl, .nil, p1⟩, ?_⟩
  rintro i m H' ⟨h', S', ι', acc, vacc, H0, hi', rfl, rfl, h0, r0, ex0, ra, p0⟩
  have rp : HRel K S' ι' h' (upd H0 D (.lst vacc)) := r0.plus h0
  have nD : D ∉ ι' := fun m => r0.out D m h0
  have re' : ERel K S' ι' ρ σ := (re.ext ex1).ext ex0
  obtain ⟨hstop, hgo⟩ := hJ i S' ι' h' _ ex0.sub ex0.pre rp
  by_cases hl : i < xs.length
  · refine .inr ?_
    have hd : xs.drop i = xs[i] :: xs.drop (i + 1) := List.drop_eq_getElem_cons hl
    obtain ⟨go, hy⟩ := hgo xs[i] (List.getElem?_eq_getElem hl)
    refine ⟨go, fun H' => ∃ h' S' ι' acc vacc H0, i + 1 ≤ xs.length ∧ xs.length - (i + 1) = xs.length - (i + 1) ∧ H' = upd H0 D (.lst vacc) ∧ H0 D = none ∧ HRel K S' ι' h' H0 ∧ Ext S1 ι1 H1 S' ι' H0 ∧ RVs K S' ι' acc vacc ∧
      PostG K mg W S1 ι1 H1 σ (KQ K Q) ((lcD dg dt de (wipeE ρ vs) (xs.drop (i + 1)) acc h').bind fun ds h2 => newL fz ds h2), fun H' hn => ⟨xs.length - (i + 1), by omega, hn⟩, fun x H2 yl => ?_⟩
    obtain ⟨S2, r2, ex2, rv⟩ := hy x H2 yl
    rw [hd] at p0
    unfold lcD at p0
    refine hown x σ H2 _ ?_
    refine hg xs[i] x (wipeE ρ vs) h' S2 ι' (wipe σ vs) H2 _ r2 (wipeE_ok (re'.ext ex2)) rv ?_
    cases e : dg xs[i] (wipeE ρ vs) h' with
    | nx ρ3 h3 =>
      rw [e] at p0
      intro S3 ι3 σ3 H3 r3 re3 ex3
      refine ht ρ3 h3 S3 ι3 σ3 H3 _ r3 re3 ?_
      dsimp only at p0
      cases et : dt ρ3 h3 with
      | ok k h4 =>
        rw [et] at p0
        cases k with
        | true =>
          intro S4 ι4 H4 r4 ex4
          rw [if_pos rfl]
          refine he ρ3 h4 S4 ι4 σ3 H4 _ r4 (re3.ext ex4) ?_
          dsimp only at p0
          cases ee : de ρ3 h4 with
          | ok d h5 =>
            rw [ee] at p0
            dsimp only at p0
            intro S5 ι5 H5 r5 ex5 y ry
            by_cases hn : acc.length < LN
            · rw [if_pos hn] at p0
              have ex25 := ((ex2.trans ex3).trans ex4).trans ex5
              have h5D : H5 D = some (.lst vacc) := ex25.keep D _ upd_same nD
              have n5 : D ∉ ι5 := fun m => by
                rcases ex25.new D m with q | q
                · exact nD q
                · rw [upd_same] at q; cases q
              have s5 : S5 D = none := by
                rcases none_or (H := S5) D with q | ⟨o, q⟩
                · exact q
                · rcases ex25.snew D (by rw [q]; exact fun z => nomatch z) with z | z | z
                  · exact absurd (Hp.snone r0 h0) z
                  · exact absurd z nD
                  · rw [upd_same] at z; cases z
              refine ⟨vacc, h5D, by rw [← ra.length]; exact Nat.lt_of_lt_of_le hn LN_le, h5, S5, ι5, acc ++ [d], vacc ++ [y], minus H5 D, hl, rfl, ?_, minus_at, r5.minus n5 s5, ex0.around hD ex25 nD, (ra.ext ex25).append (.cons ry .nil), p0⟩
              funext a
              by_cases k : a = D
              · subst k; rw [upd_same, upd_same]
              · rw [upd_ne k, upd_ne k, minus_ne k]
            · rw [if_neg hn] at p0; exact p0.elim
          | exc c p h5 => rw [ee] at p0; exact p0.elim
          | stuck => rw [ee] at p0; exact p0.elim
        | false =>
          intro S4 ι4 H4 r4 ex4
          rw [if_neg Bool.false_ne_true]
          dsimp only at p0
          have ex25 := (ex2.trans ex3).trans ex4
          have h5D : H4 D = some (.lst vacc) := ex25.keep D _ upd_same nD
          have n5 : D ∉ ι4 := fun m => by
            rcases ex25.new D m with q | q
            · exact nD q
            · rw [upd_same] at q; cases q
          have s5 : S4 D = none := by
            rcases none_or (H := S4) D with q | ⟨o, q⟩
            · exact q
            · rcases ex25.snew D (by rw [q]; exact fun z => nomatch z) with z | z | z
              · exact absurd (Hp.snone r0 h0) z
              · exact absurd z nD
              · rw [upd_same] at z; cases z
          exact ⟨h4, S4, ι4, acc, vacc, minus H4 D, hl, rfl, (upd_minus h5D).symm, minus_at, r4.minus n5 s5, ex0.around hD ex25 nD, ra.ext ex25, p0⟩
      | exc c p h4 => rw [et] at p0; exact p0.elim
      | stuck => rw [et] at p0; exact p0.elim
    | ret d h3 => rw [e] at p0; exact p0.elim
    | brk ρ3 h3 => rw [e] at p0; exact p0.elim
    | cnt ρ3 h3 => rw [e] at p0; exact p0.elim
    | exc c p ρ3 h3 => rw [e] at p0; exact p0.elim
    | stuck => rw [e] at p0; exact p0.elim
  · have e : i = xs.length := by omega
    subst e
    refine .inl ⟨hstop (Nat.le_refl _), ?_⟩
    rw [List.drop_length] at p0
    unfold lcD at p0
    have p2 : PostG K mg W S1 ι1 H1 σ (KQ K Q) (newL fz acc h') := p0
    have p3 : PostG K mg W S' ι' H0 σ (KQ K Q) (newL fz acc h') := by
      cases q : newL fz acc h' with
      | ok d h2 => rw [q] at p2; exact fun S2 ι2 H2 hr2 ex2 => p2 S2 ι2 H2 hr2 (ex0.trans ex2)
      | exc c p h2 => rw [q] at p2; exact fun cls dd S2 ι2 H2 hr2 ex2 xo => p2 cls dd S2 ι2 H2 hr2 (ex0.trans ex2) xo
      | stuck => rw [q] at p2; exact p2
    exact (newL_post r0 ra p3).2 D h0
end
end Ev
set_option maxHeartbeats 1000000
/-! Ev, part Fb: comprehensions of two clauses. -/
namespace Ev
open PySem PySem.Spec PyProof.Rows L2
section
variable {K : PySem.W.Frag} {mg : Str → Option Value} {W : WX} {Q : VK}
theorem ERel.up {S S' : Hp} {ι ι' : List Addr} {ρ : Env} {σ : L2.St} (r : ERel K S ι ρ σ) (hS : Sub S S') (hι : ∀ (n : Nat) (a : Addr), ι[n]? = some a → ι'[n]? = some a) : ERel K S' ι' ρ σ :=
  ⟨r.1, fun i d e => let ⟨v, h1, h2⟩ := r.2 i d e; ⟨v, h1, h2.up hS hι⟩⟩
/-- the list that is made stands at D, out of sight -/
def StD (K : PySem.W.Frag) (S1 : Hp) (ι1 : List Addr) (H1 : Hp) (D : Addr) (h : Hs) (S : Hp) (ι : List Addr) (acc : List Ev.D) (H : Hp) : Prop :=
  ∃ vacc H0, H = upd H0 D (.lst vacc) ∧ H0 D = none ∧ HRel K S ι h H0 ∧ Ext S1 ι1 H1 S ι H0 ∧ RVs K S ι acc vacc
variable {S1 : Hp} {ι1 : List Addr} {H1 : Hp} {D : Addr} {h : Hs} {S : Hp} {ι : List Addr} {acc : List Ev.D} {H : Hp}
theorem StD.rel (x : StD K S1 ι1 H1 D h S ι acc H) : HRel K S ι h H := by
  obtain ⟨vacc, H0, rfl, h0, r0, _, _⟩ := x
  exact r0.plus h0
theorem StD.step (hD : H1 D = none) (x : StD K S1 ι1 H1 D h S ι acc H) {h5 : Hs} {S5 : Hp} {ι5 : List Addr} {H5 : Hp} (r5 : HRel K S5 ι5 h5 H5) (ex : Ext S ι H S5 ι5 H5) :
    StD K S1 ι1 H1 D h5 S5 ι5 acc H5 ∧ ∃ vacc, H5 D = some (.lst vacc) ∧ vacc.length = acc.length ∧ ∀ d y, RV K S5 ι5 d y → StD K S1 ι1 H1 D h5 S5 ι5 (acc ++ [d]) (upd H5 D (.lst (vacc ++ [y]))) := by
  obtain ⟨vacc, H0, rfl, h0, r0, ex0, ra⟩ := x
  have nD : D ∉ ι := fun m => r0.out D m h0
  have h5D : H5 D = some (.lst vacc) := ex.keep D _ upd_same nD
  have n5 : D ∉ ι5 := fun m => by
    rcases ex.new D m with q | q
    · exact nD q
    · rw [upd_same] at q; cases q
  have s5 : S5 D = none := by
    rcases none_or (H := S5) D with q | ⟨o, q⟩
    · exact q
    · rcases ex.snew D (by rw [q]; exact fun z => nomatch z) with z | z | z
      · exact absurd (Hp.snone r0 h0) z
      · exact absurd z nD
      · rw [upd_same] at z; cases z
  refine ⟨⟨vacc, minus H5 D, (upd_minus h5D).symm, minus_at, r5.minus n5 s5, ex0.around hD ex nD, ra.ext ex⟩, vacc, h5D, ra.length.symm, fun d y ry => ⟨vacc ++ [y], minus H5 D, ?_, minus_at, r5.minus n5 s5, ex0.around hD ex nD, (ra.ext ex).append (.cons ry .nil)⟩⟩
  funext a
  by_cases k : a = D
  · subst k; rw [upd_same, upd_same]
  · rw [upd_ne k, upd_ne k, minus_ne k]
theorem StD.fin {fz : Bool} {σ : L2.St} (hD : H1 D = none) (x : StD K S1 ι1 H1 D h S ι acc H) (p2 : PostG K mg W S1 ι1 H1 σ (KQ K Q) (newL fz acc h)) : Q (.ref D) H := by
  obtain ⟨vacc, H0, rfl, h0, r0, ex0, ra⟩ := x
  have p3 : PostG K mg W S ι H0 σ (KQ K Q) (newL fz acc h) := by
    cases q : newL fz acc h with
    | ok d h2 => rw [q] at p2; exact fun S2 ι2 H2 hr2 ex2 => p2 S2 ι2 H2 hr2 (ex0.trans ex2)
    | exc c p h2 => rw [q] at p2; exact fun cls dd S2 ι2 H2 hr2 ex2 xo => p2 cls dd S2 ι2 H2 hr2 (ex0.trans ex2) xo
    | stuck => rw [q] at p2; exact p2
  exact (newL_post r0 ra p3).2 D h0
/-- what is left when the inner loop is at ys' -/
def restD (g : Ev.D → Env → Hs → Out) (i1 : Env → Hs → R (List Ev.D)) (g1 : Ev.D → Env → Hs → Out) (c1 : Env → Hs → R Bool) (e : Env → Hs → R Ev.D) (ρ : Env) (vs1 : List Nat) (xs : List Ev.D) (ρ1 : Env) (ys : List Ev.D) (acc : List Ev.D) (h : Hs) : R (List Ev.D) :=
  match lcD g1 c1 e (wipeE ρ1 vs1) ys acc h with
  | .ok acc' h3 => lc2D g i1 g1 c1 e ρ vs1 xs acc' h3
  | _ => .stuck
theorem lc2_sound {fz : Bool} {wi wi1 : TI} {di di1 : Env → Hs → R (List Ev.D)} {g g1 : TG} {dg dg1 : Ev.D → Env → Hs → Out} {tt1 : TT} {dt1 : Env → Hs → R Bool} {te : TE} {de : Env → Hs → R Ev.D} {vs vs1 : List Nat} (hi : SI K mg W wi di)
    (hg : SG K mg (fun _ _ _ _ => False) g dg) (hown : OwnG g vs) (hi1 : SI K mg (fun _ _ _ _ => False) wi1 di1) (hg1 : SG K mg (fun _ _ _ _ => False) g1 dg1) (hown1 : OwnG g1 vs1)
    (ht : ST K mg (fun _ _ _ _ => False) tt1 dt1) (he : SE K mg (fun _ _ _ _ => False) te de) :
    SE K mg W (tLc2 wi g tYes wi1 g1 tt1 te vs vs1) fun ρ h => (di ρ h).bind fun xs h1 => (lc2D dg di1 dg1 dt1 de (wipeE ρ vs) vs1 xs [] h1).bind fun ds h2 => newL fz ds h2 := by
  intro ρ h S ι σ H Q r re hp
  refine hi ρ h S ι σ H _ r re (PostG.imp hp.bind fun xs h1 S1 ι1 H1 r1 ex1 p1 J hJ => ?_)
  intro D hD
  refine ⟨fun i m H' => ∃ h' S' ι' acc, i ≤ xs.length ∧ m = xs.length - i ∧ StD K S1 ι1 H1 D h' S' ι' acc H' ∧ Sub S1 S' ∧ (∀ (n : Nat) (a : Addr), ι1[n]? = some a → ι'[n]? = some a) ∧
      PostG K mg W S1 ι1 H1 σ (KQ K Q) ((lc2D dg di1 dg1 dt1 de (wipeE ρ vs) vs1 (xs.drop i) acc h').bind fun ds h2 => newL fz ds h2),
    ⟨xs.length, h1, S1, ι1, [], Nat.zero_le _, rfl, ⟨[], H1, rfl, hD, r1, Ext.refl, .nil⟩, fun _ _ e => e, fun _ _ e => e, p1⟩, ?_⟩
  rintro i m H' ⟨h', S', ι', acc, hi', rfl, X, sb, pr, p0⟩
  have rp := X.rel
  have re' : ERel K S' ι' ρ σ := (re.ext ex1).up sb pr
  obtain ⟨hstop, hgo⟩ := hJ i S' ι' h' _ sb pr rp
  by_cases hl : i < xs.length
  · refine .inr ?_
    have hd : xs.drop i = xs[i] :: xs.drop (i + 1) := List.drop_eq_getElem_cons hl
    obtain ⟨go, hy⟩ := hgo xs[i] (List.getElem?_eq_getElem hl)
    refine ⟨go, fun H' => ∃ h' S' ι' acc, i + 1 ≤ xs.length ∧ xs.length - (i + 1) = xs.length - (i + 1) ∧ StD K S1 ι1 H1 D h' S' ι' acc H' ∧ Sub S1 S' ∧ (∀ (n : Nat) (a : Addr), ι1[n]? = some a → ι'[n]? = some a) ∧
      PostG K mg W S1 ι1 H1 σ (KQ K Q) ((lc2D dg di1 dg1 dt1 de (wipeE ρ vs) vs1 (xs.drop (i + 1)) acc h').bind fun ds h2 => newL fz ds h2), fun H' hn => ⟨xs.length - (i + 1), by omega, hn⟩, fun x H2 yl => ?_⟩
    obtain ⟨S2, r2, ex2, rv⟩ := hy x H2 yl
    rw [hd] at p0
    unfold lc2D at p0
    refine hown x σ H2 _ ?_
    refine hg xs[i] x (wipeE ρ vs) h' S2 ι' (wipe σ vs) H2 _ r2 (wipeE_ok (re'.ext ex2)) rv ?_
    cases e : dg xs[i] (wipeE ρ vs) h' with
    | nx ρ3 h3 =>
      rw [e] at p0
      intro S3 ι3 σ3 H3 r3 re3 ex3
      unfold tYes
      dsimp only
      rw [if_pos rfl]
      refine hi1 ρ3 h3 S3 ι3 σ3 H3 _ r3 re3 ?_
      dsimp only at p0
      cases ei : di1 ρ3 h3 with
      | ok ys h4 =>
        rw [ei] at p0
        intro S4 ι4 H4 r4 ex4 J1 hJ1
        have p0' : PostG K mg W S1 ι1 H1 σ (KQ K Q) ((restD dg di1 dg1 dt1 de (wipeE ρ vs) vs1 (xs.drop (i + 1)) ρ3 ys acc h4).bind fun ds h2 => newL fz ds h2) := p0
        have ex24 := (ex2.trans ex3).trans ex4
        obtain ⟨X4, _⟩ := X.step hD r4 ex24
        have re4 : ERel K S4 ι4 ρ3 σ3 := re3.ext ex4
        refine ⟨fun j k H' => ∃ h' S' ι' acc, j ≤ ys.length ∧ k = ys.length - j ∧ StD K S1 ι1 H1 D h' S' ι' acc H' ∧ Sub S4 S' ∧ (∀ (n : Nat) (a : Addr), ι4[n]? = some a → ι'[n]? = some a) ∧
            PostG K mg W S1 ι1 H1 σ (KQ K Q) ((restD dg di1 dg1 dt1 de (wipeE ρ vs) vs1 (xs.drop (i + 1)) ρ3 (ys.drop j) acc h').bind fun ds h2 => newL fz ds h2),
          ⟨ys.length, h4, S4, ι4, acc, Nat.zero_le _, rfl, X4, fun _ _ e => e, fun _ _ e => e, p0'⟩, ?_⟩
        rintro j k H5 ⟨h5, S5, ι5, acc5, hj', rfl, X5, sb5, pr5, p5⟩
        have rp5 := X5.rel
        have re5 : ERel K S5 ι5 ρ3 σ3 := re4.up sb5 pr5
        obtain ⟨hstop5, hgo5⟩ := hJ1 j S5 ι5 h5 _ sb5 pr5 rp5
        by_cases hl5 : j < ys.length
        · refine .inr ?_
          have hd5 : ys.drop j = ys[j] :: ys.drop (j + 1) := List.drop_eq_getElem_cons hl5
          obtain ⟨go5, hy5⟩ := hgo5 ys[j] (List.getElem?_eq_getElem hl5)
          refine ⟨go5, fun H' => ∃ h' S' ι' acc, j + 1 ≤ ys.length ∧ ys.length - (j + 1) = ys.length - (j + 1) ∧ StD K S1 ι1 H1 D h' S' ι' acc H' ∧ Sub S4 S' ∧ (∀ (n : Nat) (a : Addr), ι4[n]? = some a → ι'[n]? = some a) ∧
            PostG K mg W S1 ι1 H1 σ (KQ K Q) ((restD dg di1 dg1 dt1 de (wipeE ρ vs) vs1 (xs.drop (i + 1)) ρ3 (ys.drop (j + 1)) acc h').bind fun ds h2 => newL fz ds h2), fun H' hn => ⟨ys.length - (j + 1), by omega, hn⟩, fun x H6 yl => ?_⟩
          obtain ⟨S6, r6, ex6, rv6⟩ := hy5 x H6 yl
          rw [hd5] at p5
          unfold restD lcD at p5
          refine hown1 x σ3 H6 _ ?_
          refine hg1 ys[j] x (wipeE ρ3 vs1) h5 S6 ι5 (wipe σ3 vs1) H6 _ r6 (wipeE_ok (re5.ext ex6)) rv6 ?_
          cases e6 : dg1 ys[j] (wipeE ρ3 vs1) h5 with
          | nx ρ7 h7 =>
            rw [e6] at p5
            intro S7 ι7 σ7 H7 r7 re7 ex7
            refine ht ρ7 h7 S7 ι7 σ7 H7 _ r7 re7 ?_
            dsimp only at p5
            cases et : dt1 ρ7 h7 with
            | ok kk h8 =>
              rw [et] at p5
              cases kk with
              | true =>
                intro S8 ι8 H8 r8 ex8
                rw [if_pos rfl]
                refine he ρ7 h8 S8 ι8 σ7 H8 _ r8 (re7.ext ex8) ?_
                dsimp only at p5
                cases ee : de ρ7 h8 with
                | ok d h9 =>
                  rw [ee] at p5
                  dsimp only at p5
                  intro S9 ι9 H9 r9 ex9 y ry
                  by_cases hn : acc5.length < LN
                  · rw [if_pos hn] at p5
                    have ex69 := ((ex6.trans ex7).trans ex8).trans ex9
                    obtain ⟨_, vacc, hv, hlen, happ⟩ := X5.step hD r9 ex69
                    refine ⟨vacc, hv, by rw [hlen]; exact Nat.lt_of_lt_of_le hn LN_le, h9, S9, ι9, acc5 ++ [d], hl5, rfl, happ d y ry, fun a o e => ex69.sub _ _ (sb5 a o e), fun n a e => ex69.pre _ _ (pr5 n a e), p5⟩
                  · rw [if_neg hn] at p5; exact p5.elim
                | exc c p h9 => rw [ee] at p5; exact p5.elim
                | stuck => rw [ee] at p5; exact p5.elim
              | false =>
                intro S8 ι8 H8 r8 ex8
                rw [if_neg Bool.false_ne_true]
                dsimp only at p5
                have ex68 := (ex6.trans ex7).trans ex8
                obtain ⟨X8, _⟩ := X5.step hD r8 ex68
                exact ⟨h8, S8, ι8, acc5, hl5, rfl, X8, fun a o e => ex68.sub _ _ (sb5 a o e), fun n a e => ex68.pre _ _ (pr5 n a e), p5⟩
            | exc c p h8 => rw [et] at p5; exact p5.elim
            | stuck => rw [et] at p5; exact p5.elim
          | ret d h7 => rw [e6] at p5; exact p5.elim
          | brk ρ7 h7 => rw [e6] at p5; exact p5.elim
          | cnt ρ7 h7 => rw [e6] at p5; exact p5.elim
          | exc c p ρ7 h7 => rw [e6] at p5; exact p5.elim
          | stuck => rw [e6] at p5; exact p5.elim
        · have e : j = ys.length := by omega
          subst e
          refine .inl ⟨hstop5 (Nat.le_refl _), ?_⟩
          rw [List.drop_length] at p5
          unfold restD lcD at p5
          have ex14 := ex24
          exact ⟨h5, S5, ι5, acc5, hl, rfl, X5, fun a o e => sb5 _ _ (ex24.sub _ _ (sb a o e)), fun n a e => pr5 _ _ (ex24.pre _ _ (pr n a e)), p5⟩
      | exc c p h4 => rw [ei] at p0; exact p0.elim
      | stuck => rw [ei] at p0; exact p0.elim
    | ret d h3 => rw [e] at p0; exact p0.elim
    | brk ρ3 h3 => rw [e] at p0; exact p0.elim
    | cnt ρ3 h3 => rw [e] at p0; exact p0.elim
    | exc c p ρ3 h3 => rw [e] at p0; exact p0.elim
    | stuck => rw [e] at p0; exact p0.elim
  · have e : i = xs.length := by omega
    subst e
    refine .inl ⟨hstop (Nat.le_refl _), ?_⟩
    rw [List.drop_length] at p0
    unfold lc2D at p0
    exact X.fin hD p0
end
end Ev
/-! Ev, part G: the checker against the row's syntax. -/
namespace Ev
open PySem PySem.Spec PyProof.Rows L2

def vis (sc : Scope) (x : Str) : Bool := match sc.names.lookup x with
  | some .local => true
  | some .cell => true
  | some .free => true
  | _ => false
def loc (sc : Scope) (x : Str) : Bool := match sc.names.lookup x with
  | some .local => true
  | some .cell => true
  | _ => false
def isLocal (sc : Scope) (x : Str) : Bool := match sc.names.lookup x with
  | some .local => true
  | _ => false
def glb (sc : Scope) (x : Str) : Bool := match sc.names.lookup x with
  | some .globalImplicit => true
  | _ => false
def nodbg (x : Str) : Bool := !(x == ("__debug__" : Str)) && !(x == ("__classdict__" : Str))
def notStar : Expr → Bool
  | .Starred .. => false
  | _ => true
def notComp : Expr → Bool
  | .ListComp .. => false
  | .SetComp .. => false
  | .DictComp .. => false
  | _ => true
def notSet : Expr → Bool
  | .Set .. => false
  | _ => true
def notSlice : Expr → Bool
  | .Slice .. => false
  | _ => true
def notTup : Expr → Bool
  | .Tuple .. => false
  | .List .. => false
  | _ => true
def isName : Expr → Bool
  | .Name .. => true
  | _ => false
def isTup : Expr → Bool
  | .Tuple .. => true
  | _ => false
/-- as a test it is its value's truth -/
def plainT : Expr → Bool
  | .UnaryOp .Not _ _ => false
  | .BoolOp .. => false
  | .IfExp .. => false
  | .Compare .. => false
  | _ => true

/-- no super() -/
def plainB : Expr → Bool
  | .Call (.Name _ _) [] [] _ => false
  | _ => true
def Tg.slots : Tg → List Nat
  | .name i => [i]
  | .tup ts => Tgs.slots ts
  | .idx _ _ => []
where Tgs.slots : Tgs → List Nat
  | .nil => []
  | .cons t ts => t.slots ++ Tgs.slots ts

mutual
/-- a target of names alone, all own of the block -/
def Tg.okN (N : List Str) (fn : Str → Bool) (sc : Scope) (vs : List Nat) : Tg → Expr → Bool
  | .name i, e => match e with
    | .Name x _ => decide (N[i]? = some x) && loc sc x && (fn x || isLocal sc x) && vs.contains i
    | _ => false
  | .tup ts, e => match e with
    | .Tuple es _ _ => ts.okN N fn sc vs es
    | _ => false
  | .idx _ _, _ => false
def Tgs.okN (N : List Str) (fn : Str → Bool) (sc : Scope) (vs : List Nat) : Tgs → List Expr → Bool
  | .nil, es => es.isEmpty
  | .cons t ts, es => match es with
    | e :: r => notStar e && t.okN N fn sc vs e && ts.okN N fn sc vs r
    | [] => false
end

def Mt.nm : Mt → Str
  | .append => "append" | .pop => "pop" | .popAt => "pop" | .index => "index" | .insert => "insert" | .tindex => "index"
mutual
def Ex.ok (N bl fl : List Str) : Scope → Ex → Expr → Bool
  | sc, .var i, e => match e with
    | .Name x _ => decide (N[i]? = some x) && vis sc x && nodbg x
    | _ => false
  | sc, .glob y, e => match e with
    | .Name x _ => decide (x = y) && glb sc x && nodbg x
    | _ => false
  | _, .cint i, e => match e with
    | .Constant (.int j) _ _ => decide (i = j)
    | _ => false
  | _, .cbl i, e => match e with
    | .Constant (.bool j) _ _ => decide (i = j)
    | _ => false
  | _, .cnon, e => match e with
    | .Constant .none _ _ => true
    | _ => false
  | _, .cstr i, e => match e with
    | .Constant (.str j) _ _ => decide (i = j)
    | _ => false
  | sc, .bin o _ a b, e => match e with
    | .BinOp x p y _ => decide (o.op = p) && a.ok N bl fl sc x && b.ok N bl fl sc y
    | _ => false
  | sc, .neg a, e => match e with
    | .UnaryOp .USub x _ => a.ok N bl fl sc x
    | _ => false
  | sc, .cmp o a b, e => match e with
    | .Compare x [p] [y] _ => decide (o.op = p) && a.ok N bl fl sc x && b.ok N bl fl sc y && !behindInMarks p y
    | _ => false
  | sc, .chain o o' a b c, e => match e with
    | .Compare x [p, q] [y, z] _ => decide (o.op = p) && decide (o'.op = q) && a.ok N bl fl sc x && b.ok N bl fl sc y && c.ok N bl fl sc z && !lastMarks [p, q] [y, z]
    | _ => false
  | sc, .and a b, e => match e with
    | .BoolOp .And (x :: y :: r) pos => a.ok N bl fl sc x && (match r with | [] => b.ok N bl fl sc y | z :: r => b.ok N bl fl sc (.BoolOp .And (y :: z :: r) pos))
    | _ => false
  | sc, .or a b, e => match e with
    | .BoolOp .Or (x :: y :: r) pos => a.ok N bl fl sc x && (match r with | [] => b.ok N bl fl sc y | z :: r => b.ok N bl fl sc (.BoolOp .Or (y :: z :: r) pos))
    | _ => false
  | sc, .not a, e => match e with
    | .UnaryOp .Not x _ => a.ok N bl fl sc x
    | _ => false
  | sc, .ite c a b, e => match e with
    | .IfExp t x y _ => c.ok N bl fl sc t && a.ok N bl fl sc x && b.ok N bl fl sc y
    | _ => false
  | sc, .tup es, e => match e with
    | .Tuple xs _ _ => es.ok N bl fl sc xs
    | _ => false
  | sc, .lst _ es, e => match e with
    | .List xs _ => es.ok N bl fl sc xs
    | _ => false
  | sc, .idx a i, e => match e with
    | .Subscript x y _ => a.ok N bl fl sc x && i.ok N bl fl sc y && notSlice y
    | _ => false
  | sc, .slice _ a lo hi, e => match e with
    | .Subscript x (.Slice l u none _) _ => a.ok N bl fl sc x && lo.okO N bl fl sc l && hi.okO N bl fl sc u
    | _ => false
  | sc, .call f es, e => match e with
    | .Call (.Name x _) xs [] _ => decide (fl[f]? = some x) && glb sc x && nodbg x && es.ok N bl fl sc xs && !xs.isEmpty
    | _ => false
  | sc, .prim p _ es, e => match e with
    | .Call (.Name x _) xs [] _ => decide (x = p.nm) && bl.contains x && glb sc x && nodbg x && (match p with
      | .isinst t => (match es, xs with
        | .cons a .nil, [y, .Name z _] => (t == "tuple" || t == "list" || t == "bool" || t == "int" || t == "str") && a.ok N bl fl sc y && notStar y && decide (z = Str.ofString t) && bl.contains z && glb sc z && nodbg z
        | _, _ => false)
      | _ => es.ok N bl fl sc xs && !xs.isEmpty)
    | _ => false
  | sc, .lrange _ a, e => match e with
    | .Call (.Name x _) [.Call (.Name y _) [z] [] _] [] _ => decide (x = ("list" : Str)) && decide (y = ("range" : Str)) && bl.contains x && bl.contains y && glb sc x && glb sc y && a.ok N bl fl sc z && notStar z
    | _ => false
  | sc, .lc _ own tg it cond elt, e => match e with
    | .ListComp x [⟨t, i, ifs, a⟩] scope _ => decide (a = 0) && it.ok N bl fl sc t i && blkC N sc scope own &&
        tg.okN N (fun x => scope.names.lookup x == some .cell) (relS scope sc) (own.map (·.2)) t && cond.okC N bl fl (relS scope sc) ifs && elt.ok N bl fl (relS scope sc) x
    | _ => false
  | sc, .freeze a, e => a.ok N bl fl sc e
  | sc, .rev _ a, e => match e with
    | .Subscript x (.Slice none none (some (.UnaryOp .USub (.Constant (.int 1) _ _) _)) _) _ => a.ok N bl fl sc x
    | _ => false
  | _, .dnew _, e => match e with
    | .Dict [] [] _ => true
    | _ => false
  | sc, .meth m a es, e => match e with
    | .Call (.Attribute o x ap) xs [] cp => decide (x = m.nm) && (match m with | .pop => xs.isEmpty | _ => !xs.isEmpty) && a.ok N bl fl sc o && es.ok N bl fl sc xs && (ap.endLine == cp.line) && plainB o && decide (xs.length < 9)
    | _ => false
  | sc, .tupS es, e => match e with
    | .Tuple xs _ _ => es.ok N bl fl sc xs
    | _ => false
  | sc, .lc2 _ own vs1 tg it tg1 it1 cond elt, e => match e with
    | .ListComp x [⟨t, i, ifs, a⟩, ⟨t1, i1, ifs1, a1⟩] scope _ => decide (a = 0) && decide (a1 = 0) && ifs.isEmpty && it.ok N bl fl sc t i && blkC N sc scope own && (vs1.all fun v => (own.map (·.2)).contains v) &&
        tg.okN N (fun x => scope.names.lookup x == some .cell) (relS scope sc) (own.map (·.2)) t && it1.ok N bl fl (relS scope sc) t1 i1 &&
        tg1.okN N (fun x => scope.names.lookup x == some .cell) (relS scope sc) vs1 t1 && cond.okC N bl fl (relS scope sc) ifs1 && elt.ok N bl fl (relS scope sc) x
    | _ => false
  | sc, .ctup es, e => match e with
    | .Tuple xs _ _ => es.ok N bl fl sc xs
    | _ => false
  | sc, .fzd a, e => a.ok N bl fl sc e
def Sxs.ok (N bl fl : List Str) : Scope → Sxs → List Expr → Bool
  | _, .nil, es => es.isEmpty
  | sc, .cons a as, es => match es with
    | e :: r => a.ok N bl fl sc e && notStar e && as.ok N bl fl sc r
    | [] => false
  | sc, .star a as, es => match es with
    | .Starred e _ :: r => a.ok N bl fl sc e && as.ok N bl fl sc r
    | _ => false
def Exs.ok (N bl fl : List Str) : Scope → Exs → List Expr → Bool
  | _, .nil, es => es.isEmpty
  | sc, .cons a as, es => match es with
    | e :: r => a.ok N bl fl sc e && notStar e && as.ok N bl fl sc r
    | [] => false
/-- an optional part -/
def Exs.okO (N bl fl : List Str) : Scope → Exs → Option Expr → Bool
  | _, .nil, e => e.isNone
  | sc, .cons a as, e => match e, as with
    | some e, .nil => a.ok N bl fl sc e
    | _, _ => false
/-- a clause's tests -/
def Exs.okC (N bl fl : List Str) : Scope → Exs → List Expr → Bool
  | _, .nil, es => es.isEmpty
  | sc, .cons a as, es => match es, as with
    | [e], .nil => a.ok N bl fl sc e
    | _, _ => false
def Itx.ok (N bl fl : List Str) : Scope → Itx → Expr → Expr → Bool
  | sc, .seq a, _, e => a.ok N bl fl sc e && notSet e
  | sc, .range es, _, e => match e with
    | .Call (.Name x _) xs [] _ => decide (x = ("range" : Str)) && bl.contains x && glb sc x && es.ok N bl fl sc xs && decide (1 ≤ xs.length) && decide (xs.length ≤ 3)
    | _ => false
  | sc, .enum a, t, e => match e with
    | .Call (.Name x _) [y] [] _ => decide (x = ("enumerate" : Str)) && bl.contains x && glb sc x && a.ok N bl fl sc y && notStar y && isTup t
    | _ => false
  | sc, .zip a b, t, e => match e with
    | .Call (.Name x _) [y, z] [] _ => decide (x = ("zip" : Str)) && bl.contains x && glb sc x && a.ok N bl fl sc y && notStar y && b.ok N bl fl sc z && notStar z && isTup t
    | _ => false
  | sc, .zipM a b, t, e => match e with
    | .Call (.Name x _) [y, z] [] _ => decide (x = ("zip" : Str)) && bl.contains x && glb sc x && a.ok N bl fl sc y && notStar y && b.ok N bl fl sc z && notStar z && isTup t
    | _ => false
  | sc, .enumZ a b, t, e => match e with
    | .Call (.Name x _) [.Call (.Name x2 _) [y, z] [] _] [] _ => decide (x = ("enumerate" : Str)) && bl.contains x && glb sc x && decide (x2 = ("zip" : Str)) && bl.contains x2 && glb sc x2 && a.ok N bl fl sc y && notStar y && b.ok N bl fl sc z && notStar z && isTup t
    | _ => false
  | sc, .zipS a, t, e => match e with
    | .Call (.Name x _) [.Starred y _] [] _ => decide (x = ("zip" : Str)) && bl.contains x && glb sc x && a.ok N bl fl sc y && isName t
    | _ => false
  | sc, .enumF a k, t, e => match e with
    | .Call (.Name x _) [y, .Constant (.int i) _ _] [] _ => decide (x = ("enumerate" : Str)) && bl.contains x && glb sc x && a.ok N bl fl sc y && notStar y && isTup t && decide (i = (k : Int)) && decide (k < 1000)
    | _ => false
end
end Ev
/-! Ev, part H: the denotation of expressions is sound. -/
namespace Ev
open PySem PySem.Spec PyProof.Rows L2

/-- what a def does, cells and all -/
def spF (K : PySem.W.Frag) (mg : Str → Option Value) (n : Nat) (m : List D → Hs → R D) : Sp := fun vs H Q E => ∃ S ι h ds, vs.length = n ∧ HRel K S ι h H ∧ RVs K S ι ds vs ∧ match m ds h with
  | .ok d h' => ∀ v S' ι' H', HRel K S' ι' h' H' → Ext S ι H S' ι' H' → RV K S' ι' d v → Q v H'
  | .exc c p h' => ∀ cls dd S' ι' H', HRel K S' ι' h' H' → Ext S ι H S' ι' H' → XOk K mg c p cls dd S' ι' → E cls dd H'
  | .stuck => False
def FnFact (c : Cfg) (X : Cx) (f : Str) (i : Nat) : Prop := ∃ (a : Addr) (fd : FuncData) (ps : List Str) (k : Nat),
  FnG X.prog X.w X.K X.mg X.base (L2.CX X.prog X.w) k a fd ps (spF X.K X.mg ps.length (c.Γ i)) ∧ (∀ ds h, ds.length ≠ ps.length → c.Γ i ds h = .stuck) ∧ Room k X.A ∧ X.mg f = some (.ref a) ∧ PySem.W.keepIn X.K (.ref a) = true ∧ Binds X.K fd ps []
structure Good (c : Cfg) (bl fl : List Str) (X : Cx) : Prop where
  calm : X.calm = true
  nd : X.N.Nodup
  kind : X.env.scope.kind = .function
  un : X.A.units + 65 < cLine
  gd : X.A.guards = some []
  blt : ∀ x, bl.contains x = true → X.mg x = none
  gl : ∀ x d, c.gl x = some d → ∃ v u, X.mg x = some u ∧ RelV v u ∧ ∀ S ι, RV X.K S ι d v
  fns : ∀ i f, fl[i]? = some f → FnFact c X f i

/-! ### side conditions -/
section
variable {e : Expr} {es : List Expr} {env : PySem.Env}
theorem starOf (h : notStar e = true) : starEach (e :: es) env = (false, eval e env) :: starEach es env := by
  cases e <;> first | rfl | cases h
theorem star1 (h : notStar e = true) : starEach [e] env = [(false, eval e env)] := by
  cases e <;> first | rfl | cases h
theorem back_of (pos : Pos) : ∀ es : List Expr, es.all notStar = true → (backTo pos (starEach es env)).any (·.1) = false
  | [], _ => rfl
  | e :: es, h => by
    rw [List.all_cons, Bool.and_eq_true] at h
    rw [starOf h.1]
    show (false || (backTo pos (starEach es env)).any (·.1)) = false
    rw [back_of pos es h.2]; rfl
theorem swaps_no (t : Option Expr) (l : Nat) (h : notComp e = true) : swapsWith e t l env = pure false := by
  cases e <;> first | rfl | cases h
theorem truth_of (h : plainT e = true) : ∀ whole, isTrue e env whole = (do let v ← whole; standAt e.pos; holding [v] (truthy v)) := by
  intro whole
  cases e with
  | UnaryOp o x p => cases o <;> first | rfl | cases h
  | BoolOp _ _ _ => cases h
  | IfExp _ _ _ _ => cases h
  | Compare _ _ _ _ => cases h
  | _ => rfl
theorem ix_of (h : notSlice e = true) : PlainIx e := by
  intro o i
  cases e <;> first | rfl | cases h
theorem set_of (h : notSet e = true) : ∀ x, foldedSetIterable e env x = pure x := by
  intro x
  cases e <;> first | rfl | cases h
end
theorem vis_of {sc : Scope} {x : Str} (h : vis sc x = true) : Vis sc x := by
  unfold vis at h
  unfold Vis
  split at h
  · exact .inl (by assumption)
  · exact .inr (.inl (by assumption))
  · exact .inr (.inr (by assumption))
  · cases h
theorem loc_of {sc : Scope} {x : Str} (h : loc sc x = true) : L2.Loc sc x := by
  unfold loc at h
  unfold L2.Loc
  split at h
  · exact .inl (by assumption)
  · exact .inr (by assumption)
  · cases h
theorem local_of {sc : Scope} {x : Str} (h : isLocal sc x = true) : sc.names.lookup x = some .local := by
  unfold isLocal at h
  split at h
  · assumption
  · cases h
theorem gl_of {X : Cx} {x : Str} (h : glb X.env.scope x = true) : Gl X x := by
  unfold glb at h
  split at h
  · assumption
  · cases h
theorem dbg1 {x : Str} (h : nodbg x = true) : (x == ("__debug__" : Str)) = false := by
  unfold nodbg at h
  rw [Bool.and_eq_true] at h
  simpa using h.1
theorem dbg2 {x : Str} (h : nodbg x = true) : (x == ("__classdict__" : Str)) = false := by
  unfold nodbg at h
  rw [Bool.and_eq_true] at h
  simpa using h.2
theorem PI.or {X : Cx} {tg e : Expr} {w1 w2 : TI} (h1 : PI X tg e w1) (h2 : PI X tg e w2) : PI X tg e (fun σ H R => w1 σ H R ∨ w2 σ H R) :=
  ⟨fun pins s σ H R I q => q.elim (fun z => h1.run pins s σ H R I z) (fun z => h2.run pins s σ H R I z)⟩
/-- the weakest reading over some contexts -/
theorem PE.weak {T : Type} {F : T → Cx} {e : Expr} {K : PySem.W.Frag} {mg : Str → Option Value} {W : WX} {de : Env → Hs → R D} (h : ∀ t, ∃ te, PE (F t) e te ∧ SE K mg W te de) : ∃ te, (∀ t, PE (F t) e te) ∧ SE K mg W te de := by
  refine ⟨fun σ H Q => ∀ t, ∃ te, PE (F t) e te ∧ te σ H Q, fun t => ⟨fun pins s σ H Q I q => ?_⟩, fun ρ h' S ι σ H Q r re hp t => ?_⟩
  · obtain ⟨te, p, q⟩ := q t
    exact p.run pins s σ H Q I q
  · obtain ⟨te, p, q⟩ := h t
    exact ⟨te, p, q ρ h' S ι σ H Q r re hp⟩
theorem PTs.weak {T : Type} {F : T → Cx} {es : List Expr} {K : PySem.W.Frag} {mg : Str → Option Value} {W : WX} {de : Env → Hs → R Bool} (h : ∀ t, ∃ te, PTs (F t) es te ∧ ST K mg W te de) : ∃ te, (∀ t, PTs (F t) es te) ∧ ST K mg W te de := by
  refine ⟨fun σ H Q => ∀ t, ∃ te, PTs (F t) es te ∧ te σ H Q, fun t => ⟨fun pins s σ H Q I q => ?_⟩, fun ρ h' S ι σ H Q r re hp t => ?_⟩
  · obtain ⟨te, p, q⟩ := q t
    exact p.run pins s σ H Q I q
  · obtain ⟨te, p, q⟩ := h t
    exact ⟨te, p, q ρ h' S ι σ H Q r re hp⟩

theorem PI.weakX : True := trivial
/-! ### targets of names -/
/-- a tuple or a list, taken apart -/
def gTL (K : PySem.W.Frag) (n : Nat) (t : TGs) : TG := fun v σ H Q => gTup K n t v σ H Q ∨ gLst K n t v σ H Q
theorem pg_tl {X : Cx} {es : List Expr} {k : Nat} {pos : Pos} {t : TGs} {n : Nat} (hc : X.calm = true) (h : PGs X es t) (hn : (assignEach es X.env).length = n) (hs : (assignEach es X.env).findIdx? (·.1) = none) : PG X (.Tuple es k pos) (gTL X.K n t) := by
  constructor
  intro pins s σ H v u Q I r hw
  rcases hw with z | z
  · exact (pg_tup hc h hn hs).run pins s σ H v u Q I r z
  · exact (pg_lst hc h hn hs).run pins s σ H v u Q I r z
mutual
def Tg.g (K : PySem.W.Frag) : Tg → TG
  | .name i => gName i
  | .tup ts => gTL K ts.n (ts.g K)
  | .idx _ _ => fun _ _ _ _ => False
def Tgs.g (K : PySem.W.Frag) : Tgs → TGs
  | .nil => gNil
  | .cons t ts => gCons (t.g K) (ts.g K)
end
section
variable {K : PySem.W.Frag} {mg : Str → Option Value} {W : WX} {c : Cfg}
theorem erel_set {S : Hp} {ι : List Addr} {ρ : Env} {σ : L2.St} {i : Nat} {d : D} {v : V} (re : ERel K S ι ρ σ) (rv : RV K S ι d v) : ERel K S ι (ρ.set i (some d)) (σ.set i (some v)) := by
  refine ⟨by rw [List.length_set, List.length_set]; exact re.1, fun j e hj => ?_⟩
  by_cases k : i = j
  · subst k
    by_cases hl : i < ρ.length
    · rw [List.getElem?_set_self hl] at hj
      cases hj
      exact ⟨v, by rw [List.getElem?_set_self (by rw [← re.1]; exact hl)], rv⟩
    · rw [List.getElem?_eq_none (by simpa using hl)] at hj; cases hj
  · rw [List.getElem?_set_ne k] at hj ⊢
    exact re.2 j e hj
def SGs (K : PySem.W.Frag) (mg : Str → Option Value) (W : WX) (t : TGs) (dg : List D → Env → Hs → Out) : Prop := ∀ ds vs ρ h S ι σ H Q, HRel K S ι h H → ERel K S ι ρ σ → RVs K S ι ds vs →
  (match dg ds ρ h with
    | .nx ρ' h' => ∀ S' ι' σ' H', HRel K S' ι' h' H' → ERel K S' ι' ρ' σ' → Ext S ι H S' ι' H' → Q σ' H'
    | .exc c p ρ' h' => ∀ cls dd S' ι' σ' H', HRel K S' ι' h' H' → ERel K S' ι' ρ' σ' → Ext S ι H S' ι' H' → XOk K mg c p cls dd S' ι' → W cls dd σ' H'
    | _ => False) → t vs σ H Q
mutual
def Tg.plain : Tg → Bool
  | .name _ => true
  | .tup ts => ts.plain
  | .idx _ _ => false
def Tgs.plain : Tgs → Bool
  | .nil => true
  | .cons t ts => t.plain && ts.plain
end
mutual
theorem Tg.sg : ∀ (t : Tg), t.plain = true → SG K mg W (t.g K) (t.den c)
  | .name i, _ => by
    intro d v ρ h S ι σ H Q r re rv hp
    unfold Tg.den at hp
    show Q (σ.set i (some v)) H
    by_cases hl : i < ρ.length
    · rw [if_pos hl] at hp
      exact hp S ι _ H r (erel_set re rv) Ext.refl
    · rw [if_neg hl] at hp; exact hp.elim
  | .tup ts, hpl => by
    intro d v ρ h S ι σ H Q r re rv hp
    unfold Tg.den at hp
    cases d with
    | tup xs =>
      cases rv with
      | @tup a vs _ e1 r1 =>
        dsimp only at hp
        by_cases hl : xs.length = ts.n
        · rw [if_pos hl] at hp
          exact .inl ⟨a, vs, rfl, SqT.of (r.sub _ _ e1), by rw [← r1.length]; exact hl, Tgs.sg ts hpl xs vs ρ h S ι σ H Q r re r1 hp⟩
        · rw [if_neg hl] at hp; exact hp.elim
    | vt xs =>
      cases rv with
      | @vt a o vs _ e1 _ r1 =>
        dsimp only at hp
        by_cases hl : xs.length = ts.n
        · rw [if_pos hl] at hp
          exact .inl ⟨a, vs, rfl, SqT.up r.sub (vtT e1), by rw [← r1.length]; exact hl, Tgs.sg ts hpl xs vs ρ h S ι σ H Q r re r1 hp⟩
        · rw [if_neg hl] at hp; exact hp.elim
    | lst xs =>
      cases rv with
      | @lst a vs _ e1 r1 =>
        dsimp only at hp
        by_cases hl : xs.length = ts.n
        · rw [if_pos hl] at hp
          exact .inr ⟨a, vs, rfl, SqL.of (r.sub _ _ e1), by rw [← r1.length]; exact hl, Tgs.sg ts hpl xs vs ρ h S ι σ H Q r re r1 hp⟩
        · rw [if_neg hl] at hp; exact hp.elim
    | _ => exact hp.elim
  | .idx _ _, hpl => by cases hpl
theorem Tgs.sg : ∀ (ts : Tgs), ts.plain = true → SGs K mg W (ts.g K) (ts.den c)
  | .nil, _ => by
    intro ds vs ρ h S ι σ H Q r re rv hp
    unfold Tgs.den at hp
    cases rv with
    | nil => exact ⟨rfl, hp S ι σ H r re Ext.refl⟩
    | cons _ _ => exact hp.elim
  | .cons t ts, hpl => by
    intro ds vs ρ h S ι σ H Q r re rv hp
    unfold Tgs.plain at hpl
    rw [Bool.and_eq_true] at hpl
    unfold Tgs.den at hp
    cases rv with
    | nil => exact hp.elim
    | @cons d v ds vs r1 rs =>
      refine ⟨v, vs, rfl, Tg.sg t hpl.1 d v ρ h S ι σ H _ r re r1 ?_⟩
      dsimp only at hp
      cases e : t.den c d ρ h with
      | nx ρ1 h1 =>
        rw [e, Out.nx_then] at hp
        intro S1 ι1 σ1 H1 hr1 re1 ex1
        refine Tgs.sg ts hpl.2 ds vs ρ1 h1 S1 ι1 σ1 H1 Q hr1 re1 (rs.ext ex1) ?_
        cases e2 : ts.den c ds ρ1 h1 with
        | nx ρ2 h2 => rw [e2] at hp; exact fun S' ι' σ' H' a b x => hp S' ι' σ' H' a b (ex1.trans x)
        | exc x p ρ2 h2 => rw [e2] at hp; exact fun cls dd S' ι' σ' H' a b x xo => hp cls dd S' ι' σ' H' a b (ex1.trans x) xo
        | ret _ _ => rw [e2] at hp; exact hp
        | brk _ _ => rw [e2] at hp; exact hp
        | cnt _ _ => rw [e2] at hp; exact hp
        | stuck => rw [e2] at hp; exact hp
      | exc x p ρ1 h1 => rw [e] at hp; exact hp
      | ret _ _ => rw [e] at hp; exact hp.elim
      | brk _ _ => rw [e] at hp; exact hp.elim
      | cnt _ _ => rw [e] at hp; exact hp.elim
      | stuck => rw [e] at hp; exact hp.elim
end
end
section
variable {X : Cx} {vs : List Nat}
theorem assign1 {e : Expr} {es : List Expr} {env : PySem.Env} (h : notStar e = true) : (assignEach (e :: es) env).map (·.2) = assign e env :: (assignEach es env).map (·.2) := by
  cases e <;> first | rfl | cases h
mutual
theorem Tg.pg (hc : X.calm = true) (hN : X.N.Nodup) : ∀ (t : Tg) (e : Expr), t.okN X.N X.fn X.env.scope vs e = true → PG X e (t.g X.K)
  | .name i, e, h => by
    unfold Tg.okN at h
    split at h
    · simp only [Bool.and_eq_true, decide_eq_true_eq, Bool.or_eq_true] at h
      exact pg_name hN h.1.1.1 (loc_of h.1.1.2) (h.1.2.imp id local_of)
    · cases h
  | .tup ts, e, h => by
    unfold Tg.okN at h
    split at h
    · exact pg_tl hc (Tgs.pg hc hN ts _ h).1 (Tgs.pg hc hN ts _ h).2.1 (Tgs.pg hc hN ts _ h).2.2
    · cases h
  | .idx _ _, e, h => by cases h
theorem Tgs.pg (hc : X.calm = true) (hN : X.N.Nodup) : ∀ (ts : Tgs) (es : List Expr), ts.okN X.N X.fn X.env.scope vs es = true → PGs X es (ts.g X.K) ∧ (assignEach es X.env).length = ts.n ∧ (assignEach es X.env).findIdx? (·.1) = none
  | .nil, es, h => by
    unfold Tgs.okN at h
    cases es with
    | nil => exact ⟨pgs_nil, rfl, rfl⟩
    | cons _ _ => cases h
  | .cons t ts, es, h => by
    unfold Tgs.okN at h
    cases es with
    | nil => cases h
    | cons e es =>
      dsimp only at h
      simp only [Bool.and_eq_true] at h
      obtain ⟨k1, k2, k3⟩ := Tgs.pg hc hN ts es h.2
      have hs : assignEach (e :: es) X.env = (false, assign e X.env) :: assignEach es X.env := by
        cases e <;> first | rfl | (have := h.1.1; cases this)
      refine ⟨pgs_cons (Tg.pg hc hN t e h.1.2) k1 (assign1 h.1.1), by rw [hs]; exact congrArg Nat.succ k2, ?_⟩
      rw [hs, List.findIdx?_cons, k3]; rfl
end
mutual
theorem Tg.plain_of {N : List Str} {fn : Str → Bool} {sc : Scope} : ∀ (t : Tg) (e : Expr), t.okN N fn sc vs e = true → t.plain = true
  | .name _, _, _ => rfl
  | .tup ts, e, h => by
    unfold Tg.okN at h
    split at h
    · exact Tgs.plain_of ts _ h
    · cases h
  | .idx _ _, _, h => by cases h
theorem Tgs.plain_of {N : List Str} {fn : Str → Bool} {sc : Scope} : ∀ (ts : Tgs) (es : List Expr), ts.okN N fn sc vs es = true → ts.plain = true
  | .nil, _, _ => rfl
  | .cons t ts, es, h => by
    unfold Tgs.okN at h
    cases es with
    | nil => cases h
    | cons e es =>
      dsimp only at h
      simp only [Bool.and_eq_true] at h
      unfold Tgs.plain
      rw [Bool.and_eq_true]
      exact ⟨Tg.plain_of t e h.1.2, Tgs.plain_of ts es h.2⟩
end
/-- own slots wiped again -/
theorem wipe_set {i : Nat} {v : Option V} : ∀ (vs : List Nat) (σ : L2.St), i ∈ vs → wipe (σ.set i v) vs = wipe σ vs
  | [], σ, h => by cases h
  | u :: us, σ, h => by
    unfold wipe
    by_cases k : i ∈ us
    · rw [wipe_set us σ k]
    · have e : i = u := by
        rcases List.mem_cons.mp h with e | e
        · exact e
        · exact absurd e k
      subst e
      have hc : ∀ (us : List Nat) (σ : L2.St), i ∉ us → wipe (σ.set i v) us = (wipe σ us).set i v := by
        intro us
        induction us with
        | nil => intro σ _; rfl
        | cons w ws ih =>
          intro σ hn
          rw [List.mem_cons, not_or] at hn
          unfold wipe
          rw [ih σ hn.2, List.set_comm _ _ hn.1]
      rw [hc us σ k, List.set_set]
theorem wipe_idem (σ : L2.St) : ∀ vs : List Nat, wipe (wipe σ vs) vs = wipe σ vs := by
  have hc : ∀ (us : List Nat) (σ : L2.St) (u : Nat), wipe (σ.set u none) us = (wipe σ us).set u none := by
    intro us
    induction us with
    | nil => intro σ u; rfl
    | cons w ws ih =>
      intro σ u
      unfold wipe
      rw [ih]
      by_cases k : u = w
      · subst k; rfl
      · rw [List.set_comm _ _ k]
  have hi : ∀ (vs : List Nat) (σ : L2.St), wipe (wipe σ vs) vs = wipe σ vs := by
    intro vs
    induction vs with
    | nil => intro σ; rfl
    | cons v vs ih =>
      intro σ
      show (wipe ((wipe σ vs).set v none) vs).set v none = (wipe σ vs).set v none
      rw [hc, ih, List.set_set]
  intro vs
  exact hi vs σ
mutual
theorem Tg.own (K : PySem.W.Frag) {N : List Str} {fn : Str → Bool} {sc : Scope} : ∀ (t : Tg) (e : Expr), t.okN N fn sc vs e = true → ∀ v σ H (Q Q' : L2.St → Hp → Prop), (t.g K) v σ H Q → (∀ σ2 H2, wipe σ2 vs = wipe σ vs → Q σ2 H2 → Q' σ2 H2) → (t.g K) v σ H Q'
  | .name i, e, h, v, σ, H, Q, Q', q, hq => by
    unfold Tg.okN at h
    split at h
    · simp only [Bool.and_eq_true, decide_eq_true_eq, Bool.or_eq_true] at h
      exact hq _ _ (wipe_set vs σ (by simpa using h.2)) q
    · cases h
  | .tup ts, e, h, v, σ, H, Q, Q', q, hq => by
    unfold Tg.okN at h
    split at h
    · rcases q with ⟨a, xs, e1, e2, e3, q⟩ | ⟨a, xs, e1, e2, e3, q⟩
      · exact .inl ⟨a, xs, e1, e2, e3, Tgs.own K ts _ h xs σ H Q Q' q hq⟩
      · exact .inr ⟨a, xs, e1, e2, e3, Tgs.own K ts _ h xs σ H Q Q' q hq⟩
    · cases h
  | .idx _ _, _, h, _, _, _, _, _, _, _ => by cases h
theorem Tgs.own (K : PySem.W.Frag) {N : List Str} {fn : Str → Bool} {sc : Scope} : ∀ (ts : Tgs) (es : List Expr), ts.okN N fn sc vs es = true → ∀ us σ H (Q Q' : L2.St → Hp → Prop), (ts.g K) us σ H Q → (∀ σ2 H2, wipe σ2 vs = wipe σ vs → Q σ2 H2 → Q' σ2 H2) → (ts.g K) us σ H Q'
  | .nil, es, h, us, σ, H, Q, Q', q, hq => ⟨q.1, hq _ _ rfl q.2⟩
  | .cons t ts, es, h, us, σ, H, Q, Q', q, hq => by
    unfold Tgs.okN at h
    cases es with
    | nil => cases h
    | cons e es =>
      dsimp only at h
      simp only [Bool.and_eq_true] at h
      obtain ⟨v, r, e1, q⟩ := q
      exact ⟨v, r, e1, Tg.own K t e h.1.2 v σ H _ _ q fun σ2 H2 w2 q2 => Tgs.own K ts es h.2 r σ2 H2 _ _ q2 fun σ3 H3 w3 q3 => hq _ _ (w3.trans w2) q3⟩
end
theorem own_of {K : PySem.W.Frag} {N : List Str} {fn : Str → Bool} {sc : Scope} {t : Tg} {e : Expr} (h : t.okN N fn sc vs e = true) : OwnG (t.g K) vs := fun v σ H Q q =>
  Tg.own K t e h v (wipe σ vs) H Q _ q fun σ2 H2 w q => ⟨w.trans (wipe_idem σ vs), q⟩
end
end Ev
set_option maxHeartbeats 1000000
/-! Ev, part Xa: t.index(x) of flat items; enumerate(list, k). -/
namespace EnF
open PySem PySem.Spec PyProof.Rows L2
section
variable {X : Cx}
def rTIndex (K : PySem.W.Frag) : V → List V → Hp → VK → Prop := fun x xs H Q => ∃ (a : Addr) (ys : List V) (y : V) (j : Nat) (z : V), x = V.ref a ∧ xs = [y] ∧ SqT K H a ys ∧ flatV y = true ∧ ys.all flatV = true ∧ ys[j]? = some z ∧ eqV z y = true ∧
  (∀ (m : Nat) (z' : V), m < j → ys[m]? = some z' → eqV z' y = false) ∧ Q (.int (j : Nat)) H
theorem mt_tindex : MtR X "tuple.index" (rTIndex X.K) := by
  intro pins s σ H x xs v us Q I rx rxs h
  obtain ⟨a, ys, y, j, z, rfl, rfl, hs, fy, fys, hz, hzj, hno, q⟩ := h
  cases rx
  cases rxs with
  | cons ry rt =>
    rename_i uy ut
    cases rt
    obtain ⟨its, rv, pl, hlen⟩ := I.tuple hs
    obtain ⟨⟨cls, dd, dt, sl⟩, ho, hc, n, hd⟩ := pl
    simp only at hc hd
    subst hc hd
    obtain ⟨u, hu, ru⟩ := rv.get hz
    obtain ⟨hjl, hje⟩ := List.getElem?_eq_some_iff.mp hu
    have hvl := rv.length
    have hj : j < its.toArray.size := by simpa using hjl
    refine call_meets PySem.F.slot_tuple_index ⟨_, ho, rfl⟩ PySem.F.entry_tuple_index (PySem.F.args_tuple_index_2 _ _) (TI.tuple_indexAt a its.toArray n dd sl uy (eqU y) j hj ?_ ?_)
      ⟨ho, fun u' hu' => mem_eqAt ry fy rv fys u' (by simpa using hu'), ⟨.int (j : Nat), H, I.tok _, ⟨_, rfl⟩, q⟩⟩
    · have e1 : its.toArray[j] = u := by simpa using hje
      rw [e1, eqU_of ru (flat_at fys hz)]
      exact hzj
    · intro m hm hmj
      have hml : m < its.length := by simpa using hm
      have hmy : m < ys.length := by omega
      have hy' : ys[m]? = some ys[m] := List.getElem?_eq_getElem hmy
      obtain ⟨u2, hu2, ru2⟩ := rv.get hy'
      obtain ⟨_, hme⟩ := List.getElem?_eq_some_iff.mp hu2
      have e1 : its.toArray[m] = u2 := by simpa using hme
      rw [e1, eqU_of ru2 (flat_at fys hy')]
      exact hno m _ hmj hy'
end
section
variable {X : Cx} {o e : Expr} {es : List Expr} {to : TE} {t : TA} {apos cpos pos : Pos}
/-- a tuple of which it is known that it has no dict of its own -/
def tCTup (t : TA) : TE := fun σ H Q => t σ H fun xs H1 => xs.length ≤ sizeLine ∧ ∀ p ob, H1 p = none → (ob : Obj).cls = .type "tuple" ∧ ob.dict = none → Q (.ref p) (upd H1 p (.frz ob (.tup xs)))
theorem pe_ctup {x1} (h : PA X es t) : PE X (.Tuple es x1 pos) (tCTup t) := by
  refine ⟨fun pins s σ H Q I hq => ?_⟩
  refine wpAny_Tuple_spliced (thn (h.run pos pins s σ H _ I hq) fun us s1 ⟨xs, H1, I1, r, z, q⟩ => ⟨by rw [← r.length]; exact z, ?_⟩)
  have hf : H1 s1.heap.objs.size = none := I1.hok.fresh (Nat.le_refl _)
  refine ⟨.ref s1.heap.objs.size, upd H1 s1.heap.objs.size (.frz { cls := .type "tuple", data := .seq us.toArray } (.tup xs)), I1.laid (t' := s1.toks) (fun b u e => Heap.get?_push_of_some _ e) (Nat.le_refl _) ?_, rfl, q _ _ hf ⟨rfl, rfl⟩⟩
  have e : (s1.heap.push { cls := .type "tuple", data := .seq us.toArray }).get? s1.heap.objs.size = some { cls := .type "tuple", data := .seq us.toArray } := Heap.get?_push_size _ rfl
  exact ⟨e, z, us, r, ⟨_, e, rfl, _, rfl⟩⟩
/-- t.index(x) of such a tuple -/
def tTIndex (K : PySem.W.Frag) (to : TE) (t : TA) : TE := fun σ H Q => to σ H fun x H1 => (∃ a ob xs, x = .ref a ∧ H1 a = some (.frz ob (.tup xs)) ∧ ob.cls = .type "tuple" ∧ ob.dict = none) ∧ t σ H1 fun xs H2 => rTIndex K x xs H2 Q
theorem pe_tindex (ho : PE X o to) (ha : PA X (e :: es) t)
    (hbase : attributeBase o "index" X.env (eval o X.env) = eval o X.env)
    (hfew : ((backTo cpos (starEach (e :: es) X.env)).all (fun x => !x.1) && (backToKw cpos (keywordEach [] X.env)).all (fun x => x.1.isSome)
      && decide ((e :: es).length + ([] : List Keyword).length + (if ([] : List Keyword).isEmpty then 0 else 1) < 30)) = true)
    (hline : (apos.endLine == cpos.line) = true) (hs : starEach (e :: es) X.env = (false, eval e X.env) :: starEach es X.env) (hplain : (backTo cpos (starEach es X.env)).any (·.1) = false) :
    PE X (.Call (.Attribute o "index" apos) (e :: es) [] cpos) (tTIndex X.K to t) := by
  refine ⟨fun pins s σ H Q I h => ?_⟩
  refine wpAny_Call_method_late hbase hfew hline rfl (thn (ho.run pins s σ H _ I h) fun v s1 ⟨x, H1, I1, r1, ⟨a, ob, xs, ex, hH, hcl, hd⟩, q1⟩ => ?_)
  subst ex
  cases r1
  obtain ⟨e1, _⟩ := I1.hok a _ hH
  refine ⟨"tuple", "tuple.index", PySem.F.plainAttrs_tuple, PySem.F.slot_tuple_index, PySem.F.type_tuple_index, ⟨ob, e1, hcl⟩, fun b eb => by cases eb; exact ⟨ob, e1, hd⟩, ?_⟩
  have hA := ha.run cpos pins s1 σ H1 _ I1 q1
  rw [hs] at hA ⊢
  refine Calls.callWith_builtin (by show (false || (backTo cpos (starEach es X.env)).any (·.1)) = false; rw [hplain] <;> rfl) (Calls.evalArgs_plain ?_)
  exact thn hA fun us s2 ⟨vs, H2, I2, r2, q2⟩ => mt_tindex pins s2 σ H2 (.ref a) vs _ us Q I2 rfl r2 q2
end
/-- the list at a, its items numbered from k on -/
def IteF (K : PySem.W.Frag) (a : Addr) (k : Nat) : It where
  go i H := ∃ (xs : List V) (x : V), SqL K H a xs ∧ xs[i]? = some x
  yld i H v H' := ∃ T x, v = .ref T ∧ H T = none ∧ H' = upd H T (.tup [.int ((k + i : Nat) : Int), x]) ∧ ∀ xs, SqL K H a xs → xs[i]? = some x
  stop i H := ∃ xs : List V, SqL K H a xs ∧ xs.length ≤ i
structure EnSt (a e it : Addr) (k i : Nat) (h : Heap) : Prop where
  en : ∃ old, IsEnum h e it ((k + i : Nat) : Int) old
  ti : h.IsListIter it a i
  ne : e ≠ it
  ai : a ≠ it
  ae : a ≠ e
theorem EnSt.lt {a e it : Addr} {k i : Nat} {h : Heap} (st : EnSt a e it k i h) {b : Addr} (hb : b ∈ [e, it]) : b < h.objs.size := by
  rcases EnT.two hb with rfl | rfl
  · obtain ⟨_, q⟩ := st.en; exact Heap.lt_size q
  · obtain ⟨_, q, _⟩ := st.ti; exact Heap.lt_size q
theorem drawsEnd {prog : Program} {w : World} {A : Around} (hh : A.handled = none) (it l : Addr) (us : Array Value) {i : Nat} (hi : us[i]? = none) :
    Draws prog w A it [it, l] 0 (fun _ _ => True) (fun _ h => h.IsListIter it l i ∧ h.IsList l us) := by
  refine ⟨fun _ _ st => ?_, fun _ _ _ st k => ?_, fun i s Q E z => absurd z (Nat.not_lt_zero i), fun s Q E st hE => ?_⟩
  · obtain ⟨⟨o, ho, _⟩, _⟩ := st
    exact ⟨o, ho⟩
  · exact ⟨st.1.at fun o q => k it (by simp) o q, st.2.at fun o q => k l (by simp) o q⟩
  · exact wpAny_nextOf_list_end hh st.1 st.2 hi hE
theorem turn_enumF {P : Program} {w : World} {K : PySem.W.Frag} {elts : List Expr} {kk : Nat} {tpos : Pos} (a e it : Addr) (k : Nat) : Turn P w K (.Tuple elts kk tpos) (IteF K a k) [e, it] e (EnSt a e it k) := by
  refine ⟨by simp, fun i h st b hb => ?_, fun i h h' st kp => ?_, ?_, ?_, fun A i s Q E st hQ => ?_⟩
  · rcases EnT.two hb with rfl | rfl
    · obtain ⟨_, q⟩ := st.en; exact ⟨_, q, fun v z => nomatch z⟩
    · obtain ⟨o, q, _, d⟩ := st.ti; exact ⟨o, q, fun v z => by rw [d] at z; cases z⟩
  · obtain ⟨old, q⟩ := st.en
    exact ⟨⟨old, kp e (by simp) _ q⟩, st.ti.at fun o z => kp it (by simp) o z, st.ne, st.ai, st.ae⟩
  · rintro X rfl rfl rfl hc i pins s σ H E I hf st ⟨xs, x, hq, hx⟩
    obtain ⟨its, rv, p, hz⟩ := I.list hq
    obtain ⟨u, hu, ru⟩ := rv.get hx
    obtain ⟨old, he⟩ := st.en
    have hlt : i < its.toArray.size := by
      rw [List.size_toArray]; exact (List.getElem?_eq_some_iff.mp hu).1
    refine wpAny_pyNext_enum_itemC (Draws.list (A := X.A.in1) (I.ok.hd hc) it a st.ai its.toArray) he ⟨st.ti, p.isList⟩ hlt st.ne (by simp [st.ne, Ne.symm st.ae]) fun y h' tk py ho st' hT hsz hk => ?_
    have ey : y = u := by
      have py' : its.toArray[i]? = some y := py
      rw [List.getElem?_toArray, hu] at py'; exact (Option.some.inj py').symm
    subst ey
    refine ⟨_, rfl, wpAny_letOwnedTupleGo_enum (s := { s with heap := h', toks := tk + 1 }) ho fun h2 he2 sb => ?_⟩
    have big : ∀ b ∈ [e, it], b ≠ s.heap.objs.size := fun b hb => Nat.ne_of_lt (st.lt hb)
    have hT2 : h2.get? s.heap.objs.size = some { cls := .type "tuple", data := .seq #[.int ((k + i : Nat) : Int) tk, y] } := (sb.2 _ (big e (by simp)).symm).trans hT
    have new : ObjOk X.prog X.w (upd H s.heap.objs.size (.tup [.int ((k + i : Nat) : Int), x])) h2 s.heap.objs.size (.tup [.int ((k + i : Nat) : Int), x]) := ⟨by show 2 ≤ sizeLine; decide, [.int ((k + i : Nat) : Int) tk, y], .cons ⟨_, rfl⟩ (.cons ru .nil), ⟨_, hT2, rfl, _, rfl⟩⟩
    have I1 : Inv X pins σ (upd H s.heap.objs.size (.tup [.int ((k + i : Nat) : Int), x])) { s with heap := h2, toks := tk + 1 } :=
      I.turnedNew (ch := [e, it]) (fun b ob hb q => by
        have n1 : b ≠ e := fun z => hb (by simp [z])
        have n2 : b ≠ it := fun z => hb (by simp [z])
        exact (sb.2 b n1).trans (hk b ob n1 n2 q)) hf (Nat.le_refl _) new
    refine ⟨.ref s.heap.objs.size, _, I1, rfl, ⟨_, x, rfl, I.hok.fresh (Nat.le_refl _), rfl, fun zs hzs => by rw [I.list_inj hzs hq]; exact hx⟩, ⟨⟨y, ?_⟩, st'.1.at fun o q => (sb.2 it (Ne.symm st.ne)).trans q, st.ne, st.ai, st.ae⟩, fun b hb => ?_⟩
    · rw [show ((k + (i + 1) : Nat) : Int) = ((k + i : Nat) : Int) + 1 from by omega]; exact he2
    · rw [upd_ne (big b hb)]; exact (hf b hb).1
  · rintro X rfl rfl rfl hc i pins s σ H E I hf st ⟨xs, hq, hx⟩
    obtain ⟨its, rv, p, hz⟩ := I.list hq
    obtain ⟨old, he⟩ := st.en
    have hl := rv.length
    obtain ⟨f0, f1, f2, f3, f4, f5⟩ := hf it (by simp)
    exact wpAny_pyNext_enum_endD (drawsEnd (A := X.A.in1) (I.ok.hd hc) it a its.toArray (i := i) (by simp; omega)) he ⟨st.ti, p.isList⟩ fun h' eb => ⟨rfl, I.turned (t' := s.toks) (fun b o n q => eb b o n q) f0 f1 f3 f4 f5⟩
  · obtain ⟨_, he⟩ := st.en
    exact wpAny_pyIter_enum he hQ
def iEnumF (K : PySem.W.Frag) (k : Nat) (ta : TA) : TI := fun σ H R => ta σ H fun vs H1 => ∃ a xs, vs = [.ref a, .int k] ∧ SqL K H1 a xs ∧ R (IteF K a k) H1
theorem pi_enumF {X : Cx} {e e2 : Expr} {ta : TA} {p pos tpos : Pos} {elts : List Expr} {kk : Nat} {k : Nat} (hk : k < 1000) (hg : Gl X "enumerate") (hm : X.mg "enumerate" = none) (ha : PA X [e, e2] ta)
    (hs : starEach [e, e2] X.env = (false, eval e X.env) :: starEach [e2] X.env) (hpl : (backTo pos (starEach [e2] X.env)).any (·.1) = false) :
    PI X (.Tuple elts kk tpos) (.Call (.Name "enumerate" p) [e, e2] [] pos) (iEnumF X.K k ta) := by
  constructor
  intro pins s σ H R I h
  refine Call_ (ld_blt I hg hm boot_enumerate (PyProof.Rows.callWith_type1 (thn (ha.run pos pins s σ H _ I h) fun us s1 q => ?_) hs hpl))
  obtain ⟨_, H1, I1, r1, a, xs, rfl, hq, q⟩ := q
  obtain ⟨u1, u2, rfl, ru1, ru2⟩ := r1.two
  cases ru1
  obtain ⟨t, rfl⟩ := ru2
  have fp : ∀ b ∈ [s1.heap.objs.size + 1, s1.heap.objs.size], FpOk X pins H1 b := fun b hb => by
    have le : s1.heap.objs.size ≤ b := by rcases EnT.two hb with rfl | rfl <;> omega
    exact I1.fpOk le (I1.hok.fresh le)
  obtain ⟨its, rv, p', hz⟩ := I1.list hq
  obtain ⟨oa, hoa, _⟩ := p'.isList
  have la : a < s1.heap.objs.size := Heap.lt_size hoa
  refine enum_begins (begins_list a its.toArray) p'.isList (by omega) (by omega) fun h' he ht hsz hk => wpAny_pyIter_enum he ?_
  exact ⟨_, [s1.heap.objs.size + 1, s1.heap.objs.size], _, _, H1, rfl, I1.kept (t' := s1.toks) hk, turn_enumF a (s1.heap.objs.size + 1) s1.heap.objs.size k, ⟨⟨.none, he⟩, ⟨_, ht, rfl, rfl⟩, Nat.succ_ne_self _, Nat.ne_of_lt la, Nat.ne_of_lt (Nat.lt_succ_of_lt la)⟩, fp, q⟩
end EnF
set_option maxHeartbeats 1000000
/-! Ev, part ZS: for x in zip(*rows), rows a tuple of tuples of one length. -/
namespace ZSt
open PySem PySem.Spec PyProof.Rows L2 RZ

theorem an {a b : Nat} (h : a ≠ b) : ¬ ((a : Addr) = (b : Addr)) := h
/-- iterators and rows of either kind: κ says which rows are lists -/
def KIt (κ : Addr → Bool) (h : Heap) (it l : Addr) (i : Nat) : Prop := if κ l = true then h.IsListIter it l i else h.IsTupleIter it l i
def KSq (κ : Addr → Bool) (h : Heap) (l : Addr) (xs : Array Value) : Prop := if κ l = true then h.IsList l xs else h.IsTuple l xs
section
variable {κ : Addr → Bool} {h h' : Heap} {it l b : Addr} {i : Nat} {xs : Array Value}
theorem KIt.at (x : KIt κ h it l i) (e : ∀ o, h.get? it = some o → h'.get? it = some o) : KIt κ h' it l i := by
  unfold KIt at *
  by_cases q : κ l = true
  · rw [if_pos q] at *
    exact Heap.IsListIter.at x e
  · rw [if_neg q] at *
    exact Heap.IsTupleIter.at x e
theorem KIt.extBut (x : KIt κ h it l i) (hs : Heap.ExtBut b h h') (hab : it ≠ b) : KIt κ h' it l i := by
  unfold KIt at *
  by_cases q : κ l = true
  · rw [if_pos q] at *
    exact Heap.IsListIter.extBut x hs hab
  · rw [if_neg q] at *
    exact Heap.IsTupleIter.extBut x hs hab
theorem KSq.keep (x : KSq κ h l xs) (k : ∀ o, h.get? l = some o → h'.get? l = some o) : KSq κ h' l xs := by
  unfold KSq at *
  by_cases q : κ l = true
  · rw [if_pos q] at *
    obtain ⟨o, e, r⟩ := x
    exact ⟨o, k o e, r⟩
  · rw [if_neg q] at *
    obtain ⟨o, e, r⟩ := x
    exact ⟨o, k o e, r⟩
theorem KSq.extBut (x : KSq κ h l xs) (hs : Heap.ExtBut b h h') (hab : l ≠ b) : KSq κ h' l xs := x.keep fun o e => hs _ _ hab e
theorem KSq.lt (x : KSq κ h l xs) : l < h.objs.size := by
  unfold KSq at x
  split at x
  · obtain ⟨o, e, r⟩ := x; exact Heap.lt_size e
  · obtain ⟨o, e, r⟩ := x; exact Heap.lt_size e
theorem KIt.obj (x : KIt κ h it l i) : ∃ o, h.get? it = some o ∧ ∀ v, o.data ≠ .cell v := by
  unfold KIt at x
  split at x
  · obtain ⟨o, e, _, d⟩ := x; exact ⟨o, e, fun v q => by rw [d] at q; cases q⟩
  · obtain ⟨o, e, _, d⟩ := x; exact ⟨o, e, fun v q => by rw [d] at q; cases q⟩
end
section
variable {prog : Program} {w : World} {A : Around} {E : Value → Shared → Prop} {s : Shared} {κ : Addr → Bool}
theorem nextOf_k_item {it l : Addr} {i : Nat} {items} {x : Value} {Q : Value → Shared → Prop} (hit : KIt κ s.heap it l i) (hl : KSq κ s.heap l items) (hx : items[i]? = some x)
    (hQ : ∀ h', KIt κ h' it l (i + 1) → Heap.SameBut it s.heap h' → Q x { s with heap := h' }) : wpAny (model prog w) A (Builtin.SmallTypes.nextOf (.ref it)) Q E s := by
  unfold KIt at *
  unfold KSq at hl
  split at hit
  · rename_i e
    rw [if_pos e] at hl
    exact wpAny_nextOf_list_item hit hl hx fun h' a b => hQ h' (by rw [if_pos e]; exact a) b
  · rename_i e
    rw [if_neg e] at hl
    exact nextOf_tuple_item hit hl hx fun h' a b => hQ h' (by rw [if_neg e]; exact a) b
theorem nextOf_k_end {it l : Addr} {i : Nat} {items} {Q : Value → Shared → Prop} (hh : A.handled = none) (hit : KIt κ s.heap it l i) (hl : KSq κ s.heap l items) (hx : items[i]? = none)
    (hE : ∀ h' e, Heap.ExtBut it s.heap h' → (∃ o, h'.get? e = some o ∧ o.cls = .type "StopIteration") → E (.ref e) { s with heap := h' }) : wpAny (model prog w) A (Builtin.SmallTypes.nextOf (.ref it)) Q E s := by
  unfold KIt at hit
  unfold KSq at hl
  split at hit
  · rename_i e
    rw [if_pos e] at hl
    exact wpAny_nextOf_list_end hh hit hl hx hE
  · rename_i e
    rw [if_neg e] at hl
    exact nextOf_tuple_end hh hit hl hx hE
end
/-- the iterators of a zip over tuples: B, B + 1, .. -/
def itsL (B n : Nat) : List Value := (List.range n).map fun k => Value.ref (B + k : Nat)
structure At (κ : Addr → Bool) (h : Heap) (B : Nat) (ls : List Addr) (i : Nat) : Prop where
  z : ∃ (f0 : Value) (f1 : Bool), (f0 = .none ∨ ∃ T : Nat, f0 = rawInt T) ∧ h.get? (B + ls.length + 2 : Nat) = some { cls := .type "zip", dict := none, data := .fields #[f0, .bool f1, .bool false, .ref (B + ls.length : Nat), .ref (B + ls.length + 1 : Nat)], slots := #[] }
  ti : h.get? (B + ls.length : Nat) = some { cls := .type "tuple", data := .seq (itsL B ls.length).toArray }
  to : ∃ xs : Array Value, xs.size = ls.length ∧ h.get? (B + ls.length + 1 : Nat) = some { cls := .type "tuple", data := .seq xs }
  it : ∀ (k : Nat) (l : Addr), ls[k]? = some l → KIt κ h (B + k : Nat) l i
/-- amid a draw: k of the iterators are drawn from -/
structure Mid (κ : Addr → Bool) (h0 h : Heap) (B : Nat) (ls : List Addr) (i k : Nat) : Prop where
  ti : h.get? (B + ls.length : Nat) = some { cls := .type "tuple", data := .seq (itsL B ls.length).toArray }
  it : ∀ (j : Nat) (l : Addr), ls[j]? = some l → KIt κ h (B + j : Nat) l (if j < k then i + 1 else i)
  sz : h.objs.size = h0.objs.size
  keep : ∀ c o, (c < B ∨ B + ls.length + 2 < c) → h0.get? c = some o → h.get? c = some o
section
variable {prog : Program} {w : World} {A : Around} {E : Value → Shared → Prop} {s : Shared} {B i : Nat} {ls : List Addr} {κ : Addr → Bool}
theorem itsL_get {n k : Nat} (h : k < n) : (itsL B n)[k]? = some (.ref (B + k : Nat)) := by
  unfold itsL
  rw [List.getElem?_map, List.getElem?_range h]; rfl
theorem itsL_len {n : Nat} : (itsL B n).length = n := by unfold itsL; rw [List.length_map, List.length_range]
/-- the rows' items at turn i -/
def Col (κ : Addr → Bool) (h : Heap) (ls : List Addr) (i : Nat) (vs : List Value) : Prop := vs.length = ls.length ∧ ∀ (k : Nat) (l : Addr), ls[k]? = some l → l < h.objs.size ∧ ∃ xs : Array Value, KSq κ h l xs ∧ ∃ v, vs[k]? = some v ∧ xs[i]? = some v
theorem tuple_keep {h h' : Heap} {l : Addr} {xs : Array Value} (t : h.IsTuple l xs) (k : ∀ o, h.get? l = some o → h'.get? l = some o) : h'.IsTuple l xs := by
  obtain ⟨o, e, r⟩ := t
  exact ⟨o, k o e, r⟩
theorem draw_item {h0 : Heap} {k : Nat} {l : Addr} {v : Value} {xs : Array Value} {Q : Value → Shared → Prop} (hs : s.heap = s.heap) (M : Mid κ h0 s.heap B ls i k) (hl : ls[k]? = some l) (hlt : l < B) (hx : KSq κ h0 l xs) (hv : xs[i]? = some v)
    (hQ : ∀ h', Mid κ h0 h' B ls i (k + 1) → (∀ c, (c : Addr) ≠ (B + k : Nat) → ∀ o, s.heap.get? c = some o → h'.get? c = some o) → Q v { s with heap := h' }) :
    wpAny (model prog w) A (Builtin.SmallTypes.nextOf (.ref (B + k : Nat))) Q E s := by
  have hk : k < ls.length := (List.getElem?_eq_some_iff.mp hl).1
  have h1 := M.it k l hl
  rw [if_neg (Nat.lt_irrefl k)] at h1
  refine nextOf_k_item h1 (hx.keep fun o e => M.keep l o (.inl hlt) e) hv fun h' h2 sb => hQ h' ⟨?_, fun j m hj => ?_, ?_, fun c o hc e => ?_⟩ fun c hc o e => sb.extBut _ _ hc e
  · exact sb.extBut _ _ (an (by omega)) M.ti
  · by_cases e : j = k
    · subst e
      rw [hl] at hj; cases hj
      rw [if_pos (Nat.lt_succ_self j)]
      exact h2
    · have q := M.it j m hj
      have hj' : j < ls.length := (List.getElem?_eq_some_iff.mp hj).1
      have r : (if j < k + 1 then i + 1 else i) = if j < k then i + 1 else i := by
        by_cases z : j < k
        · rw [if_pos z, if_pos (by omega)]
        · rw [if_neg z, if_neg (by omega)]
      rw [r]
      exact q.extBut sb.extBut (an (by omega))
  · rw [sb.1, M.sz]
  · exact sb.extBut _ _ (an (by rcases hc with hc | hc <;> omega)) (M.keep c o hc e)

theorem alive {a : Addr} {Q : Option Obj → Shared → Prop} (h : Q (s.heap.get? a) s) : wpAny (model prog w) A (loadIfAlive a) Q E s := fun _ _ _ => h
abbrev zo (f0 : Value) (f1 : Bool) (B n : Nat) : Obj := { cls := .type "zip", dict := none, data := .fields #[f0, .bool f1, .bool false, .ref (B + n : Nat), .ref (B + n + 1 : Nat)], slots := #[] }
/-- is the tuple given out free: yes, or no, and then this is noted -/
theorem is_free {f0 : Value} {f1 : Bool} {n : Nat} {Q : Bool → Shared → Prop} (hf : f0 = .none ∨ ∃ T : Nat, f0 = rawInt T) (hz : s.heap.get? (B + n + 2 : Nat) = some (zo f0 f1 B n))
    (h1 : Q true s) (h2 : ∀ h', h'.get? (B + n + 2 : Nat) = some (zo f0 true B n) → Heap.SameBut (B + n + 2 : Nat) s.heap h' → Q false { s with heap := h' }) : wpAny (model prog w) A (Builtin.SmallTypes.ownedTupleIsFree (.ref (B + n + 2 : Nat))) Q E s := by
  unfold Builtin.SmallTypes.ownedTupleIsFree
  rcases hf with rfl | ⟨T, rfl⟩
  · exact wpAny_bind (wpAny_field hz rfl (x := .none) rfl (wpAny_pure h1))
  · refine wpAny_bind (wpAny_field hz rfl (x := rawInt T) rfl ?_)
    show wpAny _ _ (loadIfAlive ((T : Int).toNat) >>= _) _ _ _
    rw [Int.toNat_natCast]
    refine wpAny_bind (alive ?_)
    cases e : s.heap.get? T with
    | none =>
      simp only [Option.isNone_none, if_true]
      exact wpAny_pure h1
    | some oT =>
      simp only [Option.isNone_some, Bool.false_eq_true, if_false]
      refine wpAny_bind (wpAny_field hz rfl (x := .bool f1) rfl ?_)
      cases f1 with
      | true =>
        rw [if_neg (show ¬ ((Value.bool true != Value.bool true) = true) from Bool.false_ne_true)]
        exact wpAny_pure (h2 s.heap hz (Heap.SameBut.refl _ _))
      | false =>
        rw [if_pos (show (Value.bool false != Value.bool true) = true from rfl)]
        exact wpAny_bind (wpAny_setField_rec hz (by simp) fun h₁ hz₁ hs₁ => wpAny_pure (h2 h₁ hz₁ hs₁))
theorem At.mid {h : Heap} (Z : At κ h B ls i) : Mid κ h h B ls i 0 :=
  ⟨Z.ti, fun j l hj => by rw [if_neg (Nat.not_lt_zero j)]; exact Z.it j l hj, rfl, fun _ _ _ e => e⟩
theorem drop_cons {α : Type} {l : List α} {k : Nat} {x : α} (h : l[k]? = some x) : l.drop k = x :: l.drop (k + 1) := by
  obtain ⟨hk, e⟩ := List.getElem?_eq_some_iff.mp h
  rw [List.drop_eq_getElem_cons hk, e]
theorem ends {α : Type} {l : List α} {x : α} {r : List α} {k : Nat} (h : x :: r = l.drop k) : l[k]? = some x ∧ r = l.drop (k + 1) := by
  have hk : k < l.length := by
    refine Nat.lt_of_not_le fun z => ?_
    rw [List.drop_eq_nil_of_le z] at h; cases h
  rw [List.drop_eq_getElem_cons hk] at h
  obtain ⟨h1, h2⟩ := List.cons.inj h
  exact ⟨by rw [List.getElem?_eq_getElem hk, h1], h2⟩
theorem its_ends {n k : Nat} {x : Value} {r : List Value} (h : x :: r = (itsL B n).drop k) : k < n ∧ x = .ref (B + k : Nat) ∧ r = (itsL B n).drop (k + 1) := by
  obtain ⟨h1, h2⟩ := ends h
  have hk : k < n := by have := (List.getElem?_eq_some_iff.mp h1).1; rw [itsL_len] at this; exact this
  rw [itsL_get hk] at h1
  cases h1
  exact ⟨hk, rfl, h2⟩
theorem zix_get {n k : Nat} (h : k < n) : (itsL B n).zipIdx[k]? = some (.ref (B + k : Nat), k) := by
  rw [List.getElem?_zipIdx, itsL_get h]; simp
theorem zix_ends {n k : Nat} {x : Value × Nat} {r : List (Value × Nat)} (h : x :: r = (itsL B n).zipIdx.drop k) : k < n ∧ x = (.ref (B + k : Nat), k) ∧ r = (itsL B n).zipIdx.drop (k + 1) := by
  obtain ⟨h1, h2⟩ := ends h
  have hk : k < n := by have := (List.getElem?_eq_some_iff.mp h1).1; rw [List.length_zipIdx, itsL_len] at this; exact this
  rw [zix_get hk] at h1
  cases h1
  exact ⟨hk, rfl, h2⟩
theorem updateSeq_tup {T : Addr} {xs : Array Value} {v : Value} {k : Nat} {Q : Unit → Shared → Prop} (hT : s.heap.get? T = some { cls := .type "tuple", data := .seq xs }) (hz : xs.size ≤ 64)
    (h : ∀ h', h'.get? T = some { cls := .type "tuple", data := .seq (xs.setIfInBounds k v) } → Heap.SameBut T s.heap h' → Q () { s with heap := h' }) :
    wpAny (model prog w) A (updateSeq T (·.setIfInBounds k v)) Q E s := by
  have hl : 64 ≤ sizeLine := by rw [sizeLine_eq]; decide
  refine wpAny_updateSeq hT rfl (h _ ?_ (Heap.SameBut.update ..)) (by omega) (by simp; omega)
  rw [Heap.get?_update_self _ hT rfl]
  simp [Obj.mapSeq]
theorem next_item {vs : List Value} {Q : Value → Shared → Prop} (hn : 0 < ls.length) (hls : ls.length ≤ 64) (hlt : ∀ l ∈ ls, (l : Nat) < B) (Z : At κ s.heap B ls i) (hc : Col κ s.heap ls i vs)
    (hQ : ∀ h', At κ h' B ls (i + 1) → h'.get? s.heap.objs.size = some { cls := .type "tuple", data := .seq vs.toArray } → h'.objs.size = s.heap.objs.size + 1 → (∀ (c : Nat) o, (c < B ∨ B + ls.length + 2 < c) → s.heap.get? c = some o → h'.get? c = some o) → Q (.ref s.heap.objs.size) { s with heap := h' }) :
    wpAny (model prog w) A (Builtin.«zip.__next__» ⟨[.ref (B + ls.length + 2 : Nat)], []⟩) (fun fin s' => ∃ v, fin = .done (.ret v) ∧ Q v s') E s := by
  obtain ⟨f0, f1, hf0, hz⟩ := Z.z
  have hemp : (itsL B ls.length).toArray.isEmpty = false := by
    have : (itsL B ls.length).toArray.size ≠ 0 := by rw [List.size_toArray, itsL_len]; omega
    simpa [Array.isEmpty] using this
  show wpAny _ _ (field (.ref (B + ls.length + 2 : Nat)) 2 >>= _) _ _ _
  refine wpAny_bind (wpAny_field hz rfl (x := .bool false) rfl ?_)
  show wpAny _ _ (field (.ref (B + ls.length + 2 : Nat)) 3 >>= _) _ _ _
  refine wpAny_bind (wpAny_field hz rfl (x := .ref (B + ls.length : Nat)) rfl ?_)
  refine wpAny_bind (wpAny_seqItems Z.ti rfl ?_)
  simp only [hemp, Bool.false_eq_true, if_false]
  refine wpAny_bind (is_free hf0 hz ?_ fun h₁ hz₁ hs₁ => ?_)
  · simp only [if_true]
    refine wpAny_bind (wpAny_rule ?_)
    refine wpAny_bind (wpAny_field hz rfl (x := .ref (B + ls.length + 1 : Nat)) rfl ?_)
    refine wpAny_bind (wpAny_setField_rec hz (by simp) fun h₁ hz₁ hs₁ => ?_)
    have hz₁' : h₁.get? (B + ls.length + 2 : Nat) = some (zo .ellipsis f1 B ls.length) := hz₁
    obtain ⟨xs0, hxs0, hto0⟩ := Z.to
    have keep1 : ∀ (c : Nat) o, c ≠ B + ls.length + 2 → s.heap.get? c = some o → h₁.get? c = some o := fun c o hcz e => hs₁.extBut _ _ (an hcz) e
    have mem : ∀ (k : Nat) (l : Addr), ls[k]? = some l → (l : Nat) < B := fun k l e => hlt l (List.mem_of_getElem? e)
    have M1 : Mid κ s.heap h₁ B ls i 0 := by
      refine ⟨keep1 _ _ (by omega) Z.ti, fun j l hj => ?_, hs₁.1, fun c o hcc e => keep1 c o (by rcases hcc with q | q <;> omega) e⟩
      have hj' : j < ls.length := (List.getElem?_eq_some_iff.mp hj).1
      rw [if_neg (Nat.not_lt_zero j)]
      exact (Z.it j l hj).extBut hs₁.extBut (an (by omega))
    refine wpAny_bind ?_
    refine wpAny_forIn_list _ (fun rest b s' => b.1 = none ∧ ∃ k, rest = (itsL B ls.length).zipIdx.drop k ∧ k ≤ ls.length ∧ ∃ h, s' = { s with heap := h } ∧ Mid κ s.heap h B ls i k ∧ h.get? (B + ls.length + 2 : Nat) = some (zo .ellipsis f1 B ls.length) ∧
      ∃ xs : Array Value, xs.size = ls.length ∧ h.get? (B + ls.length + 1 : Nat) = some { cls := .type "tuple", data := .seq xs } ∧ ∀ j, j < k → xs[j]? = vs[j]?) _ ?turn ?fin _ _ ?start
    case start => exact ⟨rfl, 0, rfl, Nat.zero_le _, h₁, rfl, M1, hz₁', xs0, hxs0, keep1 _ _ (by omega) hto0, fun j hj => absurd hj (Nat.not_lt_zero j)⟩
    case turn =>
      rintro x rest b s' ⟨hb, k, hr, hk, h, rfl, M, hzz, xs, hxs, hto, hpre⟩
      obtain ⟨hk', rfl, rfl⟩ := zix_ends hr
      obtain ⟨l, hl⟩ : ∃ l, ls[k]? = some l := ⟨_, List.getElem?_eq_getElem hk'⟩
      obtain ⟨_, us, hus, v, hv, huv⟩ := hc.2 k l hl
      refine wpAny_bind (wpAny_onRaise ?_)
      show wpAny _ _ (Builtin.SmallTypes.nextOf (.ref (B + k : Nat)) >>= _) _ _ _
      refine wpAny_bind (draw_item (s := { s with heap := h }) rfl M hl (mem k l hl) hus huv fun h2 M2 kp => wpAny_pure ?_)
      have hto2 := kp (B + ls.length + 1) (an (by omega)) _ hto
      refine wpAny_bind (wpAny_seqItems (s := { s with heap := h2 }) hto2 rfl ?_)
      refine wpAny_bind (updateSeq_tup (s := { s with heap := h2 }) hto2 (by omega) fun h3 hto3 hs3 => ?_)
      refine wpAny_bind (wpAny_letGo (wpAny_pure ?_))
      have up : ∀ (c : Nat) o, c ≠ B + ls.length + 1 → h2.get? c = some o → h3.get? c = some o := fun c o hcz e => hs3.extBut _ _ (an hcz) e
      refine ⟨rfl, k + 1, rfl, hk', h3, rfl, ⟨up _ _ (by omega) M2.ti, fun j m hj => ?_, by rw [hs3.1, M2.sz], fun c o hcc e => up c o (by rcases hcc with q | q <;> omega) (M2.keep c o hcc e)⟩, up _ _ (by omega) (kp (B + ls.length + 2) (an (by omega)) _ hzz), _, by simpa using hxs, hto3, fun j hj => ?_⟩
      · have hj' : j < ls.length := (List.getElem?_eq_some_iff.mp hj).1
        exact (M2.it j m hj).extBut hs3.extBut (an (by omega))
      · by_cases e : j = k
        · subst e
          rw [hv, Array.getElem?_setIfInBounds_self_of_lt (by omega)]
        · rw [Array.getElem?_setIfInBounds_ne (Ne.symm e)]
          exact hpre j (by omega)
    case fin =>
      rintro ⟨b1, ⟨⟩⟩ s' ⟨hb, k, hr, hk, h, rfl, M, hzz, xs, hxs, hto, hpre⟩
      cases hb
      have hkn : k = ls.length := by
        have := congrArg List.length hr
        rw [List.length_drop, List.length_zipIdx, itsL_len] at this
        simp at this; omega
      subst hkn
      have hvs : xs = vs.toArray := by
        refine Array.ext (by rw [hxs, List.size_toArray, hc.1]) fun j h1 h2 => ?_
        have := hpre j (by omega)
        rw [Array.getElem?_eq_getElem h1, List.getElem?_eq_getElem (by simpa using h2)] at this
        simpa using Option.some.inj this
      subst hvs
      refine wpAny_bind (wpAny_seqItems (s := { s with heap := h }) hto rfl ?_)
      show wpAny _ _ (newTuple vs.toArray.toList >>= _) _ _ _
      have hl64 : 64 ≤ sizeLine := by rw [sizeLine_eq]; decide
      refine wpAny_bind (wpAny_newTuple ?_ (by have := hc.1; simp; omega))
      have hsz : h.objs.size = s.heap.objs.size := M.sz
      have hzlt : (B + ls.length + 2 : Nat) < h.objs.size := Heap.lt_size hzz
      show wpAny _ _ (Builtin.SmallTypes.ownedTupleHandOut (.ref (B + ls.length + 2 : Nat)) (.ref h.objs.size) >>= _) _ _ _
      refine wpAny_bind ?_
      unfold Builtin.SmallTypes.ownedTupleHandOut
      have hz6 : (h.push { cls := .type "tuple", data := .seq vs.toArray.toList.toArray }).get? (B + ls.length + 2 : Nat) = some (zo .ellipsis f1 B ls.length) := Heap.get?_push_of_some _ hzz
      refine wpAny_bind (wpAny_setField_rec hz6 (by simp) fun h7 hz7 hs7 => ?_)
      replace hz7 : h7.get? (B + ls.length + 2 : Nat) = some (zo (rawInt h.objs.size) f1 B ls.length) := hz7
      refine wpAny_setField_rec hz7 (by simp) fun h8 hz8 hs8 => ?_
      replace hz8 : h8.get? (B + ls.length + 2 : Nat) = some (zo (rawInt h.objs.size) false B ls.length) := hz8
      have up : ∀ (c : Nat) o, c ≠ B + ls.length + 2 → h.get? c = some o → h8.get? c = some o := fun c o c1 e => hs8.extBut _ _ (an c1) (hs7.extBut _ _ (an c1) (Heap.get?_push_of_some _ e))
      refine wpAny_pure ⟨_, rfl, ?_⟩
      show Q (.ref h.objs.size) _
      have hT : h8.get? h.objs.size = some { cls := .type "tuple", data := .seq vs.toArray } := by
        have e : (h.push { cls := .type "tuple", data := .seq vs.toArray.toList.toArray }).get? h.objs.size = some _ := Heap.get?_push_size _ rfl
        exact hs8.extBut _ _ (an (Nat.ne_of_gt hzlt)) (hs7.extBut _ _ (an (Nat.ne_of_gt hzlt)) e)
      have h8s : h8.objs.size = h.objs.size + 1 := by rw [hs8.1, hs7.1, Heap.size_push]
      rw [hsz] at hz8 hT h8s ⊢
      refine hQ h8 ⟨⟨_, _, .inr ⟨_, rfl⟩, hz8⟩, up _ _ (by omega) M.ti, ⟨_, hxs, up _ _ (by omega) hto⟩, fun j m hj => ?_⟩ hT h8s fun c o hcc e => up c o (by rcases hcc with q | q <;> omega) (M.keep c o hcc e)
      have hj' : j < ls.length := (List.getElem?_eq_some_iff.mp hj).1
      have q := M.it j m hj
      rw [if_pos hj'] at q
      exact q.at fun o e => up _ o (by omega) e
  · simp only [Bool.false_eq_true, if_false]
    obtain ⟨xs0, hxs0, hto0⟩ := Z.to
    have keep1 : ∀ (c : Nat) o, c ≠ B + ls.length + 2 → s.heap.get? c = some o → h₁.get? c = some o := fun c o hcz e => hs₁.extBut _ _ (an hcz) e
    have mem : ∀ (k : Nat) (l : Addr), ls[k]? = some l → (l : Nat) < B := fun k l e => hlt l (List.mem_of_getElem? e)
    have M1 : Mid κ s.heap h₁ B ls i 0 := by
      refine ⟨keep1 _ _ (by omega) Z.ti, fun j l hj => ?_, hs₁.1, fun c o hcc e => keep1 c o (by rcases hcc with q | q <;> omega) e⟩
      have hj' : j < ls.length := (List.getElem?_eq_some_iff.mp hj).1
      rw [if_neg (Nat.not_lt_zero j)]
      exact (Z.it j l hj).extBut hs₁.extBut (an (by omega))
    refine wpAny_bind ?_
    rw [← Array.forIn_toList]
    refine wpAny_forIn_list _ (fun rest b s' => b.1 = none ∧ ∃ k, rest = (itsL B ls.length).drop k ∧ k ≤ ls.length ∧ b.2.toList = vs.take k ∧ ∃ h, s' = { s with heap := h } ∧ Mid κ s.heap h B ls i k ∧ h.get? (B + ls.length + 2 : Nat) = some (zo f0 true B ls.length) ∧
      h.get? (B + ls.length + 1 : Nat) = some { cls := .type "tuple", data := .seq xs0 }) _ ?turn ?fin _ _ ?start
    case start => exact ⟨rfl, 0, rfl, Nat.zero_le _, by simp, h₁, rfl, M1, hz₁, keep1 _ _ (by omega) hto0⟩
    case turn =>
      rintro x rest b s' ⟨hb, k, hr, hk, hpre, h, rfl, M, hzz, hto⟩
      obtain ⟨hk', rfl, rfl⟩ := its_ends hr
      obtain ⟨l, hl⟩ : ∃ l, ls[k]? = some l := ⟨_, List.getElem?_eq_getElem hk'⟩
      obtain ⟨_, us, hus, v, hv, huv⟩ := hc.2 k l hl
      refine wpAny_bind (wpAny_holding ?_)
      show wpAny _ _ (Builtin.SmallTypes.nextOf (.ref (B + k : Nat)) >>= _) _ _ _
      refine wpAny_bind (draw_item (s := { s with heap := h }) rfl M hl (mem k l hl) hus huv fun h2 M2 kp => wpAny_pure ?_)
      refine wpAny_pure ⟨rfl, k + 1, rfl, hk', ?_, h2, rfl, M2, kp _ (an (by omega)) _ hzz, kp _ (an (by omega)) _ hto⟩
      rw [Array.toList_push, hpre]
      have hkv : k < vs.length := by rw [hc.1]; exact hk'
      rw [List.getElem?_eq_getElem hkv] at hv
      cases hv
      rw [List.take_succ_eq_append_getElem hkv]
    case fin =>
      rintro ⟨b1, b2⟩ s' ⟨hb, k, hr, hk, hpre, h, rfl, M, hzz, hto⟩
      cases hb
      have hkn : k = ls.length := by
        have := congrArg List.length hr
        rw [List.length_drop, itsL_len] at this
        simp at this; omega
      subst hkn
      have hpre' : b2.toList = vs := by
        have : b2.toList = vs.take ls.length := hpre
        rw [this, ← hc.1, List.take_length]
      show wpAny _ _ (newTuple b2.toList >>= _) _ _ _
      rw [hpre']
      have hl64 : 64 ≤ sizeLine := by rw [sizeLine_eq]; decide
      refine wpAny_bind (wpAny_newTuple ?_ (by have := hc.1; omega))
      have hsz : h.objs.size = s.heap.objs.size := M.sz
      refine wpAny_pure ⟨_, rfl, ?_⟩
      show Q (.ref h.objs.size) _
      have hT : (h.push { cls := .type "tuple", data := .seq vs.toArray }).get? h.objs.size = some _ := Heap.get?_push_size _ rfl
      have h8s : (h.push { cls := .type "tuple", data := .seq vs.toArray }).objs.size = h.objs.size + 1 := Heap.size_push ..
      have up : ∀ (c : Nat) o, h.get? c = some o → (h.push { cls := .type "tuple", data := .seq vs.toArray }).get? c = some o := fun c o e => Heap.get?_push_of_some _ e
      rw [hsz] at hT h8s ⊢
      refine hQ _ ⟨⟨_, _, hf0, up _ _ hzz⟩, up _ _ M.ti, ⟨_, hxs0, up _ _ hto⟩, fun j m hj => ?_⟩ hT h8s fun c o hcc e => up c o (M.keep c o hcc e)
      have hj' : j < ls.length := (List.getElem?_eq_some_iff.mp hj).1
      have q := M.it j m hj
      rw [if_pos hj'] at q
      exact q.at fun o e => up _ o e
/-- .. where the tuple given out last was let go -/
theorem next_item0 {vs : List Value} {Q : Value → Shared → Prop} (hn : 0 < ls.length) (hls : ls.length ≤ 64) (hlt : ∀ l ∈ ls, (l : Nat) < B) (Z : At κ s.heap B ls i) (hz : s.heap.get? (B + ls.length + 2 : Nat) = some (zo .none false B ls.length)) (hc : Col κ s.heap ls i vs)
    (hQ : ∀ h', At κ h' B ls (i + 1) → h'.get? (B + ls.length + 2 : Nat) = some (zo (rawInt s.heap.objs.size) false B ls.length) → h'.get? s.heap.objs.size = some { cls := .type "tuple", data := .seq vs.toArray } → h'.objs.size = s.heap.objs.size + 1 → (∀ (c : Nat) o, (c < B ∨ B + ls.length + 2 < c) → s.heap.get? c = some o → h'.get? c = some o) → Q (.ref s.heap.objs.size) { s with heap := h' }) :
    wpAny (model prog w) A (Builtin.«zip.__next__» ⟨[.ref (B + ls.length + 2 : Nat)], []⟩) (fun fin s' => ∃ v, fin = .done (.ret v) ∧ Q v s') E s := by
  have hemp : (itsL B ls.length).toArray.isEmpty = false := by
    have : (itsL B ls.length).toArray.size ≠ 0 := by rw [List.size_toArray, itsL_len]; omega
    simpa [Array.isEmpty] using this
  show wpAny _ _ (field (.ref (B + ls.length + 2 : Nat)) 2 >>= _) _ _ _
  refine wpAny_bind (wpAny_field hz rfl (x := .bool false) rfl ?_)
  show wpAny _ _ (field (.ref (B + ls.length + 2 : Nat)) 3 >>= _) _ _ _
  refine wpAny_bind (wpAny_field hz rfl (x := .ref (B + ls.length : Nat)) rfl ?_)
  refine wpAny_bind (wpAny_seqItems Z.ti rfl ?_)
  simp only [hemp, Bool.false_eq_true, if_false]
  unfold Builtin.SmallTypes.ownedTupleIsFree
  refine wpAny_bind (wpAny_bind (wpAny_field hz rfl (x := .none) rfl (wpAny_pure ?_)))
  simp only [Option.isNone_none, if_true]
  refine wpAny_bind (wpAny_rule ?_)
  refine wpAny_bind (wpAny_field hz rfl (x := .ref (B + ls.length + 1 : Nat)) rfl ?_)
  refine wpAny_bind (wpAny_setField_rec hz (by simp) fun h₁ hz₁ hs₁ => ?_)
  have hz₁' : h₁.get? (B + ls.length + 2 : Nat) = some (zo .ellipsis false B ls.length) := hz₁
  obtain ⟨xs0, hxs0, hto0⟩ := Z.to
  have keep1 : ∀ (c : Nat) o, c ≠ B + ls.length + 2 → s.heap.get? c = some o → h₁.get? c = some o := fun c o hcz e => hs₁.extBut _ _ (an hcz) e
  have mem : ∀ (k : Nat) (l : Addr), ls[k]? = some l → (l : Nat) < B := fun k l e => hlt l (List.mem_of_getElem? e)
  have M1 : Mid κ s.heap h₁ B ls i 0 := by
    refine ⟨keep1 _ _ (by omega) Z.ti, fun j l hj => ?_, hs₁.1, fun c o hcc e => keep1 c o (by rcases hcc with q | q <;> omega) e⟩
    have hj' : j < ls.length := (List.getElem?_eq_some_iff.mp hj).1
    rw [if_neg (Nat.not_lt_zero j)]
    exact (Z.it j l hj).extBut hs₁.extBut (an (by omega))
  refine wpAny_bind ?_
  refine wpAny_forIn_list _ (fun rest b s' => b.1 = none ∧ ∃ k, rest = (itsL B ls.length).zipIdx.drop k ∧ k ≤ ls.length ∧ ∃ h, s' = { s with heap := h } ∧ Mid κ s.heap h B ls i k ∧ h.get? (B + ls.length + 2 : Nat) = some (zo .ellipsis false B ls.length) ∧
    ∃ xs : Array Value, xs.size = ls.length ∧ h.get? (B + ls.length + 1 : Nat) = some { cls := .type "tuple", data := .seq xs } ∧ ∀ j, j < k → xs[j]? = vs[j]?) _ ?turn ?fin _ _ ?start
  case start => exact ⟨rfl, 0, rfl, Nat.zero_le _, h₁, rfl, M1, hz₁', xs0, hxs0, keep1 _ _ (by omega) hto0, fun j hj => absurd hj (Nat.not_lt_zero j)⟩
  case turn =>
    rintro x rest b s' ⟨hb, k, hr, hk, h, rfl, M, hzz, xs, hxs, hto, hpre⟩
    obtain ⟨hk', rfl, rfl⟩ := zix_ends hr
    obtain ⟨l, hl⟩ : ∃ l, ls[k]? = some l := ⟨_, List.getElem?_eq_getElem hk'⟩
    obtain ⟨_, us, hus, v, hv, huv⟩ := hc.2 k l hl
    refine wpAny_bind (wpAny_onRaise ?_)
    show wpAny _ _ (Builtin.SmallTypes.nextOf (.ref (B + k : Nat)) >>= _) _ _ _
    refine wpAny_bind (draw_item (s := { s with heap := h }) rfl M hl (mem k l hl) hus huv fun h2 M2 kp => wpAny_pure ?_)
    have hto2 := kp (B + ls.length + 1) (an (by omega)) _ hto
    refine wpAny_bind (wpAny_seqItems (s := { s with heap := h2 }) hto2 rfl ?_)
    refine wpAny_bind (updateSeq_tup (s := { s with heap := h2 }) hto2 (by omega) fun h3 hto3 hs3 => ?_)
    refine wpAny_bind (wpAny_letGo (wpAny_pure ?_))
    have up : ∀ (c : Nat) o, c ≠ B + ls.length + 1 → h2.get? c = some o → h3.get? c = some o := fun c o hcz e => hs3.extBut _ _ (an hcz) e
    refine ⟨rfl, k + 1, rfl, hk', h3, rfl, ⟨up _ _ (by omega) M2.ti, fun j m hj => ?_, by rw [hs3.1, M2.sz], fun c o hcc e => up c o (by rcases hcc with q | q <;> omega) (M2.keep c o hcc e)⟩, up _ _ (by omega) (kp (B + ls.length + 2) (an (by omega)) _ hzz), _, by simpa using hxs, hto3, fun j hj => ?_⟩
    · have hj' : j < ls.length := (List.getElem?_eq_some_iff.mp hj).1
      exact (M2.it j m hj).extBut hs3.extBut (an (by omega))
    · by_cases e : j = k
      · subst e
        rw [hv, Array.getElem?_setIfInBounds_self_of_lt (by omega)]
      · rw [Array.getElem?_setIfInBounds_ne (Ne.symm e)]
        exact hpre j (by omega)
  case fin =>
    rintro ⟨b1, ⟨⟩⟩ s' ⟨hb, k, hr, hk, h, rfl, M, hzz, xs, hxs, hto, hpre⟩
    cases hb
    have hkn : k = ls.length := by
      have := congrArg List.length hr
      rw [List.length_drop, List.length_zipIdx, itsL_len] at this
      simp at this; omega
    subst hkn
    have hvs : xs = vs.toArray := by
      refine Array.ext (by rw [hxs, List.size_toArray, hc.1]) fun j h1 h2 => ?_
      have := hpre j (by omega)
      rw [Array.getElem?_eq_getElem h1, List.getElem?_eq_getElem (by simpa using h2)] at this
      simpa using Option.some.inj this
    subst hvs
    refine wpAny_bind (wpAny_seqItems (s := { s with heap := h }) hto rfl ?_)
    show wpAny _ _ (newTuple vs.toArray.toList >>= _) _ _ _
    have hl64 : 64 ≤ sizeLine := by rw [sizeLine_eq]; decide
    refine wpAny_bind (wpAny_newTuple ?_ (by have := hc.1; simp; omega))
    have hsz : h.objs.size = s.heap.objs.size := M.sz
    have hzlt : (B + ls.length + 2 : Nat) < h.objs.size := Heap.lt_size hzz
    show wpAny _ _ (Builtin.SmallTypes.ownedTupleHandOut (.ref (B + ls.length + 2 : Nat)) (.ref h.objs.size) >>= _) _ _ _
    refine wpAny_bind ?_
    unfold Builtin.SmallTypes.ownedTupleHandOut
    have hz6 : (h.push { cls := .type "tuple", data := .seq vs.toArray.toList.toArray }).get? (B + ls.length + 2 : Nat) = some (zo .ellipsis false B ls.length) := Heap.get?_push_of_some _ hzz
    refine wpAny_bind (wpAny_setField_rec hz6 (by simp) fun h7 hz7 hs7 => ?_)
    replace hz7 : h7.get? (B + ls.length + 2 : Nat) = some (zo (rawInt h.objs.size) false B ls.length) := hz7
    refine wpAny_setField_rec hz7 (by simp) fun h8 hz8 hs8 => ?_
    replace hz8 : h8.get? (B + ls.length + 2 : Nat) = some (zo (rawInt h.objs.size) false B ls.length) := hz8
    have up : ∀ (c : Nat) o, c ≠ B + ls.length + 2 → h.get? c = some o → h8.get? c = some o := fun c o c1 e => hs8.extBut _ _ (an c1) (hs7.extBut _ _ (an c1) (Heap.get?_push_of_some _ e))
    refine wpAny_pure ⟨_, rfl, ?_⟩
    show Q (.ref h.objs.size) _
    have hT : h8.get? h.objs.size = some { cls := .type "tuple", data := .seq vs.toArray } := by
      have e : (h.push { cls := .type "tuple", data := .seq vs.toArray.toList.toArray }).get? h.objs.size = some _ := Heap.get?_push_size _ rfl
      exact hs8.extBut _ _ (an (Nat.ne_of_gt hzlt)) (hs7.extBut _ _ (an (Nat.ne_of_gt hzlt)) e)
    have h8s : h8.objs.size = h.objs.size + 1 := by rw [hs8.1, hs7.1, Heap.size_push]
    rw [hsz] at hz8 hT h8s ⊢
    refine hQ h8 ⟨⟨_, _, .inr ⟨_, rfl⟩, hz8⟩, up _ _ (by omega) M.ti, ⟨_, hxs, up _ _ (by omega) hto⟩, fun j m hj => ?_⟩ hz8 hT h8s fun c o hcc e => up c o (by rcases hcc with q | q <;> omega) (M.keep c o hcc e)
    have hj' : j < ls.length := (List.getElem?_eq_some_iff.mp hj).1
    have q := M.it j m hj
    rw [if_pos hj'] at q
    exact q.at fun o e => up _ o (by omega) e
theorem its_cons {n : Nat} (h : 0 < n) : itsL B n = .ref (B : Nat) :: (itsL B n).drop 1 := by
  have := drop_cons (itsL_get (B := B) h)
  rw [List.drop_zero] at this
  exact this
theorem zix_cons {n : Nat} (h : 0 < n) : (itsL B n).zipIdx = (.ref (B : Nat), 0) :: (itsL B n).zipIdx.drop 1 := by
  have := drop_cons (zix_get (B := B) h)
  rw [List.drop_zero] at this
  exact this
theorem lt_ne2 {a b n : Nat} (h : a < b) : a ≠ b + n + 2 := by omega
theorem next_end {l0 : Addr} {us : Array Value} {Q : PySem.Fin → Shared → Prop} (hh : A.handled = none) (hl0 : ls[0]? = some l0) (hlt : (l0 : Nat) < B) (Z : At κ s.heap B ls i) (hx : KSq κ s.heap l0 us) (he : us[i]? = none)
    (hE : ∀ h' e, (∀ (c : Nat) o, (c < B ∨ B + ls.length + 2 < c) → s.heap.get? c = some o → h'.get? c = some o) → (∃ o, h'.get? e = some o ∧ o.cls = .type "StopIteration") → E (.ref e) { s with heap := h' }) :
    wpAny (model prog w) A (Builtin.«zip.__next__» ⟨[.ref (B + ls.length + 2 : Nat)], []⟩) Q E s := by
  have hn : 0 < ls.length := (List.getElem?_eq_some_iff.mp hl0).1
  obtain ⟨f0, f1, hf0, hz⟩ := Z.z
  have hemp : (itsL B ls.length).toArray.isEmpty = false := by
    have : (itsL B ls.length).toArray.size ≠ 0 := by rw [List.size_toArray, itsL_len]; omega
    simpa [Array.isEmpty] using this
  have it0 := Z.it 0 l0 hl0
  show wpAny _ _ (field (.ref (B + ls.length + 2 : Nat)) 2 >>= _) _ _ _
  refine wpAny_bind (wpAny_field hz rfl (x := .bool false) rfl ?_)
  show wpAny _ _ (field (.ref (B + ls.length + 2 : Nat)) 3 >>= _) _ _ _
  refine wpAny_bind (wpAny_field hz rfl (x := .ref (B + ls.length : Nat)) rfl ?_)
  refine wpAny_bind (wpAny_seqItems Z.ti rfl ?_)
  simp only [hemp, Bool.false_eq_true, if_false]
  refine wpAny_bind (is_free hf0 hz ?_ fun h₁ hz₁ hs₁ => ?_)
  · simp only [if_true]
    refine wpAny_bind (wpAny_rule ?_)
    refine wpAny_bind (wpAny_field hz rfl (x := .ref (B + ls.length + 1 : Nat)) rfl ?_)
    refine wpAny_bind (wpAny_setField_rec hz (by simp) fun h₁ hz₁ hs₁ => ?_)
    have hz₁' : h₁.get? (B + ls.length + 2 : Nat) = some (zo .ellipsis f1 B ls.length) := hz₁
    refine wpAny_bind ?_
    show wpAny _ _ (forIn (itsL B ls.length).zipIdx _ _) _ _ _
    rw [zix_cons hn, List.forIn_cons]
    refine wpAny_bind (wpAny_bind (wpAny_onRaise ?_))
    show wpAny _ _ (Builtin.SmallTypes.nextOf (.ref (B : Nat)) >>= _) _ _ _
    refine wpAny_bind (nextOf_k_end (s := { s with heap := h₁ }) hh (it0.extBut hs₁.extBut (an (by omega))) (hx.extBut hs₁.extBut (an (lt_ne2 hlt))) he fun h₂ e hs₂ hoe => ?_)
    obtain ⟨oe, hoe, hce⟩ := hoe
    have hz₂ : h₂.get? (B + ls.length + 2 : Nat) = some (zo .ellipsis f1 B ls.length) := hs₂ _ _ (an (by omega)) hz₁'
    have hez : e ≠ (B + ls.length + 2 : Nat) := fun x => by subst x; rw [hz₂] at hoe; cases hoe; simp at hce
    refine wpAny_setField_rec hz₂ (by simp) fun h₃ _ hs₃ => hE h₃ e (fun c o hcc x => hs₃.extBut _ _ (an (by rcases hcc with q | q <;> omega)) (hs₂ _ _ (an (by rcases hcc with q | q <;> omega)) (hs₁.extBut _ _ (an (by rcases hcc with q | q <;> omega)) x))) ⟨oe, hs₃.extBut _ _ hez hoe, hce⟩
  · simp only [Bool.false_eq_true, if_false]
    refine wpAny_bind ?_
    rw [← Array.forIn_toList]
    show wpAny _ _ (forIn (itsL B ls.length) _ _) _ _ _
    rw [its_cons hn, List.forIn_cons]
    refine wpAny_bind (wpAny_bind (wpAny_holding ?_))
    show wpAny _ _ (Builtin.SmallTypes.nextOf (.ref (B : Nat)) >>= _) _ _ _
    refine wpAny_bind (nextOf_k_end (s := { s with heap := h₁ }) hh (it0.extBut hs₁.extBut (an (by omega))) (hx.extBut hs₁.extBut (an (lt_ne2 hlt))) he fun h₂ e hs₂ hoe => ?_)
    exact hE h₂ e (fun c o hcc x => hs₂ _ _ (an (by rcases hcc with q | q <;> omega)) (hs₁.extBut _ _ (an (by rcases hcc with q | q <;> omega)) x)) hoe
theorem typeIs {h : Heap} {g : Shared} (Z : At κ g.heap B ls i) : g.TypeIs (.ref (B + ls.length + 2 : Nat)) "zip" := by
  obtain ⟨_, _, _, hz⟩ := Z.z
  exact ⟨_, hz, rfl⟩
theorem pyNext_item {vs : List Value} {Q : Option Value → Shared → Prop} (hn : 0 < ls.length) (hls : ls.length ≤ 64) (hlt : ∀ l ∈ ls, (l : Nat) < B) (Z : At κ s.heap B ls i) (hc : Col κ s.heap ls i vs)
    (hQ : ∀ h', At κ h' B ls (i + 1) → h'.get? s.heap.objs.size = some { cls := .type "tuple", data := .seq vs.toArray } → h'.objs.size = s.heap.objs.size + 1 → (∀ (c : Nat) o, (c < B ∨ B + ls.length + 2 < c) → s.heap.get? c = some o → h'.get? c = some o) → Q (some (.ref s.heap.objs.size)) { s with heap := h' }) :
    wpAny (model prog w) A (pyNext (.ref (B + ls.length + 2 : Nat))) Q E s := by
  have hT : s.TypeIs (.ref (B + ls.length + 2 : Nat)) "zip" := typeIs (h := s.heap) Z
  unfold pyNext
  exact wpAny_bind (wpAny_attempt (wpAny_callSpecial?_slot (name := Str.ofString "__next__") hT F.slot_zip_next
    (wpAny_call_entry F.slot_zip_next hT F.entry_zip_next
      (next_item hn hls hlt Z hc fun h' a1 a2 a3 a4 => wpAny_pure (hQ h' a1 a2 a3 a4)) (F.args_zip_next_1 _))))
theorem pyNext_item0 {vs : List Value} {Q : Option Value → Shared → Prop} (hn : 0 < ls.length) (hls : ls.length ≤ 64) (hlt : ∀ l ∈ ls, (l : Nat) < B) (Z : At κ s.heap B ls i) (hz : s.heap.get? (B + ls.length + 2 : Nat) = some (zo .none false B ls.length)) (hc : Col κ s.heap ls i vs)
    (hQ : ∀ h', At κ h' B ls (i + 1) → h'.get? (B + ls.length + 2 : Nat) = some (zo (rawInt s.heap.objs.size) false B ls.length) → h'.get? s.heap.objs.size = some { cls := .type "tuple", data := .seq vs.toArray } → h'.objs.size = s.heap.objs.size + 1 → (∀ (c : Nat) o, (c < B ∨ B + ls.length + 2 < c) → s.heap.get? c = some o → h'.get? c = some o) → Q (some (.ref s.heap.objs.size)) { s with heap := h' }) :
    wpAny (model prog w) A (pyNext (.ref (B + ls.length + 2 : Nat))) Q E s := by
  have hT : s.TypeIs (.ref (B + ls.length + 2 : Nat)) "zip" := typeIs (h := s.heap) Z
  unfold pyNext
  exact wpAny_bind (wpAny_attempt (wpAny_callSpecial?_slot (name := Str.ofString "__next__") hT F.slot_zip_next
    (wpAny_call_entry F.slot_zip_next hT F.entry_zip_next
      (next_item0 hn hls hlt Z hz hc fun h' a0 a1 a2 a3 a4 => wpAny_pure (hQ h' a0 a1 a2 a3 a4)) (F.args_zip_next_1 _))))
theorem pyNext_end {l0 : Addr} {us : Array Value} {Q : Option Value → Shared → Prop} (hh : A.handled = none) (hl0 : ls[0]? = some l0) (hlt : (l0 : Nat) < B) (Z : At κ s.heap B ls i) (hx : KSq κ s.heap l0 us) (he : us[i]? = none)
    (hQ : ∀ h', (∀ (c : Nat) o, (c < B ∨ B + ls.length + 2 < c) → s.heap.get? c = some o → h'.get? c = some o) → Q none { s with heap := h' }) : wpAny (model prog w) A (pyNext (.ref (B + ls.length + 2 : Nat))) Q E s := by
  have hT : s.TypeIs (.ref (B + ls.length + 2 : Nat)) "zip" := typeIs (h := s.heap) Z
  unfold pyNext
  refine wpAny_bind (wpAny_attempt (wpAny_callSpecial?_slot (name := Str.ofString "__next__") hT F.slot_zip_next
    (wpAny_call_entry F.slot_zip_next hT F.entry_zip_next (next_end hh hl0 hlt Z hx he fun h' e hk he => ?_) (F.args_zip_next_1 _))))
  obtain ⟨o, ho, hc⟩ := he
  refine wpAny_bind (wpAny_isInstance (T := "StopIteration") (b := true) ⟨o, ho, hc⟩ isSubtype_stop ?_)
  exact wpAny_pure (hQ _ hk)
end
theorem itsL_succ {B k : Nat} : itsL B (k + 1) = itsL B k ++ [.ref (B + k : Nat)] := by
  unfold itsL
  rw [List.range_succ, List.map_append]; rfl
/-- amid the making: k iterators stand -/
def Made (κ : Addr → Bool) (h0 h : Heap) (ls : List Addr) (k : Nat) : Prop := h.objs.size = h0.objs.size + k ∧ (∀ (j : Nat) (l : Addr), j < k → ls[j]? = some l → KIt κ h (h0.objs.size + j : Nat) l 0) ∧ ∀ c o, h0.get? c = some o → h.get? c = some o
def itO (κ : Addr → Bool) (l : Addr) : Obj := if κ l = true then { cls := .type "list_iterator", data := .fields #[.ref l, .int 0 0] } else { cls := .type "tuple_iterator", data := .fields #[.ref l, .int 0 0] }
theorem itO_it {κ : Addr → Bool} {h : Heap} {l : Addr} : KIt κ (h.push (itO κ l)) h.objs.size l 0 := by
  unfold KIt itO
  by_cases q : κ l = true
  · rw [if_pos q, if_pos q]
    exact ⟨_, Heap.get?_push_size _ rfl, rfl, rfl⟩
  · rw [if_neg q, if_neg q]
    exact ⟨_, Heap.get?_push_size _ rfl, rfl, rfl⟩
theorem made_step {κ : Addr → Bool} {h0 h : Heap} {ls : List Addr} {k : Nat} {l : Addr} (M : Made κ h0 h ls k) (hl : ls[k]? = some l) : Made κ h0 (h.push (itO κ l)) ls (k + 1) := by
  obtain ⟨m1, m2, m3⟩ := M
  refine ⟨by rw [Heap.size_push, m1]; omega, fun j m hj hm => ?_, fun c o e => Heap.get?_push_of_some _ (m3 c o e)⟩
  by_cases e : j = k
  · subst e
    rw [hl] at hm; cases hm
    rw [← m1]
    exact itO_it
  · exact (m2 j m (by omega) hm).at fun o e => Heap.get?_push_of_some _ e
theorem made_end {κ : Addr → Bool} {h0 h : Heap} {ls : List Addr} (M : Made κ h0 h ls ls.length) {h3 : Heap}
    (e3 : h3 = ((h.push { cls := .type "tuple", data := .seq (itsL h0.objs.size ls.length).toArray }).push { cls := .type "tuple", data := .seq ((itsL h0.objs.size ls.length).map fun _ => Value.none).toArray }).push
      { cls := .type "zip", data := .fields #[.none, .bool false, .bool false, .ref (h0.objs.size + ls.length : Nat), .ref (h0.objs.size + ls.length + 1 : Nat)] }) :
    At κ h3 h0.objs.size ls 0 ∧ h3.get? (h0.objs.size + ls.length + 2 : Nat) = some (zo .none false h0.objs.size ls.length) ∧ h3.objs.size = h0.objs.size + ls.length + 3 ∧ ∀ c o, h0.get? c = some o → h3.get? c = some o := by
  obtain ⟨m1, m2, m3⟩ := M
  subst e3
  have s1 : (h.push { cls := .type "tuple", data := .seq (itsL h0.objs.size ls.length).toArray }).objs.size = h0.objs.size + ls.length + 1 := by rw [Heap.size_push, m1]
  have s2 : ((h.push { cls := .type "tuple", data := .seq (itsL h0.objs.size ls.length).toArray }).push { cls := .type "tuple", data := .seq ((itsL h0.objs.size ls.length).map fun _ => Value.none).toArray }).objs.size = h0.objs.size + ls.length + 2 := by rw [Heap.size_push, s1]
  refine ⟨⟨⟨.none, false, .inl rfl, ?_⟩, ?_, ⟨((itsL h0.objs.size ls.length).map fun _ => Value.none).toArray, by rw [List.size_toArray, List.length_map, itsL_len], ?_⟩, fun j l hl => ?_⟩, by rw [← s2]; exact Heap.get?_push_size _ rfl, by rw [Heap.size_push, s2], fun c o e => Heap.get?_push_of_some _ (Heap.get?_push_of_some _ (Heap.get?_push_of_some _ (m3 c o e)))⟩
  · rw [← s2]; exact Heap.get?_push_size _ rfl
  · rw [← m1]; exact Heap.get?_push_of_some _ (Heap.get?_push_of_some _ (Heap.get?_push_size _ rfl))
  · rw [← s1]; exact Heap.get?_push_of_some _ (Heap.get?_push_size _ rfl)
  · exact (m2 j l (List.getElem?_eq_some_iff.mp hl).1 hl).at fun o e => Heap.get?_push_of_some _ (Heap.get?_push_of_some _ (Heap.get?_push_of_some _ e))
theorem iter_k {κ : Addr → Bool} {prog : Program} {w : World} {A : Around} {E : Value → Shared → Prop} {s : Shared} {l : Addr} {xs : Array Value} {Q : Value → Shared → Prop} (hx : KSq κ s.heap l xs) (h : Q (.ref s.heap.objs.size) { s with heap := s.heap.push (itO κ l) }) :
    wpAny (model prog w) A (pyIter (.ref l)) Q E s := by
  unfold KSq at hx
  unfold itO at h
  by_cases q : κ l = true
  · rw [if_pos q] at hx h
    exact wpAny_pyIter_list hx h
  · rw [if_neg q] at hx h
    exact wpAny_pyIter_tuple hx h
theorem meets_new (κ : Addr → Bool) (ls : List Addr) (hls : ls.length ≤ 64) :
    Meets (Builtin.«zip.__new__» ⟨.type "zip" :: ls.map .ref, []⟩) (fun _ R s => (∀ l ∈ ls, ∃ xs, KSq κ s.heap l xs) ∧ ∀ h', At κ h' s.heap.objs.size ls 0 → h'.get? (s.heap.objs.size + ls.length + 2 : Nat) = some (zo .none false s.heap.objs.size ls.length) → h'.objs.size = s.heap.objs.size + ls.length + 3 → (∀ c o, s.heap.get? c = some o → h'.get? c = some o) →
      R (.ok (.ret (.ref (s.heap.objs.size + ls.length + 2 : Nat)))) { s with heap := h' }) :=
  .of_wp fun prog w A R s h => by
    obtain ⟨hp, g, d, tk, os⟩ := s; obtain ⟨hl, h⟩ := h
    have hsub := sub_zip
    have hl64 : 64 ≤ sizeLine := by rw [sizeLine_eq]; decide
    wp_walk using wpAny_forIn_list _ (fun rest (b : Array Value) s' => ∃ k hk, rest = (ls.map Value.ref).drop k ∧ k ≤ ls.length ∧ b.toList = itsL hp.objs.size k ∧ s' = ⟨hk, g, d, tk, os⟩ ∧ Made κ hp hk ls k) _
    case turn =>
      rintro x rest b s' ⟨k, hk, hr, hkl, hb, rfl, M⟩
      obtain ⟨h1, rfl⟩ := ends hr
      rw [List.getElem?_map] at h1
      cases hlk : ls[k]? with
      | none => rw [hlk] at h1; cases h1
      | some l =>
        rw [hlk] at h1
        cases h1
        have hk' : k < ls.length := (List.getElem?_eq_some_iff.mp hlk).1
        obtain ⟨xs, hxs⟩ := hl l (List.mem_of_getElem? hlk)
        refine wpAny_bind (wpAny_holding (iter_k (s := ⟨hk, g, d, tk, os⟩) (hxs.keep fun o e => M.2.2 l o e) (wpAny_pure ⟨k + 1, _, rfl, hk', ?_, rfl, made_step M hlk⟩)))
        rw [Array.toList_push, hb, itsL_succ, ← M.1]
    case fin =>
      rintro b s' ⟨k, hk, hr, hkl, hb, rfl, M⟩
      have hkn : k = ls.length := by
        have := congrArg List.length hr
        rw [List.length_drop, List.length_map] at this
        simp at this; omega
      subst hkn
      refine wpAny_pure ?_
      rw [hb]
      have z0 : (itsL hp.objs.size ls.length).length ≤ sizeLine := by rw [itsL_len]; omega
      have m1 := M.1
      refine wpAny_bind (wpAny_newTuple ?_ z0)
      refine wpAny_bind (wpAny_newTuple ?_ (by rw [List.length_map]; exact z0))
      obtain ⟨a1, a0, a2, a3⟩ := made_end M rfl
      have s1 : (hk.push { cls := .type "tuple", data := .seq (itsL hp.objs.size ls.length).toArray }).objs.size = hp.objs.size + ls.length + 1 := by rw [Heap.size_push, m1]
      have s2 : ((hk.push { cls := .type "tuple", data := .seq (itsL hp.objs.size ls.length).toArray }).push { cls := .type "tuple", data := .seq ((itsL hp.objs.size ls.length).map fun _ => Value.none).toArray }).objs.size = hp.objs.size + ls.length + 2 := by rw [Heap.size_push, s1]
      dsimp only
      rw [s1, m1]
      wp_walk
      refine ⟨_, rfl, ?_⟩
      have := h _ a1 a0 a2 a3
      dsimp only at this ⊢
      rw [s2]
      exact this
    case h => exact ⟨0, hp, rfl, Nat.zero_le _, rfl, rfl, rfl, fun j l hj => absurd hj (Nat.not_lt_zero j), fun _ _ e => e⟩
end ZSt
set_option maxHeartbeats 1000000
/-! Ev, part ZT: for x in zip(*rows): the call, the turns. -/
namespace ZSt
open PySem PySem.Spec PyProof.Rows L2 RZ
theorem typeCall : ∀ (us : List Value), us.length ≤ 13 → checkTypeCall "zip" ⟨us, []⟩ = pure ()
  | [], _ => by kernel_rfl
  | [a0], _ => by kernel_rfl
  | [a0, a1], _ => by kernel_rfl
  | [a0, a1, a2], _ => by kernel_rfl
  | [a0, a1, a2, a3], _ => by kernel_rfl
  | [a0, a1, a2, a3, a4], _ => by kernel_rfl
  | [a0, a1, a2, a3, a4, a5], _ => by kernel_rfl
  | [a0, a1, a2, a3, a4, a5, a6], _ => by kernel_rfl
  | [a0, a1, a2, a3, a4, a5, a6, a7], _ => by kernel_rfl
  | [a0, a1, a2, a3, a4, a5, a6, a7, a8], _ => by kernel_rfl
  | [a0, a1, a2, a3, a4, a5, a6, a7, a8, a9], _ => by kernel_rfl
  | [a0, a1, a2, a3, a4, a5, a6, a7, a8, a9, a10], _ => by kernel_rfl
  | [a0, a1, a2, a3, a4, a5, a6, a7, a8, a9, a10, a11], _ => by kernel_rfl
  | [a0, a1, a2, a3, a4, a5, a6, a7, a8, a9, a10, a11, a12], _ => by kernel_rfl
  | _ :: _ :: _ :: _ :: _ :: _ :: _ :: _ :: _ :: _ :: _ :: _ :: _ :: _ :: r, h => by simp at h
theorem newCall : ∀ (us : List Value), us.length ≤ 13 → checkBuiltinCall "zip.__new__" ⟨.type "zip" :: us, []⟩ = pure ()
  | [], _ => by kernel_rfl
  | [a0], _ => by kernel_rfl
  | [a0, a1], _ => by kernel_rfl
  | [a0, a1, a2], _ => by kernel_rfl
  | [a0, a1, a2, a3], _ => by kernel_rfl
  | [a0, a1, a2, a3, a4], _ => by kernel_rfl
  | [a0, a1, a2, a3, a4, a5], _ => by kernel_rfl
  | [a0, a1, a2, a3, a4, a5, a6], _ => by kernel_rfl
  | [a0, a1, a2, a3, a4, a5, a6, a7], _ => by kernel_rfl
  | [a0, a1, a2, a3, a4, a5, a6, a7, a8], _ => by kernel_rfl
  | [a0, a1, a2, a3, a4, a5, a6, a7, a8, a9], _ => by kernel_rfl
  | [a0, a1, a2, a3, a4, a5, a6, a7, a8, a9, a10], _ => by kernel_rfl
  | [a0, a1, a2, a3, a4, a5, a6, a7, a8, a9, a10, a11], _ => by kernel_rfl
  | [a0, a1, a2, a3, a4, a5, a6, a7, a8, a9, a10, a11, a12], _ => by kernel_rfl
  | _ :: _ :: _ :: _ :: _ :: _ :: _ :: _ :: _ :: _ :: _ :: _ :: _ :: _ :: r, h => by simp at h
theorem argsInit (obj : Value) : ∀ (us : List Value), us.length ≤ 13 → argsOk "object.__init__" ⟨obj :: us, []⟩
  | [], _ => by unfold argsOk; rw [signature?_of (id := "object.__init__") (n := ['_', '_', 'i', 'n', 'i', 't', '_', '_'].reverse) (o := ['t', 'c', 'e', 'j', 'b', 'o']) (by kernel_rfl) F.owner_object]; kernel_rfl
  | [a0], _ => by unfold argsOk; rw [signature?_of (id := "object.__init__") (n := ['_', '_', 'i', 'n', 'i', 't', '_', '_'].reverse) (o := ['t', 'c', 'e', 'j', 'b', 'o']) (by kernel_rfl) F.owner_object]; kernel_rfl
  | [a0, a1], _ => by unfold argsOk; rw [signature?_of (id := "object.__init__") (n := ['_', '_', 'i', 'n', 'i', 't', '_', '_'].reverse) (o := ['t', 'c', 'e', 'j', 'b', 'o']) (by kernel_rfl) F.owner_object]; kernel_rfl
  | [a0, a1, a2], _ => by unfold argsOk; rw [signature?_of (id := "object.__init__") (n := ['_', '_', 'i', 'n', 'i', 't', '_', '_'].reverse) (o := ['t', 'c', 'e', 'j', 'b', 'o']) (by kernel_rfl) F.owner_object]; kernel_rfl
  | [a0, a1, a2, a3], _ => by unfold argsOk; rw [signature?_of (id := "object.__init__") (n := ['_', '_', 'i', 'n', 'i', 't', '_', '_'].reverse) (o := ['t', 'c', 'e', 'j', 'b', 'o']) (by kernel_rfl) F.owner_object]; kernel_rfl
  | [a0, a1, a2, a3, a4], _ => by unfold argsOk; rw [signature?_of (id := "object.__init__") (n := ['_', '_', 'i', 'n', 'i', 't', '_', '_'].reverse) (o := ['t', 'c', 'e', 'j', 'b', 'o']) (by kernel_rfl) F.owner_object]; kernel_rfl
  | [a0, a1, a2, a3, a4, a5], _ => by unfold argsOk; rw [signature?_of (id := "object.__init__") (n := ['_', '_', 'i', 'n', 'i', 't', '_', '_'].reverse) (o := ['t', 'c', 'e', 'j', 'b', 'o']) (by kernel_rfl) F.owner_object]; kernel_rfl
  | [a0, a1, a2, a3, a4, a5, a6], _ => by unfold argsOk; rw [signature?_of (id := "object.__init__") (n := ['_', '_', 'i', 'n', 'i', 't', '_', '_'].reverse) (o := ['t', 'c', 'e', 'j', 'b', 'o']) (by kernel_rfl) F.owner_object]; kernel_rfl
  | [a0, a1, a2, a3, a4, a5, a6, a7], _ => by unfold argsOk; rw [signature?_of (id := "object.__init__") (n := ['_', '_', 'i', 'n', 'i', 't', '_', '_'].reverse) (o := ['t', 'c', 'e', 'j', 'b', 'o']) (by kernel_rfl) F.owner_object]; kernel_rfl
  | [a0, a1, a2, a3, a4, a5, a6, a7, a8], _ => by unfold argsOk; rw [signature?_of (id := "object.__init__") (n := ['_', '_', 'i', 'n', 'i', 't', '_', '_'].reverse) (o := ['t', 'c', 'e', 'j', 'b', 'o']) (by kernel_rfl) F.owner_object]; kernel_rfl
  | [a0, a1, a2, a3, a4, a5, a6, a7, a8, a9], _ => by unfold argsOk; rw [signature?_of (id := "object.__init__") (n := ['_', '_', 'i', 'n', 'i', 't', '_', '_'].reverse) (o := ['t', 'c', 'e', 'j', 'b', 'o']) (by kernel_rfl) F.owner_object]; kernel_rfl
  | [a0, a1, a2, a3, a4, a5, a6, a7, a8, a9, a10], _ => by unfold argsOk; rw [signature?_of (id := "object.__init__") (n := ['_', '_', 'i', 'n', 'i', 't', '_', '_'].reverse) (o := ['t', 'c', 'e', 'j', 'b', 'o']) (by kernel_rfl) F.owner_object]; kernel_rfl
  | [a0, a1, a2, a3, a4, a5, a6, a7, a8, a9, a10, a11], _ => by unfold argsOk; rw [signature?_of (id := "object.__init__") (n := ['_', '_', 'i', 'n', 'i', 't', '_', '_'].reverse) (o := ['t', 'c', 'e', 'j', 'b', 'o']) (by kernel_rfl) F.owner_object]; kernel_rfl
  | [a0, a1, a2, a3, a4, a5, a6, a7, a8, a9, a10, a11, a12], _ => by unfold argsOk; rw [signature?_of (id := "object.__init__") (n := ['_', '_', 'i', 'n', 'i', 't', '_', '_'].reverse) (o := ['t', 'c', 'e', 'j', 'b', 'o']) (by kernel_rfl) F.owner_object]; kernel_rfl
  | _ :: _ :: _ :: _ :: _ :: _ :: _ :: _ :: _ :: _ :: _ :: _ :: _ :: _ :: r, h => by simp at h
section
variable {prog : Program} {w : World} {A : Around} {E : Value → Shared → Prop} {s : Shared}
theorem call_zipS (κ : Addr → Bool) {ls : List Addr} {Q : Value → Shared → Prop} (hls : ls.length ≤ 13) (ht : ∀ l ∈ ls, ∃ xs, KSq κ s.heap l xs)
    (h : ∀ h', At κ h' s.heap.objs.size ls 0 → h'.get? (s.heap.objs.size + ls.length + 2 : Nat) = some (zo .none false s.heap.objs.size ls.length) → h'.objs.size = s.heap.objs.size + ls.length + 3 → (∀ c o, s.heap.get? c = some o → h'.get? c = some o) → Q (.ref (s.heap.objs.size + ls.length + 2 : Nat)) { s with heap := h' }) :
    wpAny (model prog w) A (call (.type "zip") (ls.map .ref)) Q E s := by
  have hl : (ls.map Value.ref).length ≤ 13 := by rw [List.length_map]; exact hls
  refine callType_new PySem.F.called_zip (by decide) (typeCall _ hl) (newCall _ hl) (fun obj => argsInit obj _ hl) PySem.F.entry_zip_new (meets_new κ ls (by omega)) ⟨ht, fun h' a1 a0 a2 a3 => ?_⟩
  show _ ∧ _
  exact ⟨typeIs (h := h') (g := { s with heap := h' }) a1, h h' a1 a0 a2 a3⟩
end
/-- a list or a tuple, as κ says -/
def SqK (κ : Addr → Bool) (K : PySem.W.Frag) (H : Hp) (l : Addr) (xs : List V) : Prop := if κ l = true then SqL K H l xs else SqT K H l xs
theorem SqK.raw {κ : Addr → Bool} {X : Cx} {pins : List (Addr × Obj)} {σ : L2.St} {H : Hp} {s : Shared} (I : Inv X pins σ H s) {l : Addr} {xs : List V} (h : SqK κ X.K H l xs) : ∃ its : List Value, Vals xs its ∧ KSq κ s.heap l its.toArray := by
  unfold SqK at h
  unfold KSq
  by_cases q : κ l = true
  · rw [if_pos q] at h
    obtain ⟨its, rv, p, _⟩ := I.list h
    exact ⟨its, rv, by rw [if_pos q]; exact p.isList⟩
  · rw [if_neg q] at h
    obtain ⟨its, rv, p, _⟩ := I.tuple h
    exact ⟨its, rv, by rw [if_neg q]; exact p⟩
theorem SqK.inj {κ : Addr → Bool} {X : Cx} {pins : List (Addr × Obj)} {σ : L2.St} {H : Hp} {s : Shared} (I : Inv X pins σ H s) {l : Addr} {xs ys : List V} (h : SqK κ X.K H l xs) (h' : SqK κ X.K H l ys) : xs = ys := by
  unfold SqK at *
  by_cases q : κ l = true
  · rw [if_pos q] at *
    exact I.list_inj h h'
  · rw [if_neg q] at *
    exact I.tuple_inj h h'
/-! ### the turns -/
def ItS (κ : Addr → Bool) (K : PySem.W.Frag) (ls : List Addr) : It :=
  ⟨fun i H => ∃ col : List V, col.length = ls.length ∧ ∀ (k : Nat) (l : Addr), ls[k]? = some l → ∃ (xs : List V) (x : V), SqK κ K H l xs ∧ col[k]? = some x ∧ xs[i]? = some x,
    fun i H v H' => ∃ (T : Addr) (col : List V), v = .ref T ∧ H T = none ∧ H' = upd H T (.tup col) ∧ col.length = ls.length ∧ ∀ (k : Nat) (l : Addr) (xs : List V), ls[k]? = some l → SqK κ K H l xs → ∃ x, col[k]? = some x ∧ xs[i]? = some x,
    fun i H => ∃ (l0 : Addr) (xs : List V), ls[0]? = some l0 ∧ SqK κ K H l0 xs ∧ xs.length ≤ i⟩
def fpS (B n : Nat) : List Addr := (List.range (n + 3)).map fun k => (B + k : Nat)
theorem fpS_mem {B n : Nat} {c : Nat} : c ∈ fpS B n ↔ B ≤ c ∧ c ≤ B + n + 2 := by
  unfold fpS
  rw [List.mem_map]
  constructor
  · rintro ⟨k, hk, e⟩
    rw [List.mem_range] at hk
    have e' : B + k = c := e
    omega
  · rintro ⟨h1, h2⟩
    exact ⟨c - B, by rw [List.mem_range]; omega, by show B + (c - B) = c; omega⟩
theorem fp_case {c B n : Nat} (h1 : B ≤ c) (h2 : c ≤ B + n + 2) (e1 : ¬ c = B + n + 2) (e2 : ¬ c = B + n + 1) (e3 : ¬ c = B + n) : c - B < n ∧ c = B + (c - B) := by omega
theorem fp_out {c B n : Nat} (h : ¬ (B ≤ c ∧ c ≤ B + n + 2)) : c < B ∨ B + n + 2 < c := by omega
theorem fp_lt {c B n S : Nat} (h : c ≤ B + n + 2) (z : B + n + 2 < S) : c < S := by omega
theorem col_of {κ : Addr → Bool} {X : Cx} {pins : List (Addr × Obj)} {σ : L2.St} {H : Hp} {s : Shared} (I : Inv X pins σ H s) {i : Nat} : ∀ (ls : List Addr) (col : List V), col.length = ls.length →
    (∀ (k : Nat) (l : Addr), ls[k]? = some l → ∃ (xs : List V) (x : V), SqK κ X.K H l xs ∧ col[k]? = some x ∧ xs[i]? = some x) → ∃ vs, Vals col vs ∧ Col κ s.heap ls i vs
  | [], [], _, _ => ⟨[], .nil, rfl, fun k l e => by simp at e⟩
  | [], _ :: _, h, _ => by simp at h
  | _ :: _, [], h, _ => by simp at h
  | l :: ls, x :: col, hl, hc => by
    obtain ⟨xs, x', h1, h2, h3⟩ := hc 0 l rfl
    simp at h2
    subst h2
    obtain ⟨vs, r, c⟩ := col_of I ls col (by simpa using hl) fun k l e => by simpa using hc (k + 1) l (by simpa using e)
    obtain ⟨its, rv, p⟩ := h1.raw I
    obtain ⟨u, hu, ru⟩ := rv.get h3
    refine ⟨u :: vs, .cons ru r, by rw [List.length_cons, List.length_cons, c.1], fun k m e => ?_⟩
    cases k with
    | zero =>
      simp at e; subst e
      exact ⟨p.lt, _, p, u, rfl, by simpa using hu⟩
    | succ k =>
      simp at e
      simpa using c.2 k m e
theorem turn_zipS {κ : Addr → Bool} {P : Program} {w : World} {K : PySem.W.Frag} {tg : Expr} {x : Str} {px : Pos} (htg : tg = .Name x px) {B : Nat} {ls : List Addr} (hn : 0 < ls.length) (hls : ls.length ≤ 13) (hlt : ∀ l ∈ ls, (l : Nat) < B) :
    Turn P w K tg (ItS κ K ls) (fpS B ls.length) (B + ls.length + 2 : Nat) (fun i h => At κ h B ls i) where
  mem := fpS_mem.mpr ⟨by omega, by omega⟩
  obj := fun i h st c hc => by
    obtain ⟨h1, h2⟩ := fpS_mem.mp hc
    by_cases e1 : (c : Nat) = B + ls.length + 2
    · obtain ⟨f0, f1, _, hz⟩ := st.z
      rw [show c = (B + ls.length + 2 : Nat) from e1]
      exact ⟨_, hz, fun v q => nomatch q⟩
    · by_cases e2 : (c : Nat) = B + ls.length + 1
      · obtain ⟨xs, _, ht⟩ := st.to
        rw [show c = (B + ls.length + 1 : Nat) from e2]
        exact ⟨_, ht, fun v q => nomatch q⟩
      · by_cases e3 : (c : Nat) = B + ls.length
        · rw [show c = (B + ls.length : Nat) from e3]
          exact ⟨_, st.ti, fun v q => nomatch q⟩
        · obtain ⟨hk, ek⟩ := fp_case h1 h2 e1 e2 e3
          obtain ⟨o, e, d⟩ := (st.it (c - B : Nat) _ (List.getElem?_eq_getElem hk)).obj
          rw [show c = (B + (c - B : Nat) : Nat) from ek]
          exact ⟨o, e, d⟩
  keep := fun i h h' st k => by
    obtain ⟨⟨f0, f1, hf, hz⟩, hti, ⟨xs, hxs, hto⟩, hit⟩ := st
    refine ⟨⟨f0, f1, hf, k _ (fpS_mem.mpr ⟨by omega, by omega⟩) _ hz⟩, k _ (fpS_mem.mpr ⟨by omega, by omega⟩) _ hti, ⟨xs, hxs, k _ (fpS_mem.mpr ⟨by omega, by omega⟩) _ hto⟩, fun j l hj => (hit j l hj).at fun o e => k _ (fpS_mem.mpr ?_) o e⟩
    have := (List.getElem?_eq_some_iff.mp hj).1
    exact ⟨by omega, by omega⟩
  item := by
    intro X hP hw hK hc i pins s σ H E I hf st hg
    subst hP hw hK
    obtain ⟨col, hcl, hcol⟩ := hg
    obtain ⟨vs, rv, cv⟩ := col_of I ls col hcl hcol
    refine pyNext_item hn (by omega) hlt st cv fun h' a1 a2 a3 a4 => ?_
    refine ⟨_, rfl, ?_⟩
    subst htg
    refine wpAny_pure ?_
    have hzl : (B + ls.length + 2 : Nat) < s.heap.objs.size := by
      obtain ⟨_, _, _, hz⟩ := st.z
      exact Heap.lt_size hz
    have hl64 : 64 ≤ sizeLine := by rw [sizeLine_eq]; decide
    have new : ObjOk X.prog X.w (upd H s.heap.objs.size (.tup col)) h' s.heap.objs.size (.tup col) :=
      ⟨by show col.length ≤ sizeLine; omega, vs, rv, ⟨_, a2, rfl, _, rfl⟩⟩
    have I1 : Inv X pins σ (upd H s.heap.objs.size (.tup col)) { s with heap := h' } :=
      I.turnedNew (t' := s.toks) (ch := fpS B ls.length) (fun c o hb q => a4 c o (fp_out fun z => hb (fpS_mem.mpr z)) q) hf (Nat.le_refl _) new
    refine ⟨.ref s.heap.objs.size, _, I1, rfl, ⟨_, col, rfl, I.hok.fresh (Nat.le_refl _), rfl, hcl, fun k l xs hk hx => ?_⟩, a1, fun c hcm => ?_⟩
    · obtain ⟨ys, x, q1, q2, q3⟩ := hcol k l hk
      rw [hx.inj I q1]
      exact ⟨x, q2, q3⟩
    · have : (c : Nat) < s.heap.objs.size := fp_lt (fpS_mem.mp hcm).2 hzl
      rw [upd_ne (Nat.ne_of_lt this)]
      exact (hf c hcm).1
  done := by
    intro X hP hw hK hc i pins s σ H E I hf st hg
    subst hP hw hK
    obtain ⟨l0, xs, h0, hq, hle⟩ := hg
    obtain ⟨its, rv, p⟩ := hq.raw I
    have l1 := rv.length
    refine pyNext_end (I.ok.hd hc) h0 (hlt _ (List.mem_of_getElem? h0)) st p (by simp; omega) fun h' hk => ⟨rfl, I.turnedL (t' := s.toks) (ch := fpS B ls.length) (fun c o hb q => hk c o (fp_out fun z => hb (fpS_mem.mpr z)) q) hf⟩
  self := fun A i s Q E st h => by
    obtain ⟨_, _, _, hz⟩ := st.z
    have hT : s.TypeIs (.ref (B + ls.length + 2 : Nat)) "zip" := ⟨_, hz, rfl⟩
    refine wpAny_pyIter_slot hT F.slot_zip_iter (wpAny_call_entry F.slot_zip_iter hT F.entry_zip_iter ?_ (F.args_zip_iter_1 _))
    show wpAny _ _ (ret (.ref (B + ls.length + 2 : Nat))) _ _ s
    exact wpAny_pure ⟨_, rfl, "zip", _, hT, F.slot_zip_next.lookup, h⟩
def iZipS (K : PySem.W.Frag) (ta : TE) : TI := fun σ H R => ta σ H fun x H1 => ∃ (a : Addr) (ls : List Addr), x = .ref a ∧ (SqT K H1 a (ls.map .ref) ∨ SqL K H1 a (ls.map .ref)) ∧ 0 < ls.length ∧ ls.length ≤ 13 ∧ (∀ l ∈ ls, ∃ xs, SqT K H1 l xs) ∧ R (ItS (fun _ => false) K ls) H1
theorem vals_refs : ∀ {ls : List Addr} {us : List Value}, Vals (ls.map V.ref) us → us = ls.map Value.ref
  | [], [], .nil => rfl
  | l :: ls, u :: us, .cons r rr => by
    cases r
    rw [vals_refs rr]; rfl
theorem pi_zipS {X : Cx} {e : Expr} {ta : TE} {x : Str} {px p sp pos : Pos} (hg : Gl X "zip") (hm : X.mg "zip" = none) (ha : PE X e ta) :
    PI X (.Name x px) (.Call (.Name "zip" p) [.Starred e sp] [] pos) (iZipS X.K ta) := by
  refine ⟨fun pins s σ H R I h => ?_⟩
  refine Call_ (ld_blt I hg hm PyProof.Rows.boot_zip ?_)
  refine PySem.W.ks_call (P := fun _ => True) rfl (fun h _ => ⟨.machine, .inr (.inl rfl), fun A Q E s k q => wpAny_pure q⟩) (PySem.W.ks_lone (thn (ha.run pins s σ H _ I h) fun v s1 ⟨y, H1, I1, ry, a, ls, ey, hx, hn, hls, hr, q⟩ => ?_))
  subst ey
  obtain rfl : v = Value.ref a := ry
  refine StX.star_any I1 hx fun us s2 I2 rv => ⟨trivial, ?_⟩
  have e := vals_refs rv
  subst e
  have ht : ∀ l ∈ ls, ∃ xs, s2.heap.IsTuple l xs := fun l hl => by
    obtain ⟨xs, hq⟩ := hr l hl
    obtain ⟨its, _, p1, _⟩ := I2.tuple hq
    exact ⟨_, p1⟩
  have hlt : ∀ l ∈ ls, (l : Nat) < s2.heap.objs.size := fun l hl => by
    obtain ⟨xs, o, ho, _⟩ := ht l hl
    exact Heap.lt_size ho
  show wpAny _ _ (call (.type "zip") (ls.map .ref)) _ _ _
  refine call_zipS (fun _ => false) hls (fun l hl => let ⟨xs, h⟩ := ht l hl; ⟨xs, h⟩) fun h' Z _ hsz hk => ?_
  have I3 : Inv X pins σ H1 { s2 with heap := h' } := I2.kept (t' := s2.toks) hk
  obtain ⟨_, _, _, hz⟩ := Z.z
  have hT : Shared.TypeIs { s2 with heap := h' } (.ref (s2.heap.objs.size + ls.length + 2 : Nat)) "zip" := ⟨_, hz, rfl⟩
  refine wpAny_pyIter_slot hT F.slot_zip_iter (wpAny_call_entry F.slot_zip_iter hT F.entry_zip_iter ?_ (F.args_zip_iter_1 _))
  show wpAny _ _ (ret (.ref (s2.heap.objs.size + ls.length + 2 : Nat))) _ _ _
  refine wpAny_pure ⟨_, rfl, "zip", _, hT, F.slot_zip_next.lookup, ?_⟩
  refine ⟨_, fpS s2.heap.objs.size ls.length, _, _, H1, rfl, I3, turn_zipS rfl hn hls hlt, Z, fun c hcm => ?_, q⟩
  have hle : s2.heap.objs.size ≤ (c : Nat) := (fpS_mem.mp hcm).1
  exact I2.fpOk hle (I2.hok.fresh hle)
/-- .. into names -/
theorem turn_zipM {κ : Addr → Bool} {P : Program} {w : World} {K : PySem.W.Frag} {elts : List Expr} {kk : Nat} {tpos : Pos} {B : Nat} {ls : List Addr} (hn : 0 < ls.length) (hls : ls.length ≤ 13) (hlt : ∀ l ∈ ls, (l : Nat) < B) :
    Turn P w K (.Tuple elts kk tpos) (ItS κ K ls) (fpS B ls.length) (B + ls.length + 2 : Nat) (fun i h => At κ h B ls i ∧ h.get? (B + ls.length + 2 : Nat) = some (zo .none false B ls.length)) where
  mem := fpS_mem.mpr ⟨by omega, by omega⟩
  obj := fun i h st' c hc => by
    have st := st'.1
    obtain ⟨h1, h2⟩ := fpS_mem.mp hc
    by_cases e1 : (c : Nat) = B + ls.length + 2
    · obtain ⟨f0, f1, _, hz⟩ := st.z
      rw [show c = (B + ls.length + 2 : Nat) from e1]
      exact ⟨_, hz, fun v q => nomatch q⟩
    · by_cases e2 : (c : Nat) = B + ls.length + 1
      · obtain ⟨xs, _, ht⟩ := st.to
        rw [show c = (B + ls.length + 1 : Nat) from e2]
        exact ⟨_, ht, fun v q => nomatch q⟩
      · by_cases e3 : (c : Nat) = B + ls.length
        · rw [show c = (B + ls.length : Nat) from e3]
          exact ⟨_, st.ti, fun v q => nomatch q⟩
        · obtain ⟨hk, ek⟩ := fp_case h1 h2 e1 e2 e3
          obtain ⟨o, e, d⟩ := (st.it (c - B : Nat) _ (List.getElem?_eq_getElem hk)).obj
          rw [show c = (B + (c - B : Nat) : Nat) from ek]
          exact ⟨o, e, d⟩
  keep := fun i h h' st' k => by
    obtain ⟨st, zz⟩ := st'
    obtain ⟨⟨f0, f1, hf, hz⟩, hti, ⟨xs, hxs, hto⟩, hit⟩ := st
    refine ⟨?_, k _ (fpS_mem.mpr ⟨by omega, by omega⟩) _ zz⟩
    refine ⟨⟨f0, f1, hf, k _ (fpS_mem.mpr ⟨by omega, by omega⟩) _ hz⟩, k _ (fpS_mem.mpr ⟨by omega, by omega⟩) _ hti, ⟨xs, hxs, k _ (fpS_mem.mpr ⟨by omega, by omega⟩) _ hto⟩, fun j l hj => (hit j l hj).at fun o e => k _ (fpS_mem.mpr ?_) o e⟩
    have := (List.getElem?_eq_some_iff.mp hj).1
    exact ⟨by omega, by omega⟩
  item := by
    intro X hP hw hK hc i pins s σ H E I hf st' hg
    subst hP hw hK
    obtain ⟨st, zz⟩ := st'
    obtain ⟨col, hcl, hcol⟩ := hg
    obtain ⟨vs, rv, cv⟩ := col_of I ls col hcl hcol
    have hzl : (B + ls.length + 2 : Nat) < s.heap.objs.size := Heap.lt_size zz
    refine pyNext_item0 hn (by omega) hlt st zz cv fun h' a1 a0 a2 a3 a4 => ?_
    refine ⟨_, rfl, wpAny_letOwnedTupleGo_zip (s := { s with heap := h' }) (z := (B + ls.length + 2 : Nat)) (TI := (B + ls.length : Nat)) (TO := (B + ls.length + 1 : Nat)) a0 fun h'' z'' sb => ?_⟩
    have hT2 : h''.get? s.heap.objs.size = some { cls := .type "tuple", data := .seq vs.toArray } := (sb.2 _ (an (Nat.ne_of_gt hzl))).trans a2
    have hl64 : 64 ≤ sizeLine := by rw [sizeLine_eq]; decide
    have new : ObjOk X.prog X.w (upd H s.heap.objs.size (.tup col)) h'' s.heap.objs.size (.tup col) :=
      ⟨by show col.length ≤ sizeLine; omega, vs, rv, ⟨_, hT2, rfl, _, rfl⟩⟩
    have up : ∀ (c : Nat) o, c ≠ B + ls.length + 2 → h'.get? c = some o → h''.get? c = some o := fun c o hcz e => sb.extBut _ _ (an hcz) e
    have I1 : Inv X pins σ (upd H s.heap.objs.size (.tup col)) { s with heap := h'' } :=
      I.turnedNew (t' := s.toks) (ch := fpS B ls.length) (fun c o hb q => by
        have hout := fp_out fun z => hb (fpS_mem.mpr z)
        exact up c o (by rcases hout with q | q <;> omega) (a4 c o hout q)) hf (Nat.le_refl _) new
    have A2 : At κ h'' B ls (i + 1) := by
      obtain ⟨_, hti, ⟨xs, hxs, hto⟩, hit⟩ := a1
      refine ⟨⟨.none, false, .inl rfl, z''⟩, up _ _ (by omega) hti, ⟨xs, hxs, up _ _ (by omega) hto⟩, fun j m hj => (hit j m hj).at fun o e => up _ o ?_ e⟩
      have := (List.getElem?_eq_some_iff.mp hj).1
      omega
    refine ⟨.ref s.heap.objs.size, _, I1, rfl, ⟨_, col, rfl, I.hok.fresh (Nat.le_refl _), rfl, hcl, fun k l xs hk hx => ?_⟩, ⟨A2, z''⟩, fun c hcm => ?_⟩
    · obtain ⟨ys, x, q1, q2, q3⟩ := hcol k l hk
      rw [hx.inj I q1]
      exact ⟨x, q2, q3⟩
    · have : (c : Nat) < s.heap.objs.size := fp_lt (fpS_mem.mp hcm).2 hzl
      rw [upd_ne (Nat.ne_of_lt this)]
      exact (hf c hcm).1
  done := by
    intro X hP hw hK hc i pins s σ H E I hf st' hg
    subst hP hw hK
    have st := st'.1
    obtain ⟨l0, xs, h0, hq, hle⟩ := hg
    obtain ⟨its, rv, p⟩ := hq.raw I
    have l1 := rv.length
    refine pyNext_end (I.ok.hd hc) h0 (hlt _ (List.mem_of_getElem? h0)) st p (by simp; omega) fun h' hk => ⟨rfl, I.turnedL (t' := s.toks) (ch := fpS B ls.length) (fun c o hb q => hk c o (fp_out fun z => hb (fpS_mem.mpr z)) q) hf⟩
  self := fun A i s Q E st h => by
    obtain ⟨_, _, _, hz⟩ := st.1.z
    have hT : s.TypeIs (.ref (B + ls.length + 2 : Nat)) "zip" := ⟨_, hz, rfl⟩
    refine wpAny_pyIter_slot hT F.slot_zip_iter (wpAny_call_entry F.slot_zip_iter hT F.entry_zip_iter ?_ (F.args_zip_iter_1 _))
    show wpAny _ _ (ret (.ref (B + ls.length + 2 : Nat))) _ _ s
    exact wpAny_pure ⟨_, rfl, "zip", _, hT, F.slot_zip_next.lookup, h⟩
/-- zip of two, whatever their kinds -/
def Kd (b : Bool) (K : PySem.W.Frag) (H : Hp) (a : Addr) (xs : List V) : Prop := if b = true then SqL K H a xs else SqT K H a xs
def iZipM (K : PySem.W.Frag) (ta : TA) : TI := fun σ H R => ta σ H fun vs H1 => ∃ (a b : Addr) (xs ys : List V) (k1 k2 : Bool), vs = [.ref a, .ref b] ∧ Kd k1 K H1 a xs ∧ Kd k2 K H1 b ys ∧ ∀ κ : Addr → Bool, κ a = k1 → κ b = k2 → R (ItS κ K [a, b]) H1
theorem Kd.same {X : Cx} {pins : List (Addr × Obj)} {σ : L2.St} {H : Hp} {s : Shared} (I : Inv X pins σ H s) {a : Addr} {xs ys : List V} {k1 k2 : Bool} (h1 : Kd k1 X.K H a xs) (h2 : Kd k2 X.K H a ys) : k1 = k2 := by
  have key : ∀ {xs ys : List V}, SqL X.K H a xs → SqT X.K H a ys → False := fun {xs ys} u v => by
    obtain ⟨its, _, p, _⟩ := I.list u
    obtain ⟨its', _, q, _⟩ := I.tuple v
    obtain ⟨o, e, hc, _⟩ := p.isList
    obtain ⟨o', e', hc', _⟩ := q
    rw [e] at e'; cases e'
    rw [hc] at hc'
    injection hc' with z
    exact absurd z (by decide)
  cases k1 <;> cases k2
  · rfl
  · exact (key h2 h1).elim
  · exact (key h1 h2).elim
  · rfl
theorem pi_zipM {X : Cx} {e e2 : Expr} {ta : TA} {p pos tpos : Pos} {elts : List Expr} {kk : Nat} (hg : Gl X "zip") (hm : X.mg "zip" = none) (ha : PA X [e, e2] ta)
    (hs : starEach [e, e2] X.env = (false, eval e X.env) :: starEach [e2] X.env := by rfl) (hpl : (backTo pos (starEach [e2] X.env)).any (·.1) = false := by rfl) :
    PI X (.Tuple elts kk tpos) (.Call (.Name "zip" p) [e, e2] [] pos) (iZipM X.K ta) := by
  refine ⟨fun pins s σ H R I h => ?_⟩
  refine Call_ (ld_blt I hg hm PyProof.Rows.boot_zip (PyProof.Rows.callWith_type1 (thn (ha.run pos pins s σ H _ I h) fun us s1 ⟨vs, H1, I1, r1, q1⟩ => ?_) hs hpl))
  obtain ⟨a, b, xs, ys, k1, k2, ex, hx, hy, q⟩ := q1
  subst ex
  obtain ⟨κ, κa, κb⟩ : ∃ κ : Addr → Bool, κ a = k1 ∧ κ b = k2 := by
    by_cases hab : b = a
    · subst hab
      exact ⟨fun _ => k1, rfl, Kd.same I1 hx hy⟩
    · exact ⟨fun l => if l = a then k1 else k2, if_pos rfl, if_neg hab⟩
  have hx' : SqK κ X.K H1 a xs := by unfold SqK; rw [κa]; exact hx
  have hy' : SqK κ X.K H1 b ys := by unfold SqK; rw [κb]; exact hy
  have e := vals_refs (ls := [a, b]) r1
  subst e
  obtain ⟨its1, _, p1⟩ := hx'.raw I1
  obtain ⟨its2, _, p2⟩ := hy'.raw I1
  refine call_zipS κ (ls := [a, b]) (by simp) (fun l hl => ?_) fun h' Z zz hsz hk => ?_
  · rcases List.mem_cons.mp hl with rfl | hl
    · exact ⟨_, p1⟩
    · rw [List.mem_singleton.mp hl]; exact ⟨_, p2⟩
  have hlt : ∀ l ∈ [a, b], (l : Nat) < s1.heap.objs.size := fun l hl => by
    rcases List.mem_cons.mp hl with rfl | hl
    · exact p1.lt
    · rw [List.mem_singleton.mp hl]; exact p2.lt
  have I3 : Inv X pins σ H1 { s1 with heap := h' } := I1.kept (t' := s1.toks) hk
  have hT : Shared.TypeIs { s1 with heap := h' } (.ref (s1.heap.objs.size + [a, b].length + 2 : Nat)) "zip" := ⟨_, zz, rfl⟩
  refine wpAny_pyIter_slot hT F.slot_zip_iter (wpAny_call_entry F.slot_zip_iter hT F.entry_zip_iter ?_ (F.args_zip_iter_1 _))
  show wpAny _ _ (ret (.ref (s1.heap.objs.size + [a, b].length + 2 : Nat))) _ _ _
  refine wpAny_pure ⟨_, rfl, "zip", _, hT, F.slot_zip_next.lookup, ?_⟩
  refine ⟨_, fpS s1.heap.objs.size [a, b].length, _, _, H1, rfl, I3, turn_zipM (by simp) (by simp) hlt, ⟨Z, zz⟩, fun c hcm => ?_, q κ κa κb⟩
  have hle : s1.heap.objs.size ≤ (c : Nat) := (fpS_mem.mp hcm).1
  exact I1.fpOk hle (I1.hok.fresh hle)
end ZSt
set_option maxHeartbeats 1000000
/-! Ev, part ZE: enumerate(zip(a, b)): the draws (under way; not in evlist yet). -/
namespace ZSt
open PySem PySem.Spec PyProof.Rows L2 RZ
section
variable {prog : Program} {w : World} {A : Around} {E : Value → Shared → Prop} {s : Shared} {B i : Nat} {ls : List Addr} {κ : Addr → Bool}
theorem nextOf_zip_item {vs : List Value} {Q : Value → Shared → Prop} (hn : 0 < ls.length) (hls : ls.length ≤ 64) (hlt : ∀ l ∈ ls, (l : Nat) < B) (Z : At κ s.heap B ls i) (hc : Col κ s.heap ls i vs)
    (hQ : ∀ h', At κ h' B ls (i + 1) → h'.get? s.heap.objs.size = some { cls := .type "tuple", data := .seq vs.toArray } → h'.objs.size = s.heap.objs.size + 1 → (∀ (c : Nat) o, (c < B ∨ B + ls.length + 2 < c) → s.heap.get? c = some o → h'.get? c = some o) → Q (.ref s.heap.objs.size) { s with heap := h' }) :
    wpAny (model prog w) A (Builtin.SmallTypes.nextOf (.ref (B + ls.length + 2 : Nat))) Q E s := by
  have hT : s.TypeIs (.ref (B + ls.length + 2 : Nat)) "zip" := typeIs (h := s.heap) Z
  unfold Builtin.SmallTypes.nextOf
  exact wpAny_bind (wpAny_callSpecial?_slot (name := Str.ofString "__next__") hT F.slot_zip_next
    (wpAny_call_entry F.slot_zip_next hT F.entry_zip_next
      (next_item hn hls hlt Z hc fun h' a1 a2 a3 a4 => wpAny_pure (hQ h' a1 a2 a3 a4)) (F.args_zip_next_1 _)))
theorem nextOf_zip_end {l0 : Addr} {us : Array Value} {Q : Value → Shared → Prop} (hh : A.handled = none) (hl0 : ls[0]? = some l0) (hlt : (l0 : Nat) < B) (Z : At κ s.heap B ls i) (hx : KSq κ s.heap l0 us) (he : us[i]? = none)
    (hE : ∀ h' e, (∀ (c : Nat) o, (c < B ∨ B + ls.length + 2 < c) → s.heap.get? c = some o → h'.get? c = some o) → (∃ o, h'.get? e = some o ∧ o.cls = .type "StopIteration") → E (.ref e) { s with heap := h' }) :
    wpAny (model prog w) A (Builtin.SmallTypes.nextOf (.ref (B + ls.length + 2 : Nat))) Q E s := by
  have hT : s.TypeIs (.ref (B + ls.length + 2 : Nat)) "zip" := typeIs (h := s.heap) Z
  unfold Builtin.SmallTypes.nextOf
  exact wpAny_bind (wpAny_callSpecial?_slot (name := Str.ofString "__next__") hT F.slot_zip_next
    (wpAny_call_entry F.slot_zip_next hT F.entry_zip_next (next_end hh hl0 hlt Z hx he hE) (F.args_zip_next_1 _)))
/-- one turn of enumerate over the zip: two new tuples -/
theorem enumZ_item {e : Addr} {n : Int} {old : Value} {vs : List Value} {Q : Option Value → Shared → Prop} (hn : 0 < ls.length) (hls : ls.length ≤ 64) (hlt : ∀ l ∈ ls, (l : Nat) < B) (Z : At κ s.heap B ls i) (hc : Col κ s.heap ls i vs)
    (he : IsEnum s.heap e (B + ls.length + 2 : Nat) n old) (hbe : B + ls.length + 2 < (e : Nat))
    (hQ : ∀ h' tk, At κ h' B ls (i + 1) → IsEnumOut h' e (B + ls.length + 2 : Nat) (n + 1) (.ref s.heap.objs.size) (s.heap.objs.size + 1 : Nat) → h'.get? s.heap.objs.size = some { cls := .type "tuple", data := .seq vs.toArray } →
      h'.get? (s.heap.objs.size + 1 : Nat) = some { cls := .type "tuple", data := .seq #[.int n tk, .ref s.heap.objs.size] } → h'.objs.size = s.heap.objs.size + 2 →
      (∀ (c : Nat) o, (c < B ∨ B + ls.length + 2 < c) → c ≠ e → s.heap.get? c = some o → h'.get? c = some o) → Q (some (.ref (s.heap.objs.size + 1 : Nat))) { s with heap := h', toks := tk + 1 }) :
    wpAny (model prog w) A (pyNext (.ref e)) Q E s := by
  have hT : s.TypeIs (.ref e) "enumerate" := ⟨_, he, rfl⟩
  unfold pyNext
  refine wpAny_bind (wpAny_attempt (wpAny_callSpecial?_slot (name := Str.ofString "__next__") hT F.slot_enumerate_next
    (wpAny_call_entry F.slot_enumerate_next hT F.entry_enumerate_next ?_ (F.args_enumerate_next_1 _))))
  obtain ⟨hp, g, d, tk, os⟩ := s
  have hel : (e : Nat) < hp.objs.size := Heap.lt_size he
  show wpAny _ _ (field (.ref e) 2 >>= _) _ _ _
  refine wpAny_bind (wpAny_field he rfl (x := .ref (B + ls.length + 2 : Nat)) rfl ?_)
  refine wpAny_bind (nextOf_zip_item hn hls hlt Z hc fun h₁ Z₁ ht₁ hz₁ hk₁ => ?_)
  have he₁ : IsEnum h₁ e (B + ls.length + 2 : Nat) n old := hk₁ e _ (.inr hbe) he
  show wpAny _ _ (field (.ref e) 3 >>= _) _ _ ⟨h₁, g, d, tk, os⟩
  refine wpAny_bind (wpAny_field he₁ rfl (x := rawInt n) rfl ?_)
  show wpAny _ _ (field (.ref e) 4 >>= _) _ _ ⟨h₁, g, d, tk, os⟩
  refine wpAny_bind (wpAny_field he₁ rfl (x := .none) rfl ?_)
  show wpAny _ _ (mkInt n >>= _) _ _ ⟨h₁, g, d, tk, os⟩
  refine wpAny_bind (wpAny_mkInt ?_)
  show wpAny _ _ (setField (.ref e) 3 (rawInt (n + 1)) >>= _) _ _ ⟨h₁, g, d, tk + 1, os⟩
  refine wpAny_bind (wpAny_setField_rec he₁ (by simp) fun h₂ he₂ hs₂ => ?_)
  replace hs₂ : Heap.SameBut e h₁ h₂ := hs₂
  replace he₂ : IsEnum h₂ e (B + ls.length + 2 : Nat) (n + 1) old := he₂
  show wpAny _ _ (setField (.ref e) 4 .none >>= _) _ _ ⟨h₂, g, d, tk + 1, os⟩
  refine wpAny_bind (wpAny_setField_rec he₂ (by simp) fun h₃ he₃ hs₃ => ?_)
  replace hs₃ : Heap.SameBut e h₂ h₃ := hs₃
  replace he₃ : IsEnum h₃ e (B + ls.length + 2 : Nat) (n + 1) old := he₃
  show wpAny _ _ (newTuple [.int n tk, .ref hp.objs.size] >>= _) _ _ ⟨h₃, g, d, tk + 1, os⟩
  refine wpAny_bind (wpAny_newTuple ?_)
  have hsz : h₃.objs.size = hp.objs.size + 1 := by rw [hs₃.1, hs₂.1, hz₁]
  obtain ⟨h₄, hh₄⟩ : ∃ h₄, h₄ = h₃.push { cls := .type "tuple", data := .seq #[.int n tk, .ref hp.objs.size] } := ⟨_, rfl⟩
  have he₄ : IsEnum h₄ e (B + ls.length + 2 : Nat) (n + 1) old := by rw [hh₄]; exact Heap.get?_push_of_some _ he₃
  have ht₄ : h₄.get? (hp.objs.size + 1 : Nat) = some { cls := .type "tuple", data := .seq #[.int n tk, .ref hp.objs.size] } := by rw [hh₄, ← hsz]; exact Heap.get?_push_size _ rfl
  have hz₄ : h₄.objs.size = hp.objs.size + 2 := by rw [hh₄, Heap.size_push, hsz]
  have up₄ : ∀ (c : Nat) o, c ≠ e → h₁.get? c = some o → h₄.get? c = some o := fun c o hce q => by
    rw [hh₄]; exact Heap.get?_push_of_some _ (hs₃.extBut _ _ (an hce) (hs₂.extBut _ _ (an hce) q))
  show wpAny _ _ (Builtin.SmallTypes.ownedTupleIsFree (.ref e) >>= _) _ _ ⟨h₃.push _, g, d, tk + 1, os⟩
  rw [hsz]
  show wpAny _ _ (Builtin.SmallTypes.ownedTupleIsFree (.ref e) >>= _) _ _ ⟨h₃.push { cls := .type "tuple", data := .seq #[.int n tk, .ref hp.objs.size] }, g, d, tk + 1, os⟩
  rw [← hh₄]
  refine wpAny_bind ?_
  unfold Builtin.SmallTypes.ownedTupleIsFree
  refine wpAny_bind (wpAny_field he₄ rfl (x := .none) rfl (wpAny_pure ?_))
  simp only [if_true]
  refine wpAny_bind (wpAny_rule ?_)
  refine wpAny_bind (wpAny_field he₄ rfl (x := old) rfl ?_)
  refine wpAny_bind (wpAny_setField_rec he₄ (by simp) fun h₅ he₅ hs₅ => ?_)
  replace hs₅ : Heap.SameBut e h₄ h₅ := hs₅
  replace he₅ : IsEnum h₅ e (B + ls.length + 2 : Nat) (n + 1) (.ref hp.objs.size) := he₅
  show wpAny _ _ (Builtin.SmallTypes.ownedTupleHandOut (.ref e) (.ref (hp.objs.size + 1 : Nat)) >>= _) _ _ ⟨h₅, g, d, tk + 1, os⟩
  refine wpAny_bind ?_
  unfold Builtin.SmallTypes.ownedTupleHandOut
  refine wpAny_bind (wpAny_setField_rec he₅ (by simp) fun h₆ he₆ hs₆ => ?_)
  replace hs₆ : Heap.SameBut e h₅ h₆ := hs₆
  replace he₆ : IsEnumOut h₆ e (B + ls.length + 2 : Nat) (n + 1) (.ref hp.objs.size) (hp.objs.size + 1 : Nat) := he₆
  refine wpAny_setField_rec he₆ (by simp) fun h₇ he₇ hs₇ => ?_
  replace hs₇ : Heap.SameBut e h₆ h₇ := hs₇
  replace he₇ : IsEnumOut h₇ e (B + ls.length + 2 : Nat) (n + 1) (.ref hp.objs.size) (hp.objs.size + 1 : Nat) := he₇
  have up : ∀ (c : Nat) o, c ≠ e → h₁.get? c = some o → h₇.get? c = some o := fun c o hce q =>
    hs₇.extBut _ _ (an hce) (hs₆.extBut _ _ (an hce) (hs₅.extBut _ _ (an hce) (up₄ c o hce q)))
  have up5 : ∀ (c : Nat) o, c ≠ e → h₄.get? c = some o → h₇.get? c = some o := fun c o hce q =>
    hs₇.extBut _ _ (an hce) (hs₆.extBut _ _ (an hce) (hs₅.extBut _ _ (an hce) q))
  have ne1 : hp.objs.size ≠ e := Nat.ne_of_gt hel
  have ne2 : hp.objs.size + 1 ≠ e := Nat.ne_of_gt (Nat.lt_succ_of_lt hel)
  refine wpAny_bind (wpAny_letGo (wpAny_pure ⟨_, rfl, wpAny_pure (hQ h₇ tk ?_ he₇ (up _ _ ne1 ht₁) (up5 _ _ ne2 ht₄) (by rw [hs₇.1, hs₆.1, hs₅.1, hz₄]) fun c o hco hce q => up c o hce (hk₁ c o hco q))⟩))
  obtain ⟨⟨f0, f1, hf0, z⟩, hti, ⟨xs, hxs, hto⟩, hit⟩ := Z₁
  refine ⟨⟨f0, f1, hf0, up _ _ (by omega) z⟩, up _ _ (by omega) hti, ⟨xs, hxs, up _ _ (by omega) hto⟩, fun j m hj => (hit j m hj).at fun o q => up _ o ?_ q⟩
  have := (List.getElem?_eq_some_iff.mp hj).1
  omega
theorem enumZ_end {e : Addr} {n : Int} {old : Value} {l0 : Addr} {us : Array Value} {Q : Option Value → Shared → Prop} (hh : A.handled = none) (hl0 : ls[0]? = some l0) (hlt : (l0 : Nat) < B) (Z : At κ s.heap B ls i) (hx : KSq κ s.heap l0 us) (hus : us[i]? = none)
    (he : IsEnum s.heap e (B + ls.length + 2 : Nat) n old)
    (hQ : ∀ h', (∀ (c : Nat) o, (c < B ∨ B + ls.length + 2 < c) → s.heap.get? c = some o → h'.get? c = some o) → Q none { s with heap := h' }) : wpAny (model prog w) A (pyNext (.ref e)) Q E s := by
  have hT : s.TypeIs (.ref e) "enumerate" := ⟨_, he, rfl⟩
  unfold pyNext
  refine wpAny_bind (wpAny_attempt (wpAny_callSpecial?_slot (name := Str.ofString "__next__") hT F.slot_enumerate_next
    (wpAny_call_entry F.slot_enumerate_next hT F.entry_enumerate_next ?_ (F.args_enumerate_next_1 _))))
  show wpAny _ _ (field (.ref e) 2 >>= _) _ _ _
  refine wpAny_bind (wpAny_field he rfl (x := .ref (B + ls.length + 2 : Nat)) rfl ?_)
  refine wpAny_bind (nextOf_zip_end hh hl0 hlt Z hx hus fun h' x hk hx' => ?_)
  obtain ⟨o, ho, hc⟩ := hx'
  refine wpAny_bind (wpAny_isInstance (T := "StopIteration") (b := true) ⟨o, ho, hc⟩ isSubtype_stop ?_)
  exact wpAny_pure (hQ _ hk)
end
section
variable {X : Cx} {pins : List (Addr × Obj)} {σ : L2.St} {H : Hp} {s : Shared} {h' : Heap}
/-- records of ours have turned, and two new objects are laid -/
theorem turned2 {t' : Nat} {ch : List Addr} {T U : Addr} {o1 o2 : HO} (I : Inv X pins σ H s) (k : ∀ b o, b ∉ ch → s.heap.get? b = some o → h'.get? b = some o) (hf : ∀ b ∈ ch, FpOk X pins H b) (hT : s.heap.objs.size ≤ T) (hU : s.heap.objs.size ≤ U) (ne : T ≠ U)
    (n1 : ObjOk X.prog X.w (upd (upd H T o1) U o2) h' T o1) (n2 : ObjOk X.prog X.w (upd (upd H T o1) U o2) h' U o2) : Inv X pins σ (upd (upd H T o1) U o2) { s with heap := h', toks := t' } := by
  have hn : H T = none := I.hok.fresh hT
  have hm' : H U = none := I.hok.fresh hU
  have sub : ∀ b u, H b = some u → upd (upd H T o1) U o2 b = some u := fun b u e => by rw [upd_ne (ne_of_none e hm'), upd_ne (ne_of_none e hn)]; exact e
  have nit : ∀ b u, H b = some u → b ∉ ch := fun b u e z => by
    have q := (hf b z).1
    rw [q] at e; cases e
  refine I.step (g' := s.gens) (d' := s.drawn) (ch := ch) (fun b hb => ⟨(hf b hb).2.2.2.1, (hf b hb).2.1, (hf b hb).2.2.2.2.1, (hf b hb).2.2.2.2.2⟩) (fun b o _ _ hc e _ => k b o hc e) (fun b o _ _ hc e _ => ⟨o.slots, k b o hc e⟩)
    (fun b o _ e n => ?_) (fun b o hc e => ⟨o, k b o hc e⟩) (fun b xs e => sub _ _ e) (fun b o u e => sub _ _ e) (fun b ps e => ⟨#[], ?_⟩) (fun m hm => ?_) (fun b u e => ?_) I.bare
  · have lt := Heap.lt_size e
    rw [upd_ne (Nat.ne_of_lt (Nat.lt_of_lt_of_le lt hU)), upd_ne (Nat.ne_of_lt (Nat.lt_of_lt_of_le lt hT))]; exact n
  · rw [sub _ _ e]; simp
  · obtain ⟨o, es, ep, ho, r⟩ := hm
    exact ⟨o, es, ep, k _ o (fun z => (hf _ z).2.1 rfl) ho, r⟩
  · by_cases hb : b = U
    · subst hb
      rw [upd_same] at e
      cases e
      exact n2
    · rw [upd_ne hb] at e
      by_cases hb' : b = T
      · subst hb'
        rw [upd_same] at e
        cases e
        exact n1
      · rw [upd_ne hb'] at e
        refine (I.hok b u e).stay (fun c v hc q => k c v ?_ q) (fun c q => sub _ _ q) fun c xs q => sub _ _ q
        rcases hc with z | z
        · rw [z]; exact nit b u e
        · exact nit c _ z
end
/-- enumerate(zip(..)): each turn a number and a column, two new tuples -/
def ItE (κ : Addr → Bool) (K : PySem.W.Frag) (ls : List Addr) : It :=
  ⟨fun i H => (ItS κ K ls).go i H,
    fun i H v H' => ∃ (T U : Addr) (col : List V), v = .ref U ∧ H T = none ∧ H U = none ∧ T ≠ U ∧ H' = upd (upd H T (.tup col)) U (.tup [.int (i : Nat), .ref T]) ∧ col.length = ls.length ∧ ∀ (k : Nat) (l : Addr) (xs : List V), ls[k]? = some l → SqK κ K H l xs → ∃ x, col[k]? = some x ∧ xs[i]? = some x,
    fun i H => (ItS κ K ls).stop i H⟩
theorem turn_enumZ {κ : Addr → Bool} {P : Program} {w : World} {K : PySem.W.Frag} {elts : List Expr} {kk : Nat} {tpos : Pos} {B : Nat} {ls : List Addr} {e : Addr} (hn : 0 < ls.length) (hls : ls.length ≤ 13) (hlt : ∀ l ∈ ls, (l : Nat) < B) (hbe : B + ls.length + 2 < (e : Nat)) :
    Turn P w K (.Tuple elts kk tpos) (ItE κ K ls) (e :: fpS B ls.length) e (fun i h => At κ h B ls i ∧ ∃ old, IsEnum h e (B + ls.length + 2 : Nat) (i : Nat) old) where
  mem := by simp
  obj := fun i h st c hc => by
    rcases List.mem_cons.mp hc with rfl | hc
    · obtain ⟨_, _, q⟩ := st
      exact ⟨_, q, fun v z => nomatch z⟩
    · exact (turn_zipS (P := P) (w := w) (K := K) (κ := κ) (tg := .Name "x" tpos) (x := "x") (px := tpos) rfl hn hls hlt).obj i h st.1 c hc
  keep := fun i h h' st k => by
    obtain ⟨Z, old, q⟩ := st
    exact ⟨(turn_zipS (P := P) (w := w) (K := K) (κ := κ) (tg := .Name "x" tpos) (x := "x") (px := tpos) rfl hn hls hlt).keep i h h' Z fun b hb o z => k b (List.mem_cons_of_mem _ hb) o z, old, k e List.mem_cons_self _ q⟩
  item := by
    intro X hP hw hK hc i pins s σ H E I hf st hg
    subst hP hw hK
    obtain ⟨Z, old, he⟩ := st
    obtain ⟨col, hcl, hcol⟩ := hg
    obtain ⟨vs, rv, cv⟩ := col_of I ls col hcl hcol
    have hel : (e : Nat) < s.heap.objs.size := Heap.lt_size he
    refine enumZ_item hn (by omega) hlt Z cv he hbe fun h' tk Z' eo hT hU hsz hk => ?_
    refine ⟨_, rfl, wpAny_letOwnedTupleGo_enum (s := { s with heap := h', toks := tk + 1 }) eo fun h2 he2 sb => ?_⟩
    have hl64 : 64 ≤ sizeLine := by rw [sizeLine_eq]; decide
    have ne1 : s.heap.objs.size ≠ e := Nat.ne_of_gt hel
    have ne2 : s.heap.objs.size + 1 ≠ e := Nat.ne_of_gt (Nat.lt_succ_of_lt hel)
    have up : ∀ (c : Nat) o, c ≠ e → h'.get? c = some o → h2.get? c = some o := fun c o hce q => sb.extBut _ _ (an hce) q
    have neT : (s.heap.objs.size : Addr) ≠ (s.heap.objs.size + 1 : Nat) := Nat.ne_of_lt (Nat.lt_succ_self _)
    have new1 : ObjOk X.prog X.w (upd (upd H s.heap.objs.size (.tup col)) (s.heap.objs.size + 1 : Nat) (.tup [.int (i : Nat), .ref s.heap.objs.size])) h2 s.heap.objs.size (.tup col) :=
      ⟨by show col.length ≤ sizeLine; omega, vs, rv, ⟨_, up _ _ ne1 hT, rfl, _, rfl⟩⟩
    have new2 : ObjOk X.prog X.w (upd (upd H s.heap.objs.size (.tup col)) (s.heap.objs.size + 1 : Nat) (.tup [.int (i : Nat), .ref s.heap.objs.size])) h2 (s.heap.objs.size + 1 : Nat) (.tup [.int (i : Nat), .ref s.heap.objs.size]) :=
      ⟨by show 2 ≤ sizeLine; decide, [.int (i : Nat) tk, .ref s.heap.objs.size], .cons ⟨_, rfl⟩ (.cons rfl .nil), ⟨_, up _ _ ne2 hU, rfl, _, rfl⟩⟩
    have I1 := turned2 (t' := tk + 1) (ch := e :: fpS B ls.length) (h' := h2) I (fun b o hb q => by
      have n1 : (b : Nat) ≠ e := fun z => hb (by simp [show b = e from z])
      have n2 : b ∉ fpS B ls.length := fun z => hb (List.mem_cons_of_mem _ z)
      exact up b o n1 (hk b o (fp_out fun z => n2 (fpS_mem.mpr z)) n1 q)) hf (Nat.le_refl _) (Nat.le_succ _) neT new1 new2
    refine ⟨.ref (s.heap.objs.size + 1 : Nat), _, I1, rfl, ⟨_, _, col, rfl, I.hok.fresh (Nat.le_refl _), I.hok.fresh (Nat.le_succ _), neT, rfl, hcl, fun k l xs hkl hx => ?_⟩, ⟨?_, .ref s.heap.objs.size, ?_⟩, fun c hcm => ?_⟩
    · obtain ⟨ys, x, q1, q2, q3⟩ := hcol k l hkl
      rw [hx.inj I q1]
      exact ⟨x, q2, q3⟩
    · obtain ⟨⟨f0, f1, hf0, z⟩, hti, ⟨xs, hxs, hto⟩, hit⟩ := Z'
      refine ⟨⟨f0, f1, hf0, up _ _ (by omega) z⟩, up _ _ (by omega) hti, ⟨xs, hxs, up _ _ (by omega) hto⟩, fun j m hj => (hit j m hj).at fun o q => up _ o ?_ q⟩
      have := (List.getElem?_eq_some_iff.mp hj).1
      omega
    · rw [show (((i + 1 : Nat) : Nat) : Int) = ((i : Nat) : Int) + 1 from by omega]; exact he2
    · have lt : (c : Nat) < s.heap.objs.size := by
        rcases List.mem_cons.mp hcm with rfl | hcm
        · exact hel
        · exact Nat.lt_of_le_of_lt (fpS_mem.mp hcm).2 (Nat.lt_trans hbe hel)
      rw [upd_ne (Nat.ne_of_lt (Nat.lt_succ_of_lt lt)), upd_ne (Nat.ne_of_lt lt)]
      exact (hf c hcm).1
  done := by
    intro X hP hw hK hc i pins s σ H E I hf st hg
    subst hP hw hK
    obtain ⟨Z, old, he⟩ := st
    obtain ⟨l0, xs, h0, hq, hle⟩ := hg
    obtain ⟨its, rv, p⟩ := hq.raw I
    have l1 := rv.length
    refine enumZ_end (I.ok.hd hc) h0 (hlt _ (List.mem_of_getElem? h0)) Z p (by simp; omega) he fun h' hk => ⟨rfl, I.turnedL (t' := s.toks) (ch := e :: fpS B ls.length) (fun c o hb q => hk c o (fp_out fun z => hb (List.mem_cons_of_mem _ (fpS_mem.mpr z))) q) hf⟩
  self := fun A i s Q E st h => by
    obtain ⟨_, _, he⟩ := st
    exact wpAny_pyIter_enum he h
end ZSt
set_option maxHeartbeats 1000000
/-! Ev, part ZF: enumerate(zip(a, b)): the call (under way; not in evlist yet). -/
namespace ZSt
open PySem PySem.Spec PyProof.Rows L2 RZ
section
variable {prog : Program} {w : World} {A : Around} {E : Value → Shared → Prop} {s : Shared}
theorem iter_zipO {z : Addr} {o : Obj} {Q : Value → Shared → Prop} (hz : s.heap.get? z = some o) (hc : o.cls = .type "zip") (h : Q (.ref z) s) :
    wpAny (model prog w) A (pyIter (.ref z)) Q E s := by
  have hT : s.TypeIs (.ref z) "zip" := ⟨_, hz, hc⟩
  refine wpAny_pyIter_slot hT F.slot_zip_iter (wpAny_call_entry F.slot_zip_iter hT F.entry_zip_iter ?_ (F.args_zip_iter_1 _))
  show wpAny _ _ (ret (.ref z)) _ _ _
  exact wpAny_pure ⟨_, rfl, "zip", _, hT, F.slot_zip_next.lookup, h⟩
end
theorem meets_enumZ (z : Addr) (B n : Nat) :
    Meets (Builtin.«enumerate.__new__» ⟨[.type "enumerate", .ref z], []⟩) (fun _ R s => s.heap.get? z = some (zo .none false B n) ∧
      R (.ok (.ret (.ref s.heap.objs.size))) { s with heap := s.heap.push { cls := .type "enumerate", data := .fields #[.none, .bool false, .ref z, rawInt 0, .none, .none] } }) :=
  .of_wp fun prog w A R s h => by
    obtain ⟨hp, g, d, tk, os⟩ := s; obtain ⟨hl, h⟩ := h
    have hsub := sub_enumerate
    wp_walk using wpAny_loadPart' hl
    refine wpAny_stack_any fun st => wpAny_pure ?_
    split
    · rename_i c _ _ _ _ _
      cases (c == Value.type "enumerate")
      · wp_walk using wpAny_loadPart' hl, iter_zipO hl rfl
        exact ⟨_, rfl, h⟩
      · wp_walk using wpAny_loadPart' hl, iter_zipO hl rfl
        exact ⟨_, rfl, h⟩
    · wp_walk using wpAny_loadPart' hl, iter_zipO hl rfl
      exact ⟨_, rfl, h⟩
section
variable {prog : Program} {w : World} {A : Around} {E : Value → Shared → Prop} {s : Shared}
theorem call_enumZ {z : Addr} {B n : Nat} {Q : Value → Shared → Prop} (hz : s.heap.get? z = some (zo .none false B n))
    (h : ∀ h', IsEnum h' s.heap.objs.size z 0 .none → h'.objs.size = s.heap.objs.size + 1 → (∀ b o, s.heap.get? b = some o → h'.get? b = some o) → Q (.ref s.heap.objs.size) { s with heap := h' }) :
    wpAny (model prog w) A (call (.type "enumerate") [.ref z]) Q E s := by
  refine callType_new F.called_enumerate (by decide) (F.typeCall_enumerate_1 _) (F.newCall_enumerate_1 _) (fun obj => F.args_object_init_2 obj _) F.entry_enumerate_new
    (meets_enumZ z B n) ⟨hz, ?_⟩
  have he : IsEnum (s.heap.push { cls := .type "enumerate", data := .fields #[.none, .bool false, .ref z, rawInt 0, .none, .none] }) s.heap.objs.size z 0 .none := Heap.get?_push_size _ rfl
  exact ⟨⟨_, he, rfl⟩, h _ he (Heap.size_push ..) fun b o x => Heap.get?_push_of_some _ x⟩
end
/-- for place, (first, second) in enumerate(zip(a, b)) -/
def iEnumZ (K : PySem.W.Frag) (ta : TA) : TI := fun σ H R => ta σ H fun vs H1 => ∃ (a b : Addr) (xs ys : List V) (k1 k2 : Bool), vs = [.ref a, .ref b] ∧ Kd k1 K H1 a xs ∧ Kd k2 K H1 b ys ∧ ∀ κ : Addr → Bool, κ a = k1 → κ b = k2 → R (ItE κ K [a, b]) H1
theorem pi_enumZ {X : Cx} {e e2 : Expr} {ta : TA} {p pos p2 pos2 tpos : Pos} {elts : List Expr} {kk : Nat} (hge : Gl X "enumerate") (hme : X.mg "enumerate" = none) (hg : Gl X "zip") (hm : X.mg "zip" = none) (ha : PA X [e, e2] ta)
    (hs : starEach [e, e2] X.env = (false, eval e X.env) :: starEach [e2] X.env := by rfl) (hpl : (backTo pos2 (starEach [e2] X.env)).any (·.1) = false := by rfl) :
    PI X (.Tuple elts kk tpos) (.Call (.Name "enumerate" p) [.Call (.Name "zip" p2) [e, e2] [] pos2] [] pos) (iEnumZ X.K ta) := by
  refine ⟨fun pins s σ H R I h => ?_⟩
  refine Call_ (ld_blt I hge hme boot_enumerate (PyProof.Rows.callWith_type1 (spliced_more (Call_ (ld_blt I hg hm PyProof.Rows.boot_zip (PyProof.Rows.callWith_type1 (thn (ha.run pos2 pins s σ H _ I h) fun us s1 ⟨vs, H1, I1, r1, q1⟩ => ?_) hs hpl))) rfl) rfl rfl))
  obtain ⟨a, b, xs, ys, k1, k2, ex, hx, hy, q⟩ := q1
  subst ex
  obtain ⟨κ, κa, κb⟩ : ∃ κ : Addr → Bool, κ a = k1 ∧ κ b = k2 := by
    by_cases hab : b = a
    · subst hab
      exact ⟨fun _ => k1, rfl, Kd.same I1 hx hy⟩
    · exact ⟨fun l => if l = a then k1 else k2, if_pos rfl, if_neg hab⟩
  have hx' : SqK κ X.K H1 a xs := by unfold SqK; rw [κa]; exact hx
  have hy' : SqK κ X.K H1 b ys := by unfold SqK; rw [κb]; exact hy
  have e := vals_refs (ls := [a, b]) r1
  subst e
  obtain ⟨its1, _, p1⟩ := hx'.raw I1
  obtain ⟨its2, _, p2⟩ := hy'.raw I1
  refine call_zipS κ (ls := [a, b]) (by simp) (fun l hl => ?_) fun h' Z zz hsz hk => ?_
  · rcases List.mem_cons.mp hl with rfl | hl
    · exact ⟨_, p1⟩
    · rw [List.mem_singleton.mp hl]; exact ⟨_, p2⟩
  have hlt : ∀ l ∈ [a, b], (l : Nat) < s1.heap.objs.size := fun l hl => by
    rcases List.mem_cons.mp hl with rfl | hl
    · exact p1.lt
    · rw [List.mem_singleton.mp hl]; exact p2.lt
  refine spliced_none ?_
  show wpAny _ _ (call (.type "enumerate") [.ref (s1.heap.objs.size + [a, b].length + 2 : Nat)]) _ _ _
  refine call_enumZ (s := { s1 with heap := h' }) zz fun h2 he hsz2 hk2 => ?_
  have I3 : Inv X pins σ H1 { s1 with heap := h2 } := I1.kept (t' := s1.toks) fun c o z => hk2 c o (hk c o z)
  refine wpAny_pyIter_enum he ?_
  have hbe : s1.heap.objs.size + [a, b].length + 2 < h'.objs.size := by rw [hsz]; exact Nat.lt_succ_self _
  refine ⟨_, h'.objs.size :: fpS s1.heap.objs.size [a, b].length, _, _, H1, rfl, I3, turn_enumZ (by simp) (by simp) hlt hbe, ⟨?_, .none, he⟩, fun c hcm => ?_, q κ κa κb⟩
  · exact (turn_zipS (P := X.prog) (w := X.w) (K := X.K) (κ := κ) (tg := .Name "x" tpos) (x := "x") (px := tpos) rfl (by simp) (by simp) hlt).keep 0 h' h2 Z fun b hb o z => hk2 b o z
  · have hle : s1.heap.objs.size ≤ (c : Nat) := by
      rcases List.mem_cons.mp hcm with rfl | hcm
      · exact Nat.le_trans (by omega) (Nat.le_of_lt hbe)
      · exact (fpS_mem.mp hcm).1
    exact I1.fpOk hle (I1.hok.fresh hle)
end ZSt
/-! Ev, part I: the denotation of expressions is sound: each construct. -/
namespace Ev
open PySem PySem.Spec PyProof.Rows L2

section
variable {K : PySem.W.Frag} {mg : Str → Option Value} {W : WX} {c : Cfg} {ta tb tc : TE} {da db dc : Env → Hs → R D} {tt : TT} {dt : Env → Hs → R Bool} {tl : TA} {dl : Env → Hs → R (List D)}
theorem se_var (i : Nat) : SE K mg W (tVar i) ((Ex.var i).den c) := by
  intro ρ h S ι σ H Q r re hp
  replace hp : PostG K mg W S ι H σ (KQ K Q) (match ρ[i]? with | some (some d) => R.ok d h | _ => R.stuck) := hp
  split at hp
  · rename_i d e
    obtain ⟨v, e1, rv⟩ := re.2 i d e
    exact ⟨v, e1, hp S ι H r Ext.refl v rv⟩
  · exact hp.elim
theorem se_const {d : D} {v : V} (hv : ∀ S ι, RV K S ι d v) : SE K mg W (tC v) (fun _ h => .ok d h) := by
  intro ρ h S ι σ H Q r re hp
  exact hp S ι H r Ext.refl v (hv S ι)
theorem se_stuck {t : TE} : SE K mg W t (fun _ _ => .stuck) := by
  intro ρ h S ι σ H Q r re hp
  exact hp.elim
theorem se_bin (o : BOp) (fz : Bool) (ha : SE K mg W ta da) (hb : SE K mg W tb db) : SE K mg W (tOp (rBin K o) ta tb) (fun ρ h => (da ρ h).bind fun x h1 => (db ρ h1).bind fun y h2 => binD o fz x y h2) := by
  intro ρ h S ι σ H Q r re hp
  refine ha ρ h S ι σ H _ r re (hp.bind.imp fun x h1 S1 ι1 H1 r1 ex1 p1 v rv => ?_)
  refine hb ρ h1 S1 ι1 σ H1 _ r1 (re.ext ex1) (p1.bind.imp fun y h2 S2 ι2 H2 r2 ex2 p2 u ru => ?_)
  exact bin_sound o fz r2 (rv.ext ex2) ru p2
theorem se_neg (ha : SE K mg W ta da) : SE K mg W (tUn (rU fun i => .int (-i)) ta) (fun ρ h => (da ρ h).bind fun x h1 => match x with | .int i => .ok (.int (-i)) h1 | _ => .stuck) := by
  intro ρ h S ι σ H Q r re hp
  refine ha ρ h S ι σ H _ r re (hp.bind.imp fun x h1 S1 ι1 H1 r1 ex1 p1 v rv => ?_)
  cases rv with
  | int i => exact ⟨i, rfl, flat_post r1 (.int _) p1⟩
  | _ => exact p1.elim
theorem se_cmp (o : COp) (ha : SE K mg W ta da) (hb : SE K mg W tb db) : SE K mg W (tOp (rCmp K o) ta tb) (fun ρ h => (da ρ h).bind fun x h1 => (db ρ h1).bind fun y h2 => cmpD o x y h2) := by
  intro ρ h S ι σ H Q r re hp
  refine ha ρ h S ι σ H _ r re (hp.bind.imp fun x h1 S1 ι1 H1 r1 ex1 p1 v rv => ?_)
  refine hb ρ h1 S1 ι1 σ H1 _ r1 (re.ext ex1) (p1.bind.imp fun y h2 S2 ι2 H2 r2 ex2 p2 u ru => ?_)
  exact cmp_sound o r2 (rv.ext ex2) ru p2
/-- comparing, then the rest -/
theorem cmp_bind (o : COp) {S : Hp} {ι : List Addr} {H : Hp} {h : Hs} {σ : L2.St} {d e : D} {x y : V} {α : Type} {f : D → Hs → R α} {k : α → Hs → Hp → List Addr → Hp → Prop} {Q : VK}
    (r : HRel K S ι h H) (rx : RV K S ι d x) (ry : RV K S ι e y) (hp : PostG K mg W S ι H σ k ((cmpD o d e h).bind f))
    (hQ : ∀ z h' S' ι' H' v, HRel K S' ι' h' H' → Ext S ι H S' ι' H' → RV K S' ι' z v → PostG K mg W S' ι' H' σ k (f z h') → Q v H') : rCmp K o x y H Q :=
  cmp_sound o r rx ry (hp.bind.imp fun z h' S' ι' H' hr ex p v rv => hQ z h' S' ι' H' v hr ex rv p)
theorem se_chain (o o' : COp) (ha : SE K mg W ta da) (hb : SE K mg W tb db) (hc : SE K mg W tc dc) : SE K mg W (tChain (rCmp K o) (rCmp K o') ta tb tc)
    (fun ρ h => (da ρ h).bind fun x h1 => (db ρ h1).bind fun y h2 => (cmpD o x y h2).bind fun z h3 => match z with
      | .bl true => (dc ρ h3).bind fun w h4 => cmpD o' y w h4
      | .bl false => .ok (.bl false) h3
      | _ => .stuck) := by
  intro ρ h S ι σ H Q r re hp
  refine ha ρ h S ι σ H _ r re (hp.bind.imp fun x h1 S1 ι1 H1 r1 ex1 p1 v rv => ?_)
  refine hb ρ h1 S1 ι1 σ H1 _ r1 (re.ext ex1) (p1.bind.imp fun y h2 S2 ι2 H2 r2 ex2 p2 u ru => ?_)
  refine cmp_bind o r2 (rv.ext ex2) ru p2 fun z h3 S3 ι3 H3 w r3 ex3 rw' p3 => ?_
  cases rw' with
  | bl b =>
    refine ⟨b, rfl, ?_⟩
    cases b with
    | true =>
      rw [if_pos rfl]
      refine hc ρ h3 S3 ι3 σ H3 _ r3 (((re.ext ex1).ext ex2).ext ex3) (PostG.imp (PostG.bind p3) fun w h4 S4 ι4 H4 r4 ex4 p4 t rt => ?_)
      exact cmp_sound o' r4 ((ru.ext ex3).ext ex4) rt p4
    | false =>
      rw [if_neg Bool.false_ne_true]
      exact flat_post r3 (.bl _) p3
  | _ => exact PostG.elim p3
where
  PostG.elim {S : Hp} {ι : List Addr} {H : Hp} {σ : L2.St} {k : D → Hs → Hp → List Addr → Hp → Prop} {p : Prop} (h : PostG K mg W S ι H σ k .stuck) : p := h.elim
theorem se_and (ha : SE K mg W ta da) (hb : SE K mg W tb db) : SE K mg W (tAndV ta tb) (fun ρ h => (da ρ h).bind fun x h1 => match x with
    | .bl true => db ρ h1
    | .bl false => .ok (.bl false) h1
    | _ => .stuck) := by
  intro ρ h S ι σ H Q r re hp
  refine ha ρ h S ι σ H _ r re (hp.bind.imp fun x h1 S1 ι1 H1 r1 ex1 p1 v rv => ?_)
  cases rv with
  | bl b =>
    refine ⟨b, rfl, ?_⟩
    cases b with
    | true => rw [if_pos rfl]; exact hb ρ h1 S1 ι1 σ H1 Q r1 (re.ext ex1) p1
    | false => rw [if_neg Bool.false_ne_true]; exact flat_post r1 (.bl _) p1
  | _ => exact False.elim p1
theorem se_or (ha : SE K mg W ta da) (hb : SE K mg W tb db) : SE K mg W (tOrV ta tb) (fun ρ h => (da ρ h).bind fun x h1 => match x with
    | .bl true => .ok (.bl true) h1
    | .bl false => db ρ h1
    | _ => .stuck) := by
  intro ρ h S ι σ H Q r re hp
  refine ha ρ h S ι σ H _ r re (hp.bind.imp fun x h1 S1 ι1 H1 r1 ex1 p1 v rv => ?_)
  cases rv with
  | bl b =>
    refine ⟨b, rfl, ?_⟩
    cases b with
    | true => rw [if_pos rfl]; exact flat_post r1 (.bl _) p1
    | false => rw [if_neg Bool.false_ne_true]; exact hb ρ h1 S1 ι1 σ H1 Q r1 (re.ext ex1) p1
  | _ => exact False.elim p1
theorem se_not (ha : SE K mg W ta da) : SE K mg W (tNotV ta) (fun ρ h => (da ρ h).bind fun x h1 => match x with
    | .bl b => .ok (.bl (!b)) h1
    | _ => .stuck) := by
  intro ρ h S ι σ H Q r re hp
  refine ha ρ h S ι σ H _ r re (hp.bind.imp fun x h1 S1 ι1 H1 r1 ex1 p1 v rv => ?_)
  cases rv with
  | bl b => exact ⟨b, rfl, flat_post r1 (.bl _) p1⟩
  | _ => exact False.elim p1
theorem se_ite (ht : ST K mg W tt dt) (ha : SE K mg W ta da) (hb : SE K mg W tb db) : SE K mg W (tIf tt ta tb) (fun ρ h => (dt ρ h).bind fun k h1 => if k = true then da ρ h1 else db ρ h1) := by
  intro ρ h S ι σ H Q r re hp
  refine ht ρ h S ι σ H _ r re (hp.bind.imp fun k h1 S1 ι1 H1 r1 ex1 p1 => ?_)
  cases k with
  | true => rw [if_pos rfl] at p1 ⊢; exact ha ρ h1 S1 ι1 σ H1 Q r1 (re.ext ex1) p1
  | false => rw [if_neg Bool.false_ne_true] at p1 ⊢; exact hb ρ h1 S1 ι1 σ H1 Q r1 (re.ext ex1) p1
theorem se_tup (hl : SA K mg W tl dl) : SE K mg W (tTup tl) (fun ρ h => (dl ρ h).bind fun ds h1 => if ds.length ≤ LN then .ok (.tup ds) h1 else .stuck) := by
  intro ρ h S ι σ H Q r re hp
  refine hl ρ h S ι σ H _ r re (hp.bind.imp fun ds h1 S1 ι1 H1 r1 ex1 p1 vs rs => ?_)
  by_cases z : ds.length ≤ LN
  · rw [if_pos z] at p1
    exact ⟨by rw [← rs.length]; exact line_of z, fun p hn => tup_post r1 rs p1 hn⟩
  · rw [if_neg z] at p1; exact False.elim p1
theorem se_lst (fz : Bool) (hl : SA K mg W tl dl) : SE K mg W (tLst tl) (fun ρ h => (dl ρ h).bind fun ds h1 => newL fz ds h1) := by
  intro ρ h S ι σ H Q r re hp
  exact hl ρ h S ι σ H _ r re (hp.bind.imp fun ds h1 S1 ι1 H1 r1 ex1 p1 vs rs => newL_post r1 rs p1)
theorem se_idx (ha : SE K mg W ta da) (hb : SE K mg W tb db) : SE K mg W (tOp (rIdx K) ta tb) (fun ρ h => (da ρ h).bind fun x h1 => (db ρ h1).bind fun y h2 => idxD x y h2) := by
  intro ρ h S ι σ H Q r re hp
  refine ha ρ h S ι σ H _ r re (hp.bind.imp fun x h1 S1 ι1 H1 r1 ex1 p1 v rv => ?_)
  refine hb ρ h1 S1 ι1 σ H1 _ r1 (re.ext ex1) (p1.bind.imp fun y h2 S2 ι2 H2 r2 ex2 p2 u ru => ?_)
  exact idx_sound r2 (rv.ext ex2) ru p2
def SO (K : PySem.W.Frag) (mg : Str → Option Value) (W : WX) (t : TO) (de : Env → Hs → R (Option Int)) : Prop := ∀ ρ h S ι σ H Q, HRel K S ι h H → ERel K S ι ρ σ → PostG K mg W S ι H σ (fun o _ _ _ H' => Q o H') (de ρ h) → t σ H Q
theorem so_none : SO K mg W tNoPart (fun _ h => .ok none h) := fun ρ h S ι σ H Q r re hp => hp S ι H r Ext.refl
theorem so_some (ha : SE K mg W ta da) : SO K mg W (tPart ta) (fun ρ h => (da ρ h).bind fun x h1 => match x with | .int i => .ok (some i) h1 | _ => .stuck) := by
  intro ρ h S ι σ H Q r re hp
  refine ha ρ h S ι σ H _ r re (hp.bind.imp fun x h1 S1 ι1 H1 r1 ex1 p1 v rv => ?_)
  cases rv with
  | int i => exact ⟨i, rfl, p1 S1 ι1 H1 r1 Ext.refl⟩
  | _ => exact False.elim p1
theorem se_slice (fz : Bool) {tl th : TO} {dl dh : Env → Hs → R (Option Int)} (ha : SE K mg W ta da) (hl : SO K mg W tl dl) (hh : SO K mg W th dh) : SE K mg W (tSl (rSl K) ta tl th)
    (fun ρ h => (da ρ h).bind fun x h1 => (dl ρ h1).bind fun l h2 => (dh ρ h2).bind fun u h3 => sliceD fz x l u h3) := by
  intro ρ h S ι σ H Q r re hp
  refine ha ρ h S ι σ H _ r re (hp.bind.imp fun x h1 S1 ι1 H1 r1 ex1 p1 v rv => ?_)
  refine hl ρ h1 S1 ι1 σ H1 _ r1 (re.ext ex1) (p1.bind.imp fun y h2 S2 ι2 H2 r2 ex2 p2 => ?_)
  refine hh ρ h2 S2 ι2 σ H2 _ r2 ((re.ext ex1).ext ex2) (p2.bind.imp fun z h3 S3 ι3 H3 r3 ex3 p3 => ?_)
  exact sl_sound r3 ((rv.ext ex2).ext ex3) p3
theorem RVs.rev {S : Hp} {ι : List Addr} : ∀ {xs : List D} {us : List V}, RVs K S ι xs us → RVs K S ι xs.reverse us.reverse
  | _, _, .nil => .nil
  | _, _, .cons r t => by
    rw [List.reverse_cons, List.reverse_cons]
    exact (RVs.rev t).append (.cons r .nil)
theorem se_rev (fz : Bool) (ha : SE K mg W ta da) : SE K mg W (tRevL K ta) (fun ρ h => (da ρ h).bind fun x h1 => revD fz x h1) := by
  intro ρ h S ι σ H Q r re hp
  refine ha ρ h S ι σ H _ r re (hp.bind.imp fun x h1 S1 ι1 H1 r1 ex1 p1 v rv => ?_)
  unfold revD at p1
  split at p1
  · rename_i xs e1
    obtain ⟨a, ws, rfl, rs, hl, ht⟩ := seq_ok r1 rv e1
    exact ⟨a, ws, rfl, hl rfl, (newL_post r1 rs.rev p1).2⟩
  · exact False.elim p1
theorem sa_nil : SA K mg W tNil (fun _ h => .ok [] h) := fun ρ h S ι σ H Q r re hp => hp S ι H r Ext.refl [] .nil
theorem sa_cons (ha : SE K mg W ta da) (hl : SA K mg W tl dl) : SA K mg W (tCons ta tl) (fun ρ h => (da ρ h).bind fun x h1 => (dl ρ h1).bind fun xs h2 => .ok (x :: xs) h2) := by
  intro ρ h S ι σ H Q r re hp
  refine ha ρ h S ι σ H _ r re (hp.bind.imp fun x h1 S1 ι1 H1 r1 ex1 p1 v rv => ?_)
  refine hl ρ h1 S1 ι1 σ H1 _ r1 (re.ext ex1) (p1.bind.imp fun xs h2 S2 ι2 H2 r2 ex2 p2 vs rs => ?_)
  exact p2 S2 ι2 H2 r2 Ext.refl (v :: vs) (.cons (rv.ext ex2) rs)
theorem se_prim {p : Prim} {fz : Bool} (hp' : ∀ t, p ≠ .isinst t) (hl : SA K mg W tl dl) : SE K mg W (tCB (rPrim K p) tl) (fun ρ h => (dl ρ h).bind fun ds h1 => primD p fz ds h1) := by
  intro ρ h S ι σ H Q r re hp
  exact hl ρ h S ι σ H _ r re (hp.bind.imp fun ds h1 S1 ι1 H1 r1 ex1 p1 vs rs => prim_sound hp' r1 rs p1)
theorem se_isinst {t : String} {fz : Bool} (ha : SE K mg W ta da) : SE K mg W (tCB (rIsi K) (tCons ta (tCons (tC (.ty t)) tNil))) (fun ρ h => ((da ρ h).bind fun x h1 => .ok [x] h1).bind fun ds h1 => primD (.isinst t) fz ds h1) := by
  intro ρ h S ι σ H Q r re hp
  have hp2 : PostG K mg W S ι H σ (KQ K Q) ((da ρ h).bind fun x h1 => primD (.isinst t) fz [x] h1) := by
    replace hp : PostG K mg W S ι H σ (KQ K Q) (((da ρ h).bind fun x h1 => R.ok [x] h1).bind fun ds h1 => primD (.isinst t) fz ds h1) := hp
    cases e : da ρ h with
    | ok x h1 => rw [e] at hp; exact hp
    | exc c p h1 => rw [e] at hp; exact hp
    | stuck => rw [e] at hp; exact hp
  refine ha ρ h S ι σ H _ r re (hp2.bind.imp fun x h1 S1 ι1 H1 r1 ex1 p1 v rv => ?_)
  exact isinst_sound r1 rv p1
theorem se_lrange (fz : Bool) (ha : SE K mg W ta da) : SE K mg W (tLstRg (tRg1 ta)) (fun ρ h => (da ρ h).bind fun x h1 => match x with
    | .int n => if -(LN : Int) ≤ n ∧ n ≤ (LN : Int) then newL fz ((List.range n.toNat).map fun k => .int (k : Nat)) h1 else .stuck
    | _ => .stuck) := by
  intro ρ h S ι σ H Q r re hp
  refine ha ρ h S ι σ H _ r re (hp.bind.imp fun x h1 S1 ι1 H1 r1 ex1 p1 v rv => ?_)
  cases rv with
  | int n =>
    refine ⟨n, rfl, ?_⟩
    dsimp only at p1
    split at p1
    · rename_i hn
      unfold LN at hn
      refine ⟨⟨by omega, by omega, by omega, by omega, by omega⟩, ?_⟩
      have e : rgV 0 n = ((List.range n.toNat).map fun k : Nat => (k : Int)).map V.int := by
        unfold rgV
        rw [List.map_map]
        have : (n - 0).toNat = n.toNat := by omega
        rw [this]
        apply List.map_congr_left
        intro k _
        show V.int (0 + (k : Int)) = V.int (k : Int)
        rw [Int.zero_add]
      rw [e]
      have p2 : PostG K mg W S1 ι1 H1 σ (KQ K Q) (newL fz (((List.range n.toNat).map fun k : Nat => (k : Int)).map D.int) h1) := by
        rw [List.map_map]; exact p1
      exact (newL_post r1 RVs.ints p2).2
    · exact False.elim p1
  | _ => exact False.elim p1
theorem HRel.frozen {S : Hp} {ι : List Addr} {h : Hs} {H : Hp} {n : Nat} {a : Addr} {xs : List D} {vs : List V} (r : HRel K S ι h H) (en : ι[n]? = some a) (hc : h[n]? = some (.lst xs)) (h2 : H a = some (.lst vs)) (hs : S a = none) :
    HRel K (upd S a (.lst vs)) ι (h.set n .dead) H ∧ Ext S ι H (upd S a (.lst vs)) ι H := by
  have up : Sub S (upd S a (.lst vs)) := fun b q e => by rw [upd_ne (ne_of_none e hs)]; exact e
  refine ⟨⟨by rw [List.length_set]; exact r.len, r.nd, fun b q e => ?_, r.out, fun m b c' ha hc' => ?_⟩, ⟨up, fun _ _ e => e, fun _ _ e _ => e, fun _ m => .inl m, fun b e => ?_, fun _ _ e => e⟩⟩
  · by_cases k : b = a
    · subst k; rw [upd_same] at e; cases e; exact h2
    · rw [upd_ne k] at e; exact r.sub _ _ e
  · by_cases k : m = n
    · subst k
      have hl : m < h.length := (List.getElem?_eq_some_iff.mp hc).1
      rw [List.getElem?_set_self hl] at hc'
      cases hc'
      trivial
    · rw [List.getElem?_set_ne (Ne.symm k)] at hc'
      have ka : b ≠ a := fun z => by subst z; exact k (nd_ix r.nd ha en)
      exact (r.cell m b c' ha hc').up up (fun _ _ e => e) (fun e => by rw [upd_ne ka]; exact e) fun _ e => e
  · by_cases k : b = a
    · subst k; exact .inr (.inl (List.mem_of_getElem? en))
    · rw [upd_ne k] at e; exact .inl e
theorem se_freeze (ha : SE K mg W ta da) : SE K mg W ta (fun ρ h => (da ρ h).bind fun x h1 => freezeD x h1) := by
  intro ρ h S ι σ H Q r re hp
  refine ha ρ h S ι σ H _ r re (hp.bind.imp fun x h1 S1 ι1 H1 r1 ex1 p1 v rv => ?_)
  cases x with
  | ref n =>
    cases rv with
    | @ref _ a en =>
      replace p1 : PostG K mg W S1 ι1 H1 σ (KQ K Q) (match h1[n]? with | some (Cell.lst xs) => if D.pures xs = true then R.ok (.lst xs) (h1.set n .dead) else R.stuck | _ => R.stuck) := p1
      cases q : h1[n]? with
      | none => rw [q] at p1; exact False.elim p1
      | some c =>
        rw [q] at p1
        cases c with
        | dead => exact False.elim p1
        | obj _ _ => exact False.elim p1
        | dct _ _ => exact False.elim p1
        | lst xs =>
          obtain ⟨hs, vs, h2, h3⟩ := r1.cell n a _ en q
          obtain ⟨hr, ex⟩ := r1.frozen en q h2 hs
          dsimp only at p1
          split at p1
          · exact p1 _ _ _ hr ex _ (.lst upd_same (h3.ext ex))
          · exact False.elim p1
  | _ =>
    unfold freezeD at p1
    dsimp only at p1
    split at p1
    · exact p1 S1 ι1 H1 r1 Ext.refl v rv
    · exact False.elim p1
theorem se_dnew (t : Bool) : SE K mg W (if t = true then tDNewT else tDNewK) (fun _ h => .ok (.ref h.length) (h ++ [.dct t []])) := by
  intro ρ h S ι σ H Q r re hp
  cases t with
  | true =>
    intro p hn
    refine hp _ _ _ (r.cellNew hn ?_) (Ext.cellNew hn) _ (.ref ?_)
    · exact ⟨Hp.snone r hn, [], upd_same, .nil⟩
    · rw [← r.len]; simp
  | false =>
    intro p hn
    refine hp _ _ _ (r.cellNew hn ?_) (Ext.cellNew hn) _ (.ref ?_)
    · exact ⟨Hp.snone r hn, [], upd_same, .nil⟩
    · rw [← r.len]; simp
theorem se_call {n : Nat} {f : Nat} (hl : SA K mg W tl dl) (hst : ∀ ds h, ds.length ≠ n → c.Γ f ds h = .stuck) : SE K mg W (tCallS (spF K mg n (c.Γ f)) (fun σ cls d H => W cls d σ H) tl) (fun ρ h => (dl ρ h).bind fun ds h1 => c.Γ f ds h1) := by
  intro ρ h S ι σ H Q r re hp
  refine hl ρ h S ι σ H _ r re (hp.bind.imp fun ds h1 S1 ι1 H1 r1 ex1 p1 vs rs => ?_)
  have hlen : vs.length = n := by
    rw [← rs.length]
    by_cases k : ds.length = n
    · exact k
    · rw [hst ds h1 k] at p1; exact False.elim p1
  refine ⟨S1, ι1, h1, ds, hlen, r1, rs, ?_⟩
  cases e : c.Γ f ds h1 with
  | ok d h2 => rw [e] at p1; exact fun v S' ι' H' hr ex rv => p1 S' ι' H' hr ex v rv
  | exc x p h2 => rw [e] at p1; exact fun cls dd S' ι' H' hr ex xo => p1 cls dd S' ι' H' hr ex xo
  | stuck => rw [e] at p1; exact p1
/-! tests -/
theorem st_tru (ha : SE K mg W ta da) : ST K mg W (fun σ H Q => ta σ H fun x H' => ∃ k, TruV K x H' k ∧ Q k H') (fun ρ h => (da ρ h).bind fun x h1 => match truD h1 x with | some k => .ok k h1 | none => .stuck) := by
  intro ρ h S ι σ H Q r re hp
  refine ha ρ h S ι σ H _ r re (hp.bind.imp fun x h1 S1 ι1 H1 r1 ex1 p1 v rv => ?_)
  cases e : truD h1 x with
  | none => rw [e] at p1; exact False.elim p1
  | some k => rw [e] at p1; exact ⟨k, tru_sound r1 rv e, p1 S1 ι1 H1 r1 Ext.refl⟩
theorem st_stuck {t : TT} : ST K mg W t (fun _ _ => .stuck) := fun ρ h S ι σ H Q r re hp => hp.elim
theorem st_and {ta tb : TT} {da db : Env → Hs → R Bool} (ha : ST K mg W ta da) (hb : ST K mg W tb db) : ST K mg W (tAnd ta tb) (fun ρ h => (da ρ h).bind fun k h1 => if k = true then db ρ h1 else .ok false h1) := by
  intro ρ h S ι σ H Q r re hp
  refine ha ρ h S ι σ H _ r re (hp.bind.imp fun k h1 S1 ι1 H1 r1 ex1 p1 => ?_)
  cases k with
  | true => rw [if_pos rfl] at p1 ⊢; exact hb ρ h1 S1 ι1 σ H1 Q r1 (re.ext ex1) p1
  | false => rw [if_neg Bool.false_ne_true] at p1 ⊢; exact p1 S1 ι1 H1 r1 Ext.refl
theorem st_or {ta tb : TT} {da db : Env → Hs → R Bool} (ha : ST K mg W ta da) (hb : ST K mg W tb db) : ST K mg W (tOr ta tb) (fun ρ h => (da ρ h).bind fun k h1 => if k = true then .ok true h1 else db ρ h1) := by
  intro ρ h S ι σ H Q r re hp
  refine ha ρ h S ι σ H _ r re (hp.bind.imp fun k h1 S1 ι1 H1 r1 ex1 p1 => ?_)
  cases k with
  | true => rw [if_pos rfl] at p1 ⊢; exact p1 S1 ι1 H1 r1 Ext.refl
  | false => rw [if_neg Bool.false_ne_true] at p1 ⊢; exact hb ρ h1 S1 ι1 σ H1 Q r1 (re.ext ex1) p1
theorem st_not {ta : TT} {da : Env → Hs → R Bool} (ha : ST K mg W ta da) : ST K mg W (tNot ta) (fun ρ h => (da ρ h).bind fun k h1 => .ok (!k) h1) := by
  intro ρ h S ι σ H Q r re hp
  exact ha ρ h S ι σ H _ r re (hp.bind.imp fun k h1 S1 ι1 H1 r1 ex1 p1 => p1 S1 ι1 H1 r1 Ext.refl)
theorem st_yes : ST K mg W tYes (fun _ h => .ok true h) := fun ρ h S ι σ H Q r re hp => hp S ι H r Ext.refl
/-- a comparison as a test: its value is a bool -/
theorem st_test (ha : SE K mg W ta da) (hb : ∀ ρ h x h1, da ρ h = .ok x h1 → ∃ b, x = .bl b) : ST K mg W (tTest ta) (fun ρ h => (da ρ h).bind fun x h1 => match truD h1 x with | some k => .ok k h1 | none => .stuck) := by
  intro ρ h S ι σ H Q r re hp
  refine ha ρ h S ι σ H _ r re ?_
  replace hp : PostG K mg W S ι H σ _ ((da ρ h).bind _) := hp
  cases e : da ρ h with
  | ok x h1 =>
    rw [e] at hp
    obtain ⟨b, rfl⟩ := hb ρ h x h1 e
    intro S1 ι1 H1 r1 ex1 v rv
    cases rv
    exact ⟨b, rfl, hp S1 ι1 H1 r1 ex1⟩
  | exc c p h1 => rw [e] at hp; exact hp
  | stuck => rw [e] at hp; exact hp

/-! ### methods of lists -/
def rMeth (K : PySem.W.Frag) : Mt → V → List V → Hp → VK → Prop
  | .append => rAppend
  | .pop => rPop
  | .popAt => rPopAt
  | .index => rIndex K
  | .insert => fun x vs H Q => ∃ (l : Addr) (xs : List V) (i : Int) (y : V), x = .ref l ∧ vs = [.int i, y] ∧ H l = some (.lst xs) ∧ xs.length < sizeLine ∧ 0 ≤ i ∧ i < 2 ^ 63 ∧
    Q .non (upd H l (.lst (xs.take i.toNat ++ [y] ++ xs.drop i.toNat)))
  | .tindex => EnF.rTIndex K
theorem RVs.dropLast {S : Hp} {ι : List Addr} : ∀ {xs : List D} {us : List V}, RVs K S ι xs us → RVs K S ι xs.dropLast us.dropLast := fun {xs us} r => by
  rw [List.dropLast_eq_take, List.dropLast_eq_take, r.length]
  exact r.take _
theorem RVs.eraseIdx {S : Hp} {ι : List Addr} : ∀ {xs : List D} {us : List V} (i : Nat), RVs K S ι xs us → RVs K S ι (xs.eraseIdx i) (us.eraseIdx i)
  | _, _, _, .nil => .nil
  | _, _, 0, .cons _ t => t
  | _, _, i + 1, .cons q t => .cons q (RVs.eraseIdx i t)
theorem idxOf_at {y : D} : ∀ {xs : List D} {n j : Nat}, idxOf y xs n = some j → ∃ k z, j = n + k ∧ xs[k]? = some z ∧ flatEq z y = true ∧ ∀ (m : Nat) (z' : D), m < k → xs[m]? = some z' → flatEq z' y = false
  | [], _, _, e => by cases e
  | x :: xs, n, j, e => by
    unfold idxOf at e
    cases q : flatEq x y with
    | true =>
      rw [q] at e
      cases e
      exact ⟨0, x, rfl, rfl, q, fun m z' h => by omega⟩
    | false =>
      rw [q] at e
      obtain ⟨k, z, e1, e2, e3, e4⟩ := idxOf_at (show idxOf y xs (n + 1) = some j from e)
      refine ⟨k + 1, z, by omega, by simpa using e2, e3, fun m z' hm hz => ?_⟩
      cases m with
      | zero => simp at hz; subst hz; exact q
      | succ m => exact e4 m z' (by omega) (by simpa using hz)
theorem lst_at {S : Hp} {ι : List Addr} {h : Hs} {H : Hp} (r : HRel K S ι h H) {n : Nat} {v : V} (rv : RV K S ι (.ref n) v) {xs : List D} (q : h[n]? = some (.lst xs)) :
    ∃ a vs, v = .ref a ∧ ι[n]? = some a ∧ S a = none ∧ H a = some (.lst vs) ∧ RVs K S ι xs vs := by
  cases rv with
  | @ref _ a en =>
    obtain ⟨h1, vs, h2, h3⟩ := r.cell n a _ en q
    exact ⟨a, vs, rfl, en, h1, h2, h3⟩
theorem write_post {S : Hp} {ι : List Addr} {h : Hs} {H : Hp} {σ : L2.St} {Q : VK} (r : HRel K S ι h H) {n : Nat} {a : Addr} (en : ι[n]? = some a) (hs : S a = none) {xs : List D} {vs : List V} (rs : RVs K S ι xs vs) {d : D} {v : V} (rv : RV K S ι d v)
    (hp : PostG K mg W S ι H σ (KQ K Q) (.ok d (h.set n (.lst xs)))) : Q v (upd H a (.lst vs)) :=
  hp S ι _ (r.write en hs ⟨hs, vs, upd_same, rs⟩) (Ext.write en) v rv
theorem meth_sound {m : Mt} {S : Hp} {ι : List Addr} {h : Hs} {H : Hp} {σ : L2.St} {Q : VK} (r : HRel K S ι h H) {x : D} {v : V} (rv : RV K S ι x v) {ds : List D} {vs : List V} (rs : RVs K S ι ds vs)
    (hp : PostG K mg W S ι H σ (KQ K Q) (methD m x ds h)) : rMeth K m v vs H Q := by
  unfold methD at hp
  split at hp
  · obtain ⟨u, rfl, ru⟩ := rs.one
    split at hp
    · split at hp
      · rename_i xs q
        split at hp
        · rename_i hl
          obtain ⟨a, ws, rfl, en, hs, h2, h3⟩ := lst_at r rv q
          exact ⟨a, ws, u, rfl, rfl, h2, by rw [← h3.length]; exact Nat.lt_of_lt_of_le hl LN_le, write_post r en hs (h3.append (.cons ru .nil)) .non hp⟩
        · exact False.elim hp
      · exact False.elim hp
    · exact False.elim hp
  · cases rs
    split at hp
    · split at hp
      · rename_i xs q
        split at hp
        · rename_i y e1
          obtain ⟨a, ws, rfl, en, hs, h2, h3⟩ := lst_at r rv q
          obtain ⟨u, eu, ru⟩ := h3.get e1
          rw [h3.length] at eu
          exact ⟨a, ws, u, rfl, rfl, h2, eu, write_post r en hs h3.dropLast ru hp⟩
        · exact False.elim hp
      · exact False.elim hp
    · exact False.elim hp
  · obtain ⟨u, rfl, ru⟩ := rs.one
    cases ru
    split at hp
    · split at hp
      · rename_i i _ n _ xs q
        split at hp
        · rename_i hi
          split at hp
          · rename_i y e1
            obtain ⟨a, ws, rfl, en, hs, h2, h3⟩ := lst_at r rv q
            obtain ⟨u, eu, ru⟩ := h3.get e1
            have hlw : i < (ws.length : Int) := by rw [← h3.length]; exact hi.2.1
            have h9 := hi.2.2
            unfold LN at h9
            exact ⟨a, ws, i, i.toNat, u, rfl, rfl, h2, by omega, by omega, seqIndex_of hi.1 hlw, eu, write_post r en hs (h3.eraseIdx _) ru hp⟩
          · exact False.elim hp
        · exact False.elim hp
      · exact False.elim hp
    · exact False.elim hp
  · obtain ⟨u, rfl, ru⟩ := rs.one
    split at hp
    · rename_i xs e1
      split at hp
      · rename_i hf
        rw [Bool.and_eq_true] at hf
        split at hp
        · rename_i j e2
          obtain ⟨a, ws, rfl, r1, hl, ht⟩ := seq_ok r rv e1
          obtain ⟨k, z, rfl, e3, e4, e5⟩ := idxOf_at e2
          obtain ⟨w, ew, rw'⟩ := r1.get e3
          have fz : z.flat = true := List.all_eq_true.mp hf.2 z (List.mem_of_getElem? e3)
          refine ⟨a, ws, u, k, w, rfl, rfl, hl rfl, flat_ok ru hf.1, flats_ok r1 hf.2, ew, by rw [← flat_eq ru rw' hf.1 fz]; exact e4, fun m z' hm hz => ?_, ?_⟩
          · have hlen : m < xs.length := by rw [r1.length]; exact (List.getElem?_eq_some_iff.mp hz).1
            have ex : xs[m]? = some xs[m] := List.getElem?_eq_getElem hlen
            obtain ⟨w2, e6, r6⟩ := r1.get ex
            rw [hz] at e6
            cases e6
            have fm : xs[m].flat = true := List.all_eq_true.mp hf.2 _ (List.mem_of_getElem? ex)
            rw [← flat_eq ru r6 hf.1 fm]
            exact e5 m _ hm ex
          · have := flat_post r (.int _) hp
            simpa using this
        · exact False.elim hp
      · exact False.elim hp
    · exact False.elim hp
  · obtain ⟨u, w, rfl, ru, rw'⟩ := rs.two
    cases ru
    split at hp
    · split at hp
      · rename_i xs q
        split at hp
        · rename_i hi
          obtain ⟨a, ws, rfl, en, hs, h2, h3⟩ := lst_at r rv q
          have hl := h3.length
          have h9 := hi.2.2
          unfold LN at h9
          refine ⟨a, ws, _, w, rfl, rfl, h2, by rw [← hl]; exact Nat.lt_of_lt_of_le hi.2.2 LN_le, hi.1, by omega, ?_⟩
          rw [List.append_assoc]
          exact write_post r en hs ((h3.take _).append (.cons rw' (h3.drop _))) .non hp
        · exact False.elim hp
      · exact False.elim hp
    · exact False.elim hp
  · obtain ⟨u, rfl, ru⟩ := rs.one
    split at hp
    · rename_i xs
      split at hp
      · rename_i hf
        rw [Bool.and_eq_true] at hf
        split at hp
        · rename_i j e2
          have e1 : seqOf h (.vt xs) = some (xs, false) := rfl
          obtain ⟨a, ws, rfl, r1, hl, ht⟩ := seq_ok r rv e1
          obtain ⟨k, z, rfl, e3, e4, e5⟩ := idxOf_at e2
          obtain ⟨w, ew, rw'⟩ := r1.get e3
          have fz : z.flat = true := List.all_eq_true.mp hf.2 z (List.mem_of_getElem? e3)
          refine ⟨a, ws, u, k, w, rfl, rfl, ht rfl, flat_ok ru hf.1, flats_ok r1 hf.2, ew, by rw [← flat_eq ru rw' hf.1 fz]; exact e4, fun m z' hm hz => ?_, ?_⟩
          · have hlen : m < xs.length := by rw [r1.length]; exact (List.getElem?_eq_some_iff.mp hz).1
            have ex : xs[m]? = some xs[m] := List.getElem?_eq_getElem hlen
            obtain ⟨w2, e6, r6⟩ := r1.get ex
            rw [hz] at e6
            cases e6
            have fm : xs[m].flat = true := List.all_eq_true.mp hf.2 _ (List.mem_of_getElem? ex)
            rw [← flat_eq ru r6 hf.1 fm]
            exact e5 m _ hm ex
          · have := flat_post r (.int _) hp
            simpa using this
        · exact False.elim hp
      · exact False.elim hp
    · exact False.elim hp
  · exact False.elim hp
theorem recv_l {m : Mt} (hm : m.onL = true) {h : Hs} {x : D} (e : m.recv h x = true) : ∃ xs, seqOf h x = some (xs, true) := by
  have e : (match seqOf h x with | some (_, true) => true | _ => false) = true := by
    cases m <;> first | exact e | cases hm
  split at e
  · rename_i xs e1; exact ⟨xs, e1⟩
  · cases e
theorem se_meth (m : Mt) (hm : m.onL = true) (ha : SE K mg W ta da) (hl : SA K mg W tl dl) : SE K mg W (tBM K "list" (rMeth K m) ta tl) (fun ρ h => (da ρ h).bind fun x h1 => if m.recv h1 x = true then (dl ρ h1).bind fun ds h2 => methD m x ds h2 else .stuck) := by
  intro ρ h S ι σ H Q r re hp
  refine ha ρ h S ι σ H _ r re (hp.bind.imp fun x h1 S1 ι1 H1 r1 ex1 p1 v rv => ?_)
  split at p1
  · rename_i hk
    obtain ⟨xs, e1⟩ := recv_l hm hk
    obtain ⟨a, vs, rfl, r2, hl', ht⟩ := seq_ok r1 rv e1
    refine ⟨.inl ⟨rfl, vs, hl' rfl⟩, ?_⟩
    exact hl ρ h1 S1 ι1 σ H1 _ r1 (re.ext ex1) (PostG.imp (PostG.bind p1) fun ds h2 S2 ι2 H2 r2 ex2 p2 us rs => meth_sound r2 (rv.ext ex2) rs p2)
  · exact False.elim p1
theorem se_methT (ha : SE K mg W ta da) (hl : SA K mg W tl dl) : SE K mg W (EnF.tTIndex K ta tl) (fun ρ h => (da ρ h).bind fun x h1 => if Mt.recv .tindex h1 x = true then (dl ρ h1).bind fun ds h2 => methD .tindex x ds h2 else .stuck) := by
  intro ρ h S ι σ H Q r re hp
  refine ha ρ h S ι σ H _ r re (hp.bind.imp fun x h1 S1 ι1 H1 r1 ex1 p1 v rv => ?_)
  split at p1
  · rename_i hk
    cases x with
    | vt ys =>
      cases rv with
      | vt e2 e3 rr =>
        refine ⟨⟨_, _, _, rfl, r1.sub _ _ e2, e3⟩, ?_⟩
        exact hl ρ h1 S1 ι1 σ H1 _ r1 (re.ext ex1) (PostG.imp (PostG.bind p1) fun ds h2 S2 ι2 H2 r2 ex2 p2 us rs => meth_sound (m := .tindex) r2 (RV.ext (.vt e2 e3 rr) ex2) rs p2)
    | _ => cases hk
  · exact False.elim p1
theorem se_meth0 (m : Mt) (hm : m.onL = true) (ha : SE K mg W ta da) : SE K mg W (tBM0 K "list" (rMeth K m) ta) (fun ρ h => (da ρ h).bind fun x h1 => if m.recv h1 x = true then (R.ok [] h1 : R (List D)).bind fun ds h2 => methD m x ds h2 else .stuck) := by
  intro ρ h S ι σ H Q r re hp
  refine ha ρ h S ι σ H _ r re (hp.bind.imp fun x h1 S1 ι1 H1 r1 ex1 p1 v rv => ?_)
  split at p1
  · rename_i hk
    obtain ⟨xs, e1⟩ := recv_l hm hk
    obtain ⟨a, vs, rfl, r2, hl', ht⟩ := seq_ok r1 rv e1
    exact ⟨.inl ⟨rfl, vs, hl' rfl⟩, meth_sound r1 rv .nil p1⟩
  · exact False.elim p1
theorem se_ctup (hl : SA K mg W tl dl) : SE K mg W (EnF.tCTup tl) (fun ρ h => (dl ρ h).bind fun ds h1 => if ds.length ≤ LN then .ok (.vt ds) h1 else .stuck) := by
  intro ρ h S ι σ H Q r re hp
  refine hl ρ h S ι σ H _ r re (hp.bind.imp fun ds h1 S1 ι1 H1 r1 ex1 p1 vs rs => ?_)
  by_cases z : ds.length ≤ LN
  · rw [if_pos z] at p1
    refine ⟨by rw [← rs.length]; exact line_of z, fun p ob hn ho => ?_⟩
    have ex := Ext.fz (o := .frz ob (.tup vs)) r1 hn
    exact p1 _ _ _ (r1.fz hn) ex _ (.vt upd_same ho (rs.ext ex))
  · rw [if_neg z] at p1; exact False.elim p1
/-! ### frozen, cells within cells -/
mutual
theorem fzD_ok : ∀ (k : Nat) {d : D} {v : V} {h h' : Hs} {d' : D} {S : Hp} {ι : List Addr} {H : Hp}, HRel K S ι h H → RV K S ι d v → fzD k d h = some (d', h') → ∃ S', HRel K S' ι h' H ∧ Ext S ι H S' ι H ∧ RV K S' ι d' v
  | 0, _, _, _, _, _, _, _, _, _, _, e => by unfold fzD at e; cases e
  | k + 1, d, v, h, h', d', S, ι, H, r, rv, e => by
    unfold fzD at e
    split at e
    · cases e; exact ⟨S, r, Ext.refl, rv⟩
    · cases d with
      | ref n =>
        cases rv with
        | @ref _ a en =>
          dsimp only at e
          cases q : h[n]? with
          | none => rw [q] at e; cases e
          | some c =>
            rw [q] at e
            cases c with
            | lst xs =>
              dsimp only at e
              obtain ⟨h1, vs, h2, h3⟩ := r.cell n a _ en q
              cases q2 : fzL k xs h with
              | none => rw [q2] at e; cases e
              | some z =>
                obtain ⟨ys, hh⟩ := z
                rw [q2] at e
                dsimp only at e
                obtain ⟨S1, r1, ex1, rs⟩ := fzL_ok k r h3 q2
                cases q3 : hh[n]? with
                | none => rw [q3] at e; cases e
                | some c2 =>
                  rw [q3] at e
                  cases c2 with
                  | lst zs =>
                    cases e
                    obtain ⟨h4, _, _, _⟩ := r1.cell n a _ en q3
                    obtain ⟨r2, ex2⟩ := r1.frozen en q3 h2 h4
                    exact ⟨_, r2, ex1.trans ex2, .lst upd_same (rs.ext ex2)⟩
                  | _ => cases e
            | _ => cases e
      | tup xs =>
        cases rv with
        | tup e1 r1 =>
          dsimp only at e
          cases q2 : fzL k xs h with
          | none => rw [q2] at e; cases e
          | some z =>
            obtain ⟨ys, hh⟩ := z
            rw [q2] at e; cases e
            obtain ⟨S1, r2, ex1, rs⟩ := fzL_ok k r r1 q2
            exact ⟨S1, r2, ex1, .tup (ex1.sub _ _ e1) rs⟩
      | lst xs =>
        cases rv with
        | lst e1 r1 =>
          dsimp only at e
          cases q2 : fzL k xs h with
          | none => rw [q2] at e; cases e
          | some z =>
            obtain ⟨ys, hh⟩ := z
            rw [q2] at e; cases e
            obtain ⟨S1, r2, ex1, rs⟩ := fzL_ok k r r1 q2
            exact ⟨S1, r2, ex1, .lst (ex1.sub _ _ e1) rs⟩
      | _ => cases e
theorem fzL_ok : ∀ (k : Nat) {ds : List D} {vs : List V} {h h' : Hs} {ds' : List D} {S : Hp} {ι : List Addr} {H : Hp}, HRel K S ι h H → RVs K S ι ds vs → fzL k ds h = some (ds', h') → ∃ S', HRel K S' ι h' H ∧ Ext S ι H S' ι H ∧ RVs K S' ι ds' vs
  | k, [], _, h, h', ds', S, ι, H, r, .nil, e => by
    unfold fzL at e
    cases e
    exact ⟨S, r, Ext.refl, .nil⟩
  | k, d :: ds, _, h, h', ds', S, ι, H, r, .cons rv rs, e => by
    unfold fzL at e
    cases q : fzD k d h with
    | none => rw [q] at e; cases e
    | some z =>
      obtain ⟨y, h1⟩ := z
      rw [q] at e
      dsimp only at e
      obtain ⟨S1, r1, ex1, ry⟩ := fzD_ok k r rv q
      cases q2 : fzL k ds h1 with
      | none => rw [q2] at e; cases e
      | some z2 =>
        obtain ⟨ys, h2⟩ := z2
        rw [q2] at e; cases e
        obtain ⟨S2, r2, ex2, rys⟩ := fzL_ok k r1 (rs.ext ex1) q2
        exact ⟨S2, r2, ex1.trans ex2, .cons (ry.ext ex2) rys⟩
end
theorem se_fzd (ha : SE K mg W ta da) : SE K mg W ta (fun ρ h => (da ρ h).bind fun x h1 => fzR x h1) := by
  intro ρ h S ι σ H Q r re hp
  refine ha ρ h S ι σ H _ r re (hp.bind.imp fun x h1 S1 ι1 H1 r1 ex1 p1 v rv => ?_)
  unfold fzR at p1
  cases e : fzD DEEPF x h1 with
  | none => rw [e] at p1; exact False.elim p1
  | some z =>
    obtain ⟨y, h2⟩ := z
    rw [e] at p1
    obtain ⟨S2, r2, ex2, ry⟩ := fzD_ok DEEPF r1 rv e
    exact p1 S2 ι1 H1 r2 ex2 _ ry
theorem ss_fz (i : Nat) {t : TS} {du : Env → Hs → Out} (h2 : SS K mg W t du) : SS K mg W t (fun ρ h => (match ρ[i]? with
    | some (some d) => (match fzD DEEPF d h with
      | some (d', h') => Out.nx (ρ.set i (some d')) h'
      | none => .stuck)
    | _ => .nx ρ h).andThen du) := by
  intro ρ h S ι σ H D' r re hp
  dsimp only at hp
  cases q : ρ[i]? with
  | none =>
    rw [q] at hp
    exact h2 ρ h S ι σ H D' r re hp
  | some o =>
    rw [q] at hp
    cases o with
    | none => exact h2 ρ h S ι σ H D' r re hp
    | some d =>
      dsimp only at hp
      cases e : fzD DEEPF d h with
      | none => rw [e] at hp; exact False.elim hp
      | some z =>
        obtain ⟨y, h1⟩ := z
        rw [e] at hp
        obtain ⟨v, ev, rv⟩ := re.2 i d q
        obtain ⟨S2, r2, ex2, ry⟩ := fzD_ok DEEPF r rv e
        refine h2 (ρ.set i (some y)) h1 S2 ι σ H D' r2 ⟨by rw [List.length_set]; exact re.1, fun j dj ej => ?_⟩ (Post.ext hp ex2)
        by_cases k : i = j
        · subst k
          have hl : i < ρ.length := (List.getElem?_eq_some_iff.mp q).1
          rw [List.getElem?_set_self hl] at ej
          cases ej
          exact ⟨v, ev, ry⟩
        · rw [List.getElem?_set_ne k] at ej
          obtain ⟨u, e1, ru⟩ := re.2 j dj ej
          exact ⟨u, e1, ru.ext ex2⟩
/-! ### displays with stars -/
theorem sa_star (ha : SE K mg W ta da) (hl : SA K mg W tl dl) : SA K mg W (StX.tStar K ta tl) (fun ρ h => (da ρ h).bind fun x h1 => match seqOf h1 x with
    | some (ys, _) => (dl ρ h1).bind fun xs h2 => .ok (ys ++ xs) h2
    | none => .stuck) := by
  intro ρ h S ι σ H Q r re hp
  refine ha ρ h S ι σ H _ r re (hp.bind.imp fun x h1 S1 ι1 H1 r1 ex1 p1 v rv => ?_)
  split at p1
  · rename_i ys k e1
    obtain ⟨a, ws, rfl, rs1, h2, h3⟩ := seq_ok r1 rv e1
    refine ⟨a, ws, rfl, ?_, ?_⟩
    · cases k with
      | true => exact .inr (h2 rfl)
      | false => exact .inl (h3 rfl)
    · refine hl ρ h1 S1 ι1 σ H1 _ r1 (re.ext ex1) (PostG.imp (PostG.bind p1) fun xs h2 S2 ι2 H2 r2 ex2 p2 vs rs => ?_)
      exact p2 S2 ι2 H2 r2 Ext.refl (ws ++ vs) ((rs1.ext ex2).append rs)
  · exact False.elim p1
end
end Ev
/-! Ev, part J: the denotation of expressions is sound: the induction. -/
namespace Ev
open PySem PySem.Spec PyProof.Rows L2

theorem room_of {k : Nat} {A : Around} (r : Room k A) : A.units + 65 < cLine := by have := r.un; omega
theorem Good.blk {c : Cfg} {bl fl : List Str} {X : Cx} (G : Good c bl fl X) {s : Shared} {H : Hp} {scope : Scope} {C : Addr} {cl : List (Str × Addr)} {fp : List Addr} (hk : scope.kind = .function) :
    Good c bl fl (X.blk s H scope (compEnvC scope cl C X.env) fp) where
  calm := G.calm
  nd := G.nd
  kind := hk
  un := G.un
  gd := G.gd
  blt := G.blt
  gl := G.gl
  fns := G.fns

section
variable {c : Cfg} {bl : List Str}
theorem pw_of {X : Cx} {op : BoolOp} {a : Expr} {pos : Pos} {t : TT} (h : PT X a t) : PW X (.BoolOp op [a] pos) t := by
  cases op with
  | And => exact pw_and1 h
  | Or => exact pw_or1 h
/-! iterators -/
section
variable {K : PySem.W.Frag} {mg : Str → Option Value} {W : WX} {ta tb : TE} {da db : Env → Hs → R D} {tl : TA} {dl : Env → Hs → R (List D)}
def seqD (x : D) (h : Hs) : R (List D) := match x with
  | .ref _ => .stuck
  | x => match seqOf h x with
    | some (xs, _) => .ok xs h
    | none => .stuck
theorem seq_fix {S : Hp} {ι : List Addr} {H : Hp} {h : Hs} (r : HRel K S ι h H) {d : D} {v : V} (rv : RV K S ι d v) (nr : ∀ n, d ≠ .ref n) {xs : List D} {b : Bool} (e : seqOf h d = some (xs, b)) :
    ∃ a vs, v = .ref a ∧ RVs K S ι xs vs ∧ (b = true → SqL K S a vs) ∧ (b = false → SqT K S a vs) := by
  cases rv with
  | tup e1 r1 => cases e; exact ⟨_, _, rfl, r1, fun z => (by cases z), fun _ => SqT.of e1⟩
  | lst e1 r1 => cases e; exact ⟨_, _, rfl, r1, fun _ => SqL.of e1, fun z => (by cases z)⟩
  | vw e1 r1 => cases e; exact ⟨_, _, rfl, r1, fun _ => e1, fun z => (by cases z)⟩
  | vt e1 _ r1 => cases e; exact ⟨_, _, rfl, r1, fun z => (by cases z), fun _ => vtT e1⟩
  | ref en => exact absurd rfl (nr _)
  | non => cases e
  | bl _ => cases e
  | int _ => cases e
  | str _ => cases e
theorem si_seq (ha : SE K mg W ta da) : SI K mg W (fun σ H R => iList K ta σ H R ∨ iTup K ta σ H R) (fun ρ h => (da ρ h).bind fun x h1 => match x with
    | .ref _ => .stuck
    | x => match seqOf h1 x with
      | some (xs, _) => .ok xs h1
      | none => .stuck) := by
  intro ρ h S ι σ H R' r re hp
  replace hp : PostG K mg W S ι H σ _ ((da ρ h).bind _) := hp
  cases e : da ρ h with
  | stuck => rw [e] at hp; exact False.elim hp
  | exc x p h1 =>
    rw [e] at hp
    exact .inl (ha ρ h S ι σ H _ r re (by rw [e]; exact hp))
  | ok x h1 =>
    rw [e] at hp
    have hp : PostG K mg W S ι H σ (fun xs _ S' ι' H' => ∀ J, Yields K J xs S' ι' → R' J H') (seqD x h1) := hp
    cases x with
    | ref n => exact False.elim hp
    | _ =>
      unfold seqD at hp
      dsimp only at hp
      split at hp
      · rename_i xs b e1
        cases b with
        | true =>
          refine .inl (ha ρ h S ι σ H _ r re ?_)
          rw [e]
          intro S1 ι1 H1 r1 ex1 v rv
          obtain ⟨a, vs, rfl, rs, hl, ht⟩ := seq_fix r1 rv (fun n z => nomatch z) e1
          exact ⟨a, rfl, ⟨vs, SqL.up r1.sub (hl rfl)⟩, hp S1 ι1 H1 r1 ex1 _ (yields_list (hl rfl) rs)⟩
        | false =>
          refine .inr (ha ρ h S ι σ H _ r re ?_)
          rw [e]
          intro S1 ι1 H1 r1 ex1 v rv
          obtain ⟨a, vs, rfl, rs, hl, ht⟩ := seq_fix r1 rv (fun n z => nomatch z) e1
          exact ⟨a, rfl, ⟨vs, SqT.up r1.sub (ht rfl)⟩, hp S1 ι1 H1 r1 ex1 _ (yields_tup (ht rfl) rs)⟩
      · exact False.elim hp
theorem si_range1 (hl : SA K mg W tl dl) : SI K mg W (iRng1 tl) (fun ρ h => (dl ρ h).bind fun ds h1 => match ds with
    | [.int n] => if -(LN : Int) ≤ n ∧ n ≤ (LN : Int) then .ok ((List.range n.toNat).map fun k => .int (k : Nat)) h1 else .stuck
    | _ => .stuck) := by
  intro ρ h S ι σ H R' r re hp
  refine hl ρ h S ι σ H _ r re (hp.bind.imp fun ds h1 S1 ι1 H1 r1 ex1 p1 vs rs => ?_)
  split at p1
  · obtain ⟨v, rfl, rv⟩ := rs.one
    cases rv
    split at p1
    · rename_i hn
      unfold LN at hn
      refine ⟨_, rfl, by omega, by omega, p1 S1 ι1 H1 r1 Ext.refl _ ?_⟩
      have := yields_range (K := K) (S := S1) (ι := ι1) 0 (Int.toNat ‹Int›)
      simpa only [Int.zero_add] using this
    · exact False.elim p1
  · exact False.elim p1
theorem si_range2 (hl : SA K mg W tl dl) : SI K mg W (iRng2 tl) (fun ρ h => (dl ρ h).bind fun ds h1 => match ds with
    | [.int a, .int b] => if -(LN : Int) ≤ a ∧ a ≤ (LN : Int) ∧ -(LN : Int) ≤ b ∧ b ≤ (LN : Int) then .ok ((List.range (b - a).toNat).map fun k => .int (a + (k : Nat))) h1 else .stuck
    | _ => .stuck) := by
  intro ρ h S ι σ H R' r re hp
  refine hl ρ h S ι σ H _ r re (hp.bind.imp fun ds h1 S1 ι1 H1 r1 ex1 p1 vs rs => ?_)
  split at p1
  · obtain ⟨v, u, rfl, rv, ru⟩ := rs.two
    cases rv; cases ru
    split at p1
    · rename_i hn
      unfold LN at hn
      exact ⟨_, _, rfl, ⟨by omega, by omega, by omega, by omega⟩, p1 S1 ι1 H1 r1 Ext.refl _ (yields_range _ _)⟩
    · exact False.elim p1
  · exact False.elim p1
theorem RVs.three {S : Hp} {ι : List Addr} {d e f : D} {vs : List V} (r : RVs K S ι [d, e, f] vs) : ∃ v u w, vs = [v, u, w] ∧ RV K S ι d v ∧ RV K S ι e u ∧ RV K S ι f w := by
  cases r with
  | cons r t => cases t with
    | cons r2 t => cases t with
      | cons r3 t => cases t; exact ⟨_, _, _, rfl, r, r2, r3⟩
theorem si_range3 (hl : SA K mg W tl dl) : SI K mg W (iRng3 tl) (fun ρ h => (dl ρ h).bind fun ds h1 => match ds with
    | [.int a, .int b, .int s] => if s = -1 ∧ -(LN : Int) ≤ a ∧ a ≤ (LN : Int) ∧ -(LN : Int) ≤ b ∧ b ≤ (LN : Int) then .ok ((List.range (a - b).toNat).map fun k => .int (a - (k : Nat))) h1 else .stuck
    | _ => .stuck) := by
  intro ρ h S ι σ H R' r re hp
  refine hl ρ h S ι σ H _ r re (hp.bind.imp fun ds h1 S1 ι1 H1 r1 ex1 p1 vs rs => ?_)
  split at p1
  · obtain ⟨v, u, w, rfl, rv, ru, rw'⟩ := rs.three
    cases rv; cases ru; cases rw'
    split at p1
    · rename_i hn
      unfold LN at hn
      obtain ⟨rfl, h1, h2, h3, h4⟩ := hn
      exact ⟨_, _, _, _, rfl, RgC.neg (by omega) (by omega) (by omega) (by omega), p1 S1 ι1 H1 r1 Ext.refl _ (yields_down _ _)⟩
    · exact False.elim p1
  · exact False.elim p1
theorem si_enum (ha : SE K mg W ta da) : SI K mg W (EnT.iEnumA K (tCons ta tNil)) (fun ρ h => (da ρ h).bind fun x h1 => match x with
    | .ref _ => .stuck
    | x => match seqOf h1 x with
      | some (xs, _) => .ok ((List.range xs.length).zipWith (fun k x => .tup [.int (k : Nat), x]) xs) h1
      | none => .stuck) := by
  intro ρ h S ι σ H R' r re hp
  refine ha ρ h S ι σ H _ r re (hp.bind.imp fun x h1 S1 ι1 H1 r1 ex1 p1 v rv => ?_)
  split at p1
  · exact False.elim p1
  · rename_i nr
    split at p1
    · rename_i xs b e1
      obtain ⟨a, vs, rfl, rs, hl, ht⟩ := seq_fix r1 rv (fun n z => nr n z) e1
      cases b with
      | true => exact ⟨a, vs, rfl, .inl ⟨SqL.up r1.sub (hl rfl), p1 S1 ι1 H1 r1 Ext.refl _ (yields_enum (hl rfl) rs)⟩⟩
      | false => exact ⟨a, vs, rfl, .inr ⟨SqT.up r1.sub (ht rfl), p1 S1 ι1 H1 r1 Ext.refl _ (yields_enumT (ht rfl) rs)⟩⟩
    · exact False.elim p1
theorem si_zip (ha : SE K mg W ta da) (hb : SE K mg W tb db) : SI K mg W (RZ.iZipA K (tCons ta (tCons tb tNil))) (fun ρ h => (da ρ h).bind fun x h1 => (db ρ h1).bind fun y h2 => match x, y with
    | .ref _, _ => .stuck
    | _, .ref _ => .stuck
    | x, y => match seqOf h2 x, seqOf h2 y with
      | some (xs, k), some (ys, k') => if k = k' then .ok (xs.zipWith (fun x y => .tup [x, y]) ys) h2 else .stuck
      | _, _ => .stuck) := by
  intro ρ h S ι σ H R' r re hp
  refine ha ρ h S ι σ H _ r re (hp.bind.imp fun x h1 S1 ι1 H1 r1 ex1 p1 v rv => ?_)
  refine hb ρ h1 S1 ι1 σ H1 _ r1 (re.ext ex1) (p1.bind.imp fun y h2 S2 ι2 H2 r2 ex2 p2 u ru => ?_)
  have rv := rv.ext ex2
  split at p2
  · exact False.elim p2
  · exact False.elim p2
  · rename_i nx ny
    split at p2
    · rename_i xs k ys k' e1 e2
      split at p2
      · rename_i ek
        subst ek
        obtain ⟨a, vs, rfl, rs, hl, ht⟩ := seq_fix r2 rv (fun n z => nx n z) e1
        obtain ⟨b, us, rfl, ts, hl2, ht2⟩ := seq_fix r2 ru (fun n z => ny n z) e2
        refine ⟨a, b, vs, us, rfl, ?_⟩
        cases k with
        | true => exact .inl ⟨SqL.up r2.sub (hl rfl), SqL.up r2.sub (hl2 rfl), p2 S2 ι2 H2 r2 Ext.refl _ (yields_zipL (hl rfl) rs (hl2 rfl) ts)⟩
        | false => exact .inr ⟨SqT.up r2.sub (ht rfl), SqT.up r2.sub (ht2 rfl), p2 S2 ι2 H2 r2 Ext.refl _ (yields_zipT (ht rfl) rs (ht2 rfl) ts)⟩
      · exact False.elim p2
    · exact False.elim p2
theorem tups_ok {S : Hp} {ι : List Addr} : ∀ {xs : List D} {vs : List V} {rows : List (List D)}, RVs K S ι xs vs → tupsOf xs = some rows →
    ∃ ls : List Addr, vs = ls.map .ref ∧ ls.length = rows.length ∧ ∀ (k : Nat) (l : Addr) (r : List D), ls[k]? = some l → rows[k]? = some r → ∃ us, SqT K S l us ∧ RVs K S ι r us
  | _, _, _, .nil, e => by
    cases e
    exact ⟨[], rfl, rfl, fun k l r e => by simp at e⟩
  | _, _, rows, @RVs.cons _ _ _ d v ds vs r1 rs, e => by
    have key : ∀ {ys : List D} {rr : List (List D)} {a : Addr} {us : List V}, tupsOf ds = some rr → rows = ys :: rr → v = .ref a → SqT K S a us → RVs K S ι ys us →
        ∃ ls : List Addr, v :: vs = ls.map .ref ∧ ls.length = rows.length ∧ ∀ (k : Nat) (l : Addr) (r : List D), ls[k]? = some l → rows[k]? = some r → ∃ us, SqT K S l us ∧ RVs K S ι r us := by
      intro ys rr a us e1 e2 e3 h1 h2
      subst e2 e3
      obtain ⟨ls, rfl, q1, q2⟩ := tups_ok rs e1
      refine ⟨a :: ls, rfl, by rw [List.length_cons, List.length_cons, q1], fun k l r el er => ?_⟩
      cases k with
      | zero => simp at el er; subst el er; exact ⟨us, h1, h2⟩
      | succ k => simp at el er; exact q2 k l r el er
    cases r1 with
    | tup e1 r2 =>
      replace e : (tupsOf ds).map (_ :: ·) = some rows := e
      cases q : tupsOf ds with
      | none => rw [q] at e; cases e
      | some rr => rw [q] at e; cases e; exact key q rfl rfl (SqT.of e1) r2
    | vt e1 _ r2 =>
      replace e : (tupsOf ds).map (_ :: ·) = some rows := e
      cases q : tupsOf ds with
      | none => rw [q] at e; cases e
      | some rr => rw [q] at e; cases e; exact key q rfl rfl (vtT e1) r2
    | _ => cases e
theorem _root_.ZSt.SqK.up {κ : Addr → Bool} {K : PySem.W.Frag} {S S' : Hp} (h : Sub S S') {a : Addr} {vs : List V} (e : ZSt.SqK κ K S a vs) : ZSt.SqK κ K S' a vs := by
  unfold ZSt.SqK at *
  by_cases q : κ a = true
  · rw [if_pos q] at *
    exact SqL.up h e
  · rw [if_neg q] at *
    exact SqT.up h e
/-- the columns of rows of one length, as they come -/
theorem col_vals {κ : Addr → Bool} {S : Hp} {ι : List Addr} {i : Nat} : ∀ {ls : List Addr} {rows : List (List D)} {col : List V}, ls.length = rows.length → col.length = ls.length → (∀ r ∈ rows, i < r.length) →
    (∀ (k : Nat) (l : Addr) (r : List D), ls[k]? = some l → rows[k]? = some r → ∃ us, ZSt.SqK κ K S l us ∧ RVs K S ι r us) → (∀ (k : Nat) (l : Addr) (xs : List V), ls[k]? = some l → ZSt.SqK κ K S l xs → ∃ x, col[k]? = some x ∧ xs[i]? = some x) →
    RVs K S ι (rows.map fun x => x.getD i .non) col
  | [], [], [], _, _, _, _, _ => .nil
  | [], [], _ :: _, _, h, _, _, _ => by simp at h
  | [], _ :: _, _, h, _, _, _, _ => by simp at h
  | _ :: _, [], _, h, _, _, _, _ => by simp at h
  | _ :: _, _ :: _, [], _, h, _, _, _ => by simp at h
  | l :: ls, r :: rows, x :: col, h1, h2, h3, h4, h5 => by
    obtain ⟨us, q1, q2⟩ := h4 0 l r rfl rfl
    obtain ⟨x', e1, e2⟩ := h5 0 l us rfl q1
    simp at e1
    subst e1
    have hi := h3 r List.mem_cons_self
    obtain ⟨v, ev, rv⟩ := q2.get (List.getElem?_eq_getElem hi)
    rw [e2] at ev
    cases ev
    rw [List.map_cons]
    refine .cons ?_ (col_vals (by simpa using h1) (by simpa using h2) (fun r hr => h3 r (List.mem_cons_of_mem _ hr)) (fun k l r a b => h4 (k + 1) l r (by simpa using a) (by simpa using b)) fun k l xs a b => ?_)
    · rw [List.getD_eq_getElem?_getD, List.getElem?_eq_getElem hi]; exact rv
    · obtain ⟨x, z1, z2⟩ := h5 (k + 1) l xs (by simpa using a) b
      exact ⟨x, by simpa using z1, z2⟩
theorem cols_at {rows cols : List (List D)} : True := trivial
theorem yields_zipS {κ : Addr → Bool} {S : Hp} {ι : List Addr} {ls : List Addr} {rows : List (List D)} {ys : List D} (hl : ls.length = rows.length) (hr : ∀ (k : Nat) (l : Addr) (r : List D), ls[k]? = some l → rows[k]? = some r → ∃ us, ZSt.SqK κ K S l us ∧ RVs K S ι r us)
    (e : colsD rows = some ys) : Yields K (ZSt.ItS κ K ls) ys S ι ∧ 0 < ls.length ∧ ls.length ≤ 13 := by
  cases rows with
  | nil => cases e
  | cons r0 rs =>
    replace e : (if rs.all (fun x => x.length == r0.length) && decide ((r0 :: rs).length ≤ 13) then some ((List.range r0.length).map fun j => D.tup ((r0 :: rs).map fun x => x.getD j .non)) else none) = some ys := e
    split at e
    · rename_i hc
      cases e
      rw [Bool.and_eq_true, List.all_eq_true, decide_eq_true_eq] at hc
      have hlen : ∀ r ∈ r0 :: rs, r.length = r0.length := fun r hm => by
        rcases List.mem_cons.mp hm with rfl | hm
        · rfl
        · have := hc.1 r hm
          simpa using this
      refine ⟨fun i S1 ι1 h1 H1 hs hi hr1 => ⟨fun z => ?_, fun d ed => ?_⟩, by rw [hl]; simp, by rw [hl]; exact hc.2⟩
      · have hk : 0 < ls.length := by rw [hl]; simp
        obtain ⟨us, q1, q2⟩ := hr 0 ls[0] r0 (List.getElem?_eq_getElem hk) rfl
        refine ⟨ls[0], us, List.getElem?_eq_getElem hk, ZSt.SqK.up hr1.sub (ZSt.SqK.up hs q1), ?_⟩
        rw [← q2.length]
        simpa using z
      · rw [List.getElem?_map] at ed
        have hlt : i < r0.length := by
          by_cases k : i < r0.length
          · exact k
          · rw [List.getElem?_eq_none (by simpa using k)] at ed; cases ed
        rw [List.getElem?_range hlt] at ed
        cases ed
        have ex : ∀ (k : Nat) (l : Addr), ls[k]? = some l → ∃ us v, ZSt.SqK κ K S l us ∧ us[i]? = some v := fun k l hk => by
          have hkl : k < (r0 :: rs).length := by rw [← hl]; exact (List.getElem?_eq_some_iff.mp hk).1
          obtain ⟨us, q1, q2⟩ := hr k l _ hk (List.getElem?_eq_getElem hkl)
          have hi2 : i < ((r0 :: rs)[k]).length := by rw [hlen _ (List.getElem_mem hkl)]; exact hlt
          obtain ⟨v, ev, _⟩ := q2.get (List.getElem?_eq_getElem hi2)
          exact ⟨us, v, q1, ev⟩
        refine ⟨?_, fun x H' yl => ?_⟩
        · have : ∀ (ls : List Addr), (∀ (k : Nat) (l : Addr), ls[k]? = some l → ∃ us v, ZSt.SqK κ K S l us ∧ us[i]? = some v) → ∃ col : List V, col.length = ls.length ∧ ∀ (k : Nat) (l : Addr), ls[k]? = some l → ∃ (xs : List V) (x : V), ZSt.SqK κ K H1 l xs ∧ col[k]? = some x ∧ xs[i]? = some x := by
            intro ls
            induction ls with
            | nil => exact fun _ => ⟨[], rfl, fun k l e => by simp at e⟩
            | cons l ls ih =>
              intro hx
              obtain ⟨col, c1, c2⟩ := ih fun k m e => hx (k + 1) m (by simpa using e)
              obtain ⟨us, v, q1, q2⟩ := hx 0 l rfl
              refine ⟨v :: col, by rw [List.length_cons, List.length_cons, c1], fun k m e => ?_⟩
              cases k with
              | zero => simp at e; subst e; exact ⟨us, v, ZSt.SqK.up hr1.sub (ZSt.SqK.up hs q1), rfl, q2⟩
              | succ k => simp at e; simpa using c2 k m e
          exact this ls ex
        · obtain ⟨T, col, rfl, hT, rfl, hcl, hcol⟩ := yl
          have rc : RVs K S1 ι1 ((r0 :: rs).map fun x => x.getD i .non) col := by
            refine col_vals hl hcl (fun r hm => by rw [hlen r hm]; exact hlt) (fun k l r a b => ?_) fun k l xs a b => hcol k l xs a (ZSt.SqK.up hr1.sub b)
            obtain ⟨us, q1, q2⟩ := hr k l r a b
            exact ⟨us, ZSt.SqK.up hs q1, q2.up hs hi⟩
          have ex1 := Ext.fz (o := .tup col) hr1 hT
          exact ⟨_, hr1.fz hT, ex1, .tup upd_same (rc.ext ex1)⟩
    · cases e
theorem si_zipS (ha : SE K mg W ta da) : SI K mg W (ZSt.iZipS K ta) (fun ρ h => (da ρ h).bind fun x h1 => match x with
    | .ref _ => .stuck
    | x => match seqOf h1 x with
      | some (xs, _) => (match (tupsOf xs).bind colsD with
        | some ys => .ok ys h1
        | none => .stuck)
      | none => .stuck) := by
  intro ρ h S ι σ H R' r re hp
  refine ha ρ h S ι σ H _ r re (hp.bind.imp fun x h1 S1 ι1 H1 r1 ex1 p1 v rv => ?_)
  split at p1
  · exact False.elim p1
  · rename_i nr
    split at p1
    · rename_i xs b e1
      split at p1
      · rename_i ys e2
        obtain ⟨a, vs, rfl, rs, hl, ht⟩ := seq_fix r1 rv (fun n z => nr n z) e1
        cases q : tupsOf xs with
        | none => rw [q] at e2; cases e2
        | some rows =>
          rw [q] at e2
          obtain ⟨ls, rfl, q1, q2⟩ := tups_ok rs q
          obtain ⟨hy, hn, h13⟩ := yields_zipS (κ := fun _ => false) q1 (fun k l r a b => let ⟨us, z1, z2⟩ := q2 k l r a b; ⟨us, z1, z2⟩) e2
          refine ⟨a, ls, rfl, ?_, hn, h13, fun l hm => ?_, p1 S1 ι1 H1 r1 Ext.refl _ hy⟩
          · cases b with
            | true => exact .inr (SqL.up r1.sub (hl rfl))
            | false => exact .inl (SqT.up r1.sub (ht rfl))
          · obtain ⟨k, hk⟩ := List.mem_iff_getElem?.mp hm
            have hkl : k < rows.length := by rw [← q1]; exact (List.getElem?_eq_some_iff.mp hk).1
            obtain ⟨us, z1, _⟩ := q2 k l _ hk (List.getElem?_eq_getElem hkl)
            exact ⟨us, SqT.up r1.sub z1⟩
      · exact False.elim p1
    · exact False.elim p1
theorem si_zipM (ha : SE K mg W ta da) (hb : SE K mg W tb db) : SI K mg W (ZSt.iZipM K (tCons ta (tCons tb tNil))) (fun ρ h => (da ρ h).bind fun x h1 => (db ρ h1).bind fun y h2 => match x, y with
    | .ref _, _ => .stuck
    | _, .ref _ => .stuck
    | x, y => match seqOf h2 x, seqOf h2 y with
      | some (xs, _), some (ys, _) => if xs.length = ys.length then .ok ((List.range xs.length).map fun j => .tup [xs.getD j .non, ys.getD j .non]) h2 else .stuck
      | _, _ => .stuck) := by
  intro ρ h S ι σ H R' r re hp
  refine ha ρ h S ι σ H _ r re (hp.bind.imp fun x h1 S1 ι1 H1 r1 ex1 p1 v rv => ?_)
  refine hb ρ h1 S1 ι1 σ H1 _ r1 (re.ext ex1) (p1.bind.imp fun y h2 S2 ι2 H2 r2 ex2 p2 u ru => ?_)
  have rv := rv.ext ex2
  split at p2
  · exact False.elim p2
  · exact False.elim p2
  · rename_i nx ny
    split at p2
    · rename_i xs k ys k' e1 e2
      split at p2
      · rename_i el
        obtain ⟨a, vs, rfl, rs, hl, ht⟩ := seq_fix r2 rv (fun n z => nx n z) e1
        obtain ⟨b, us, rfl, ts, hl2, ht2⟩ := seq_fix r2 ru (fun n z => ny n z) e2
        refine ⟨a, b, vs, us, k, k', rfl, ?_, ?_, fun κ κa κb => ?_⟩
        · unfold ZSt.Kd
          cases k with
          | true => exact SqL.up r2.sub (hl rfl)
          | false => exact SqT.up r2.sub (ht rfl)
        · unfold ZSt.Kd
          cases k' with
          | true => exact SqL.up r2.sub (hl2 rfl)
          | false => exact SqT.up r2.sub (ht2 rfl)
        · have ka : ZSt.SqK κ K S2 a vs := by
            unfold ZSt.SqK; rw [κa]
            cases k with
            | true => exact hl rfl
            | false => exact ht rfl
          have kb : ZSt.SqK κ K S2 b us := by
            unfold ZSt.SqK; rw [κb]
            cases k' with
            | true => exact hl2 rfl
            | false => exact ht2 rfl
          have ec : colsD [xs, ys] = some ((List.range xs.length).map fun j => .tup [xs.getD j .non, ys.getD j .non]) := by
            show (if [ys].all (fun x => x.length == xs.length) && decide ([xs, ys].length ≤ 13) then some ((List.range xs.length).map fun j => D.tup ([xs, ys].map fun x => x.getD j .non)) else none) = _
            rw [if_pos (by simp [el])]; rfl
          obtain ⟨hy, _, _⟩ := yields_zipS (κ := κ) (K := K) (S := S2) (ι := ι2) (ls := [a, b]) (rows := [xs, ys]) rfl (fun k l r hk hr => by
            match k with
            | 0 => cases hk; cases hr; exact ⟨vs, ka, rs⟩
            | 1 => cases hk; cases hr; exact ⟨us, kb, ts⟩
            | k + 2 => simp at hk) ec
          exact p2 S2 ι2 H2 r2 Ext.refl _ hy
      · exact False.elim p2
    · exact False.elim p2
theorem enumF_at (k : Nat) (xs : List D) (i : Nat) : ((List.range xs.length).zipWith (fun j x => D.tup [.int ((k + j : Nat) : Int), x]) xs)[i]? = (xs[i]?).map fun x => D.tup [.int ((k + i : Nat) : Int), x] := by
  rw [List.getElem?_zipWith]
  by_cases q : i < xs.length
  · rw [List.getElem?_range q, List.getElem?_eq_getElem q]; rfl
  · rw [List.getElem?_eq_none (by simpa using q), List.getElem?_eq_none (l := xs) (by omega)]; rfl
theorem yields_enumF {S : Hp} {ι : List Addr} {a : Addr} {k : Nat} {xs : List D} {vs : List V} (e : SqL K S a vs) (r : RVs K S ι xs vs) : Yields K (EnF.IteF K a k) ((List.range xs.length).zipWith (fun j x => D.tup [.int ((k + j : Nat) : Int), x]) xs) S ι := by
  intro i S1 ι1 h1 H1 hs hi hr
  have e1 : SqL K H1 a vs := SqL.up hr.sub (SqL.up hs e)
  refine ⟨fun z => ⟨vs, e1, by rw [← r.length]; simpa using z⟩, fun d ed => ?_⟩
  rw [enumF_at] at ed
  cases q : xs[i]? with
  | none => rw [q] at ed; cases ed
  | some x =>
    rw [q] at ed; cases ed
    obtain ⟨v, ev, rv⟩ := r.get q
    refine ⟨⟨vs, v, e1, ev⟩, fun y H' yl => ?_⟩
    obtain ⟨T, x', rfl, hT, rfl, y⟩ := yl
    have := y vs e1
    rw [ev] at this; cases this
    have ex := Ext.fz (o := .tup [.int ((k + i : Nat) : Int), v]) hr hT
    exact ⟨_, hr.fz hT, ex, .tup upd_same (.cons (.int _) (.cons ((rv.up hs hi).ext ex) .nil))⟩
theorem si_enumF (k : Nat) (ha : SE K mg W ta da) : SI K mg W (EnF.iEnumF K k (tCons ta (tCons (tC (.int k)) tNil))) (fun ρ h => (da ρ h).bind fun x h1 => match x with
    | .ref _ => .stuck
    | x => match seqOf h1 x with
      | some (xs, true) => .ok ((List.range xs.length).zipWith (fun j x => .tup [.int ((k + j : Nat) : Int), x]) xs) h1
      | _ => .stuck) := by
  intro ρ h S ι σ H R' r re hp
  refine ha ρ h S ι σ H _ r re (hp.bind.imp fun x h1 S1 ι1 H1 r1 ex1 p1 v rv => ?_)
  split at p1
  · exact False.elim p1
  · rename_i nr
    split at p1
    · rename_i xs e1
      obtain ⟨a, vs, rfl, rs, hl, ht⟩ := seq_fix r1 rv (fun n z => nr n z) e1
      exact ⟨a, vs, rfl, SqL.up r1.sub (hl rfl), p1 S1 ι1 H1 r1 Ext.refl _ (yields_enumF (hl rfl) rs)⟩
    · exact False.elim p1
end

theorem PI.weak {T : Type} {F : T → Cx} {tg e : Expr} {K : PySem.W.Frag} {mg : Str → Option Value} {W : WX} {di : Env → Hs → R (List D)} (h : ∀ t, ∃ wi, PI (F t) tg e wi ∧ SI K mg W wi di ∧ ∀ x, foldedSetIterable e (F t).env x = pure x) :
    ∃ wi, (∀ t, PI (F t) tg e wi) ∧ SI K mg W wi di ∧ ∀ t x, foldedSetIterable e (F t).env x = pure x := by
  refine ⟨fun σ H R => ∀ t, ∃ wi, PI (F t) tg e wi ∧ wi σ H R, fun t => ⟨fun pins s σ H R I q => ?_⟩, fun ρ h' S ι σ H R r re hp t => ?_, fun t x => ?_⟩
  · obtain ⟨wi, p, q⟩ := q t
    exact p.run pins s σ H R I q
  · obtain ⟨wi, p, q, _⟩ := h t
    exact ⟨wi, p, q ρ h' S ι σ H R r re hp⟩
  · obtain ⟨_, _, _, q⟩ := h t
    exact q x
/-! ### arity -/
def Exs.n : Exs → Nat
  | .nil => 0
  | .cons _ es => es.n + 1
theorem Exs.den_len (c : Cfg) : ∀ (es : Exs) (ρ : Env) (h : Hs) (ds : List D) (h' : Hs), es.den c ρ h = .ok ds h' → ds.length = es.n
  | .nil, ρ, h, ds, h', e => by
    cases e; rfl
  | .cons a as, ρ, h, ds, h', e => by
    replace e : ((a.den c ρ h).bind fun x h1 => (as.den c ρ h1).bind fun xs h2 => R.ok (x :: xs) h2) = .ok ds h' := e
    cases e1 : a.den c ρ h with
    | ok x h1 =>
      rw [e1] at e
      replace e : ((as.den c ρ h1).bind fun xs h2 => R.ok (x :: xs) h2) = .ok ds h' := e
      cases e2 : as.den c ρ h1 with
      | ok xs h2 =>
        rw [e2] at e
        replace e : R.ok (x :: xs) h2 = .ok ds h' := e
        cases e
        exact congrArg Nat.succ (Exs.den_len c as ρ h1 xs _ e2)
      | exc _ _ _ => rw [e2] at e; cases e
      | stuck => rw [e2] at e; cases e
    | exc _ _ _ => rw [e1] at e; cases e
    | stuck => rw [e1] at e; cases e
theorem Exs.ok_len {N bl fl : List Str} {sc : Scope} : ∀ (es : Exs) (xs : List Expr), es.ok N bl fl sc xs = true → xs.length = es.n
  | .nil, xs, h => by
    unfold Exs.ok at h
    cases xs with
    | nil => rfl
    | cons _ _ => cases h
  | .cons a as, xs, h => by
    unfold Exs.ok at h
    cases xs with
    | nil => cases h
    | cons e r =>
      dsimp only at h
      rw [Bool.and_eq_true] at h
      exact congrArg Nat.succ (Exs.ok_len as r h.2)
def rngD (ds : List D) (h1 : Hs) : R (List D) := match ds with
  | [.int n] => if -(LN : Int) ≤ n ∧ n ≤ (LN : Int) then .ok ((List.range n.toNat).map fun k => .int (k : Nat)) h1 else .stuck
  | [.int a, .int b] => if -(LN : Int) ≤ a ∧ a ≤ (LN : Int) ∧ -(LN : Int) ≤ b ∧ b ≤ (LN : Int) then .ok ((List.range (b - a).toNat).map fun k => .int (a + (k : Nat))) h1 else .stuck
  | [.int a, .int b, .int s] => if s = -1 ∧ -(LN : Int) ≤ a ∧ a ≤ (LN : Int) ∧ -(LN : Int) ≤ b ∧ b ≤ (LN : Int) then .ok ((List.range (a - b).toNat).map fun k => .int (a - (k : Nat))) h1 else .stuck
  | _ => .stuck
theorem bind_congr {α β : Type} {x : R α} {f g : α → Hs → R β} (h : ∀ a h', x = .ok a h' → f a h' = g a h') : x.bind f = x.bind g := by
  cases x with
  | ok a h' => exact h a h' rfl
  | exc _ _ _ => rfl
  | stuck => rfl
section
variable {K : PySem.W.Frag} {mg : Str → Option Value} {W : WX} {tl : TA} {dl : Env → Hs → R (List D)}
theorem si_rng1 (hl : SA K mg W tl dl) (hn : ∀ ρ h ds h', dl ρ h = .ok ds h' → ds.length = 1) : SI K mg W (iRng1 tl) (fun ρ h => (dl ρ h).bind rngD) := by
  have e : (fun ρ h => (dl ρ h).bind rngD) = fun ρ h => (dl ρ h).bind fun ds h1 => match ds with
    | [.int n] => if -(LN : Int) ≤ n ∧ n ≤ (LN : Int) then .ok ((List.range n.toNat).map fun k => .int (k : Nat)) h1 else .stuck
    | _ => .stuck := by
    funext ρ h
    refine bind_congr fun ds h' e => ?_
    have := hn ρ h ds h' e
    match ds, this with
    | [d], _ => cases d <;> rfl
  rw [e]; exact si_range1 hl
theorem si_rng2 (hl : SA K mg W tl dl) (hn : ∀ ρ h ds h', dl ρ h = .ok ds h' → ds.length = 2) : SI K mg W (iRng2 tl) (fun ρ h => (dl ρ h).bind rngD) := by
  have e : (fun ρ h => (dl ρ h).bind rngD) = fun ρ h => (dl ρ h).bind fun ds h1 => match ds with
    | [.int a, .int b] => if -(LN : Int) ≤ a ∧ a ≤ (LN : Int) ∧ -(LN : Int) ≤ b ∧ b ≤ (LN : Int) then .ok ((List.range (b - a).toNat).map fun k => .int (a + (k : Nat))) h1 else .stuck
    | _ => .stuck := by
    funext ρ h
    refine bind_congr fun ds h' e => ?_
    have := hn ρ h ds h' e
    match ds, this with
    | [d, e], _ => cases d <;> cases e <;> rfl
  rw [e]; exact si_range2 hl
theorem si_rng3 (hl : SA K mg W tl dl) (hn : ∀ ρ h ds h', dl ρ h = .ok ds h' → ds.length = 3) : SI K mg W (iRng3 tl) (fun ρ h => (dl ρ h).bind rngD) := by
  have e : (fun ρ h => (dl ρ h).bind rngD) = fun ρ h => (dl ρ h).bind fun ds h1 => match ds with
    | [.int a, .int b, .int s] => if s = -1 ∧ -(LN : Int) ≤ a ∧ a ≤ (LN : Int) ∧ -(LN : Int) ≤ b ∧ b ≤ (LN : Int) then .ok ((List.range (a - b).toNat).map fun k => .int (a - (k : Nat))) h1 else .stuck
    | _ => .stuck := by
    funext ρ h
    refine bind_congr fun ds h' e => ?_
    have := hn ρ h ds h' e
    match ds, this with
    | [d, e, f], _ => cases d <;> cases e <;> cases f <;> rfl
  rw [e]; exact si_range3 hl
end
theorem cmpD_bl {o : COp} {x y : D} {h : Hs} {z : D} {h' : Hs} (e : cmpD o x y h = .ok z h') : ∃ b, z = .bl b := by
  unfold cmpD at e
  cases o <;> dsimp only at e
  all_goals first
    | (cases q : cmpD.inD x y h with
       | ok a h1 =>
         rw [q, R.bind_ok] at e
         cases a <;> first | (cases e; exact ⟨_, rfl⟩) | cases e
       | exc _ _ _ => rw [q] at e; cases e
       | stuck => rw [q] at e; cases e)
    | ((repeat' split at e) <;> first | (cases e; exact ⟨_, rfl⟩) | cases e)
theorem bind_ok {α β : Type} {x : R α} {f : α → Hs → R β} {b : β} {h : Hs} (e : x.bind f = .ok b h) : ∃ a h1, x = .ok a h1 ∧ f a h1 = .ok b h := by
  cases x with
  | ok a h1 => exact ⟨a, h1, rfl, e⟩
  | exc _ _ _ => cases e
  | stuck => cases e
end
end Ev
/-! Ev, part Jz: enumerate(zip(a, b)): what it yields. -/
namespace Ev
open PySem PySem.Spec PyProof.Rows L2
section
variable {K : PySem.W.Frag} {mg : Str → Option Value} {W : WX} {ta tb : TE} {da db : Env → Hs → R D}
theorem enumZ_at (xs : List D) (i : Nat) : ((List.range xs.length).zipWith (fun (k : Nat) x => D.tup [.int (k : Nat), x]) xs)[i]? = (xs[i]?).map fun x => D.tup [.int (i : Nat), x] := by
  rw [List.getElem?_zipWith]
  by_cases q : i < xs.length
  · rw [List.getElem?_range q, List.getElem?_eq_getElem q]; rfl
  · rw [List.getElem?_eq_none (by simpa using q), List.getElem?_eq_none (l := xs) (by omega)]; rfl
theorem yields_enumZ {κ : Addr → Bool} {S : Hp} {ι : List Addr} {ls : List Addr} {ys : List D} (y : Yields K (ZSt.ItS κ K ls) ys S ι) :
    Yields K (ZSt.ItE κ K ls) ((List.range ys.length).zipWith (fun (k : Nat) x => D.tup [.int (k : Nat), x]) ys) S ι := by
  intro i S1 ι1 h1 H1 hs hi hr
  obtain ⟨y1, y2⟩ := y i S1 ι1 h1 H1 hs hi hr
  refine ⟨fun z => y1 (by simpa using z), fun d ed => ?_⟩
  rw [enumZ_at] at ed
  cases q : ys[i]? with
  | none => rw [q] at ed; cases ed
  | some x =>
    rw [q] at ed; cases ed
    obtain ⟨g, yy⟩ := y2 x q
    refine ⟨g, fun v H' yl => ?_⟩
    obtain ⟨T, U, col, rfl, hT, hU, ne, rfl, hcl, hcol⟩ := yl
    obtain ⟨S2, hr2, ex, rv⟩ := yy (.ref T) (upd H1 T (.tup col)) ⟨T, col, rfl, hT, rfl, hcl, hcol⟩
    have hU2 : upd H1 T (.tup col) U = none := by rw [upd_ne (Ne.symm ne)]; exact hU
    have ex2 := Ext.fz (o := .tup [.int (i : Nat), .ref T]) hr2 hU2
    exact ⟨_, hr2.fz hU2, ex.trans ex2, .tup upd_same (.cons (.int _) (.cons (rv.ext ex2) .nil))⟩
theorem si_enumZ (ha : SE K mg W ta da) (hb : SE K mg W tb db) : SI K mg W (ZSt.iEnumZ K (tCons ta (tCons tb tNil))) (fun ρ h => (da ρ h).bind fun x h1 => (db ρ h1).bind fun y h2 => match x, y with
    | .ref _, _ => .stuck
    | _, .ref _ => .stuck
    | x, y => match seqOf h2 x, seqOf h2 y with
      | some (xs, _), some (ys, _) => if xs.length = ys.length then .ok ((List.range xs.length).map fun j => .tup [.int (j : Nat), .tup [xs.getD j .non, ys.getD j .non]]) h2 else .stuck
      | _, _ => .stuck) := by
  intro ρ h S ι σ H R' r re hp
  refine ha ρ h S ι σ H _ r re (hp.bind.imp fun x h1 S1 ι1 H1 r1 ex1 p1 v rv => ?_)
  refine hb ρ h1 S1 ι1 σ H1 _ r1 (re.ext ex1) (p1.bind.imp fun y h2 S2 ι2 H2 r2 ex2 p2 u ru => ?_)
  have rv := rv.ext ex2
  split at p2
  · exact False.elim p2
  · exact False.elim p2
  · rename_i nx ny
    split at p2
    · rename_i xs k ys k' e1 e2
      split at p2
      · rename_i el
        obtain ⟨a, vs, rfl, rs, hl, ht⟩ := seq_fix r2 rv (fun n z => nx n z) e1
        obtain ⟨b, us, rfl, ts, hl2, ht2⟩ := seq_fix r2 ru (fun n z => ny n z) e2
        refine ⟨a, b, vs, us, k, k', rfl, ?_, ?_, fun κ κa κb => ?_⟩
        · unfold ZSt.Kd
          cases k with
          | true => exact SqL.up r2.sub (hl rfl)
          | false => exact SqT.up r2.sub (ht rfl)
        · unfold ZSt.Kd
          cases k' with
          | true => exact SqL.up r2.sub (hl2 rfl)
          | false => exact SqT.up r2.sub (ht2 rfl)
        · have ka : ZSt.SqK κ K S2 a vs := by
            unfold ZSt.SqK; rw [κa]
            cases k with
            | true => exact hl rfl
            | false => exact ht rfl
          have kb : ZSt.SqK κ K S2 b us := by
            unfold ZSt.SqK; rw [κb]
            cases k' with
            | true => exact hl2 rfl
            | false => exact ht2 rfl
          have ec : colsD [xs, ys] = some ((List.range xs.length).map fun j => .tup [xs.getD j .non, ys.getD j .non]) := by
            show (if [ys].all (fun x => x.length == xs.length) && decide ([xs, ys].length ≤ 13) then some ((List.range xs.length).map fun j => D.tup ([xs, ys].map fun x => x.getD j .non)) else none) = _
            rw [if_pos (by simp [el])]; rfl
          obtain ⟨hy, _, _⟩ := yields_zipS (κ := κ) (K := K) (S := S2) (ι := ι2) (ls := [a, b]) (rows := [xs, ys]) rfl (fun k l r hk hr => by
            match k with
            | 0 => cases hk; cases hr; exact ⟨vs, ka, rs⟩
            | 1 => cases hk; cases hr; exact ⟨us, kb, ts⟩
            | k + 2 => simp at hk) ec
          have hz := yields_enumZ hy
          have e3 : ((List.range ((List.range xs.length).map fun j => D.tup [xs.getD j .non, ys.getD j .non]).length).zipWith (fun (k : Nat) x => D.tup [.int (k : Nat), x]) ((List.range xs.length).map fun j => D.tup [xs.getD j .non, ys.getD j .non])) =
              (List.range xs.length).map fun j => D.tup [.int (j : Nat), .tup [xs.getD j .non, ys.getD j .non]] := by
            apply List.ext_getElem?
            intro i
            rw [enumZ_at, List.getElem?_map, List.getElem?_map]
            by_cases q : i < xs.length
            · rw [List.getElem?_range q]; rfl
            · rw [List.getElem?_eq_none (by simpa using q)]; rfl
          rw [e3] at hz
          exact p2 S2 ι2 H2 r2 Ext.refl _ hz
      · exact False.elim p2
    · exact False.elim p2
end
end Ev
set_option maxHeartbeats 1000000
/-! Ev, part K: the denotation of expressions is sound: the induction. -/
namespace Ev
open PySem PySem.Spec PyProof.Rows L2

theorem prim_boot (p : Prim) : match p.isTy with | some t => p.val = .type t ∧ bootBuiltins p.nm = some (.type t) | none => ∃ id, p.val = .builtin id ∧ bootBuiltins p.nm = some (.builtin id) := by
  cases p <;> first
    | exact ⟨rfl, by decide +kernel⟩
    | exact ⟨_, rfl, by decide +kernel⟩
    | exact ⟨_, rfl, show bootBuiltins "isinstance" = _ by decide +kernel⟩
theorem prim_name (p : Prim) : p.nm ≠ "__name__" := by
  cases p <;> first | decide | exact show ("isinstance" : Str) ≠ "__name__" by decide
theorem prim_dbg (p : Prim) : (p.nm == ("__debug__" : Str)) = false := by
  cases p <;> first | decide | exact show (("isinstance" : Str) == ("__debug__" : Str)) = false by decide
theorem isa_boot {t : String} (h : t = "tuple" ∨ t = "list" ∨ t = "bool" ∨ t = "int" ∨ t = "str") : bootBuiltins (Str.ofString t) = some (.type t) ∧ Str.ofString t ≠ "__name__" := by
  rcases h with rfl | rfl | rfl | rfl | rfl <;> exact ⟨by decide +kernel, by decide⟩
/-- a built-in called -/
theorem pe_prim {X : Cx} {p : Prim} {x : Str} {px pos : Pos} {e : Expr} {es : List Expr} {tl : TA} {r : List V → Hp → VK → Prop} (hr : CallR X p.val r) (hx : x = p.nm) (hg : Gl X x) (hm : X.mg x = none) (ha : PA X (e :: es) tl) (hs : (e :: es).all notStar = true) :
    PE X (.Call (.Name x px) (e :: es) [] pos) (tCB r tl) := by
  subst hx
  rw [List.all_cons, Bool.and_eq_true] at hs
  have hb := prim_boot p
  cases q : p.isTy with
  | some t =>
    rw [q] at hb
    obtain ⟨e1, e2⟩ := hb
    rw [e1] at hr
    exact pe_callTy hr hg hm e2 ha (prim_name p) (prim_dbg p) (starOf hs.1) (back_of pos es hs.2)
  | none =>
    rw [q] at hb
    obtain ⟨id, e1, e2⟩ := hb
    rw [e1] at hr
    exact pe_callB hr hg hm e2 ha (prim_name p) (prim_dbg p) (starOf hs.1) (back_of pos es hs.2)
theorem ok_stars {N bl fl : List Str} {sc : Scope} : ∀ (es : Exs) (xs : List Expr), es.ok N bl fl sc xs = true → xs.all notStar = true
  | .nil, xs, h => by
    unfold Exs.ok at h
    cases xs with
    | nil => rfl
    | cons _ _ => cases h
  | .cons a as, xs, h => by
    unfold Exs.ok at h
    cases xs with
    | nil => cases h
    | cons e r =>
      dsimp only at h
      rw [Bool.and_eq_true, Bool.and_eq_true] at h
      rw [List.all_cons, Bool.and_eq_true]
      exact ⟨h.1.2, ok_stars as r h.2⟩

theorem base_of {o : Expr} {nm : Str} {env : PySem.Env} {whole : Sem Value} (h : plainB o = true) : attributeBase o nm env whole = whole := by
  unfold attributeBase
  cases o <;> try rfl
  rename_i f args kws pos
  cases f <;> try rfl
  cases args <;> try rfl
  cases kws <;> try rfl
  cases h
theorem few_of {env : PySem.Env} {cpos : Pos} {xs : List Expr} (hs : xs.all notStar = true) (hl : xs.length < 9) : ((backTo cpos (starEach xs env)).all (fun x => !x.1) && (backToKw cpos (keywordEach [] env)).all (fun x => x.1.isSome)
      && decide (xs.length + ([] : List Keyword).length + (if ([] : List Keyword).isEmpty then 0 else 1) < 30)) = true := by
  have h1 : (backTo cpos (starEach xs env)).all (fun x => !x.1) = true := by
    induction xs with
    | nil => rfl
    | cons e es ih =>
      rw [List.all_cons, Bool.and_eq_true] at hs
      rw [starOf hs.1]
      show ((!false) && (backTo cpos (starEach es env)).all (fun x => !x.1)) = true
      rw [ih hs.2 (by simp at hl; omega)]; rfl
  rw [h1]
  simp [backToKw, keywordEach]
  omega
theorem Itx.fset {N bl fl : List Str} {sc : Scope} {tg e : Expr} : ∀ (it : Itx), it.ok N bl fl sc tg e = true → ∀ env x, foldedSetIterable e env x = pure x := by
  intro it h env x
  cases it with
  | seq a =>
    unfold Itx.ok at h
    rw [Bool.and_eq_true] at h
    exact set_of h.2 x
  | _ =>
    unfold Itx.ok at h
    split at h <;> first | rfl | cases h
mutual
theorem Ex.sound {c : Cfg} {bl fl : List Str} : ∀ (ex : Ex) (X : Cx) (W : WX) (G : Good c bl fl X) (tk : Takes X W) (e : Expr), ex.ok X.N bl fl X.env.scope e = true → ∃ t, PE X e t ∧ SE X.K X.mg W t (ex.den c)
  | .var i, X, W, G, tk, e, h => by
    unfold Ex.ok at h
    split at h
    · simp only [Bool.and_eq_true, decide_eq_true_eq] at h
      exact ⟨_, pe_var h.1.1 (vis_of h.1.2) (dbg1 h.2) (dbg2 h.2), se_var i⟩
    · cases h
  | .glob y, X, W, G, tk, e, h => by
    unfold Ex.ok at h
    split at h
    · simp only [Bool.and_eq_true, decide_eq_true_eq] at h
      obtain ⟨⟨rfl, h2⟩, h3⟩ := h
      rename_i x _
      cases q : c.gl x with
      | none =>
        refine ⟨fun _ _ _ => False, ⟨fun _ _ _ _ _ _ z => False.elim z⟩, ?_⟩
        have : (Ex.glob x).den c = fun _ _ => .stuck := by funext ρ h; show (match c.gl x with | some d => R.ok d h | none => R.stuck) = _; rw [q]
        rw [this]; exact se_stuck
      | some d =>
        obtain ⟨v, u, h4, h5, h6⟩ := G.gl x d q
        refine ⟨_, pe_glob (gl_of h2) h4 h5 (dbg1 h3), ?_⟩
        have : (Ex.glob x).den c = fun _ h => .ok d h := by funext ρ h; show (match c.gl x with | some d => R.ok d h | none => R.stuck) = _; rw [q]
        rw [this]; exact se_const h6
    · cases h
  | .cint i, X, W, G, tk, e, h => by
    unfold Ex.ok at h
    split at h
    · have := of_decide_eq_true h; subst this
      exact ⟨_, pe_int, se_const fun _ _ => .int _⟩
    · cases h
  | .cbl b, X, W, G, tk, e, h => by
    unfold Ex.ok at h
    split at h
    · have := of_decide_eq_true h; subst this
      exact ⟨_, pe_bl, se_const fun _ _ => .bl _⟩
    · cases h
  | .cnon, X, W, G, tk, e, h => by
    unfold Ex.ok at h
    split at h
    · exact ⟨_, pe_non, se_const fun _ _ => .non⟩
    · cases h
  | .cstr s, X, W, G, tk, e, h => by
    unfold Ex.ok at h
    split at h
    · have := of_decide_eq_true h; subst this
      exact ⟨_, pe_str, se_const fun _ _ => .str _⟩
    · cases h
  | .bin o fz a b, X, W, G, tk, e, h => by
    unfold Ex.ok at h
    split at h
    · simp only [Bool.and_eq_true, decide_eq_true_eq] at h
      obtain ⟨⟨rfl, h2⟩, h3⟩ := h
      obtain ⟨ta, p1, q1⟩ := Ex.sound a X W G tk _ h2
      obtain ⟨tb, p2, q2⟩ := Ex.sound b X W G tk _ h3
      exact ⟨_, pe_op (bin_op o) p1 p2, se_bin o fz q1 q2⟩
    · cases h
  | .neg a, X, W, G, tk, e, h => by
    unfold Ex.ok at h
    split at h
    · obtain ⟨ta, p1, q1⟩ := Ex.sound a X W G tk _ h
      exact ⟨_, pe_un un_neg p1, se_neg q1⟩
    · cases h
  | .cmp o a b, X, W, G, tk, e, h => by
    unfold Ex.ok at h
    split at h
    · simp only [Bool.and_eq_true, decide_eq_true_eq, Bool.not_eq_true'] at h
      obtain ⟨⟨⟨rfl, h2⟩, h3⟩, h4⟩ := h
      obtain ⟨ta, p1, q1⟩ := Ex.sound a X W G tk _ h2
      obtain ⟨tb, p2, q2⟩ := Ex.sound b X W G tk _ h3
      exact ⟨_, pe_cmpR (cmp_op G.un o) p1 p2 h4, se_cmp o q1 q2⟩
    · cases h
  | .chain o o' a b d, X, W, G, tk, e, h => by
    unfold Ex.ok at h
    split at h
    · simp only [Bool.and_eq_true, decide_eq_true_eq, Bool.not_eq_true'] at h
      obtain ⟨⟨⟨⟨⟨rfl, rfl⟩, h2⟩, h3⟩, h4⟩, h5⟩ := h
      obtain ⟨ta, p1, q1⟩ := Ex.sound a X W G tk _ h2
      obtain ⟨tb, p2, q2⟩ := Ex.sound b X W G tk _ h3
      obtain ⟨td, p3, q3⟩ := Ex.sound d X W G tk _ h4
      exact ⟨_, pe_chain (cmp_op G.un o) (cmp_op G.un o') p1 p2 p3 h5, se_chain o o' q1 q2 q3⟩
    · cases h
  | .and a b, X, W, G, tk, e, h => by
    unfold Ex.ok at h
    split at h
    · rw [Bool.and_eq_true] at h
      obtain ⟨h1, h2⟩ := h
      obtain ⟨ta, p1, q1⟩ := Ex.sound a X W G tk _ h1
      split at h2
      · obtain ⟨tb, p2, q2⟩ := Ex.sound b X W G tk _ h2
        exact ⟨_, pe_and p1 (pe_one p2), se_and q1 q2⟩
      · obtain ⟨tb, p2, q2⟩ := Ex.sound b X W G tk _ h2
        exact ⟨_, pe_and p1 p2, se_and q1 q2⟩
    · cases h
  | .or a b, X, W, G, tk, e, h => by
    unfold Ex.ok at h
    split at h
    · rw [Bool.and_eq_true] at h
      obtain ⟨h1, h2⟩ := h
      obtain ⟨ta, p1, q1⟩ := Ex.sound a X W G tk _ h1
      split at h2
      · obtain ⟨tb, p2, q2⟩ := Ex.sound b X W G tk _ h2
        exact ⟨_, pe_or p1 (pe_one p2), se_or q1 q2⟩
      · obtain ⟨tb, p2, q2⟩ := Ex.sound b X W G tk _ h2
        exact ⟨_, pe_or p1 p2, se_or q1 q2⟩
    · cases h
  | .not a, X, W, G, tk, e, h => by
    unfold Ex.ok at h
    split at h
    · obtain ⟨ta, p1, q1⟩ := Ex.sound a X W G tk _ h
      exact ⟨_, pe_not p1, se_not q1⟩
    · cases h
  | .ite t a b, X, W, G, tk, e, h => by
    unfold Ex.ok at h
    split at h
    · simp only [Bool.and_eq_true] at h
      obtain ⟨⟨h1, h2⟩, h3⟩ := h
      obtain ⟨tt, p0, _, q0⟩ := Ex.soundT t X W G tk _ h1
      obtain ⟨ta, p1, q1⟩ := Ex.sound a X W G tk _ h2
      obtain ⟨tb, p2, q2⟩ := Ex.sound b X W G tk _ h3
      exact ⟨_, pe_ifExp p0 p1 p2, se_ite q0 q1 q2⟩
    · cases h
  | .tup es, X, W, G, tk, e, h => by
    unfold Ex.ok at h
    split at h
    · obtain ⟨tl, p1, q1⟩ := Exs.sound es X W G tk _ h
      exact ⟨_, pe_tup p1, se_tup q1⟩
    · cases h
  | .lst fz es, X, W, G, tk, e, h => by
    unfold Ex.ok at h
    split at h
    · obtain ⟨tl, p1, q1⟩ := Exs.sound es X W G tk _ h
      exact ⟨_, pe_lst p1, se_lst fz q1⟩
    · cases h
  | .idx a i, X, W, G, tk, e, h => by
    unfold Ex.ok at h
    split at h
    · simp only [Bool.and_eq_true] at h
      obtain ⟨⟨h1, h2⟩, h3⟩ := h
      obtain ⟨ta, p1, q1⟩ := Ex.sound a X W G tk _ h1
      obtain ⟨tb, p2, q2⟩ := Ex.sound i X W G tk _ h2
      exact ⟨_, pe_ix (idx_ix (by have := G.un; omega)) p1 p2 (ix_of h3), se_idx q1 q2⟩
    · cases h
  | .slice fz a lo hi, X, W, G, tk, e, h => by
    unfold Ex.ok at h
    split at h
    · simp only [Bool.and_eq_true] at h
      obtain ⟨⟨h1, h2⟩, h3⟩ := h
      obtain ⟨ta, p1, q1⟩ := Ex.sound a X W G tk _ h1
      obtain ⟨tl, p2, q2⟩ := Exs.soundO lo X W G tk _ h2
      obtain ⟨th, p3, q3⟩ := Exs.soundO hi X W G tk _ h3
      exact ⟨_, pe_slice sl_all p1 p2 p3, se_slice fz q1 q2 q3⟩
    · cases h
  | .call f es, X, W, G, tk, e, h => by
    unfold Ex.ok at h
    split at h
    · simp only [Bool.and_eq_true, decide_eq_true_eq] at h
      obtain ⟨⟨⟨⟨h1, h2⟩, h3⟩, h4⟩, h5⟩ := h
      rename_i x _ xs _
      obtain ⟨a, fd, ps, k, F, hst, hr, hm, hk, hb⟩ := G.fns f x h1
      obtain ⟨tl, p1, q1⟩ := Exs.sound es X W G tk _ h4
      have hs := ok_stars es xs h4
      cases xs with
      | nil => cases h5
      | cons e0 r0 =>
        rw [List.all_cons, Bool.and_eq_true] at hs
        exact ⟨_, pe_callG F hr G.gd (gl_of h2) hm hk hb (fun σ => passAt tk σ) p1 (dbg1 h3) (starOf hs.1) (back_of _ r0 hs.2), se_call q1 hst⟩
    · cases h
  | .prim p fz es, X, W, G, tk, e, h => by
    unfold Ex.ok at h
    split at h
    · simp only [Bool.and_eq_true, decide_eq_true_eq] at h
      obtain ⟨⟨⟨⟨h0, h1⟩, h2⟩, h3⟩, h4⟩ := h
      split at h4
      · rename_i t
        split at h4
        · rename_i a y z pz
          simp only [Bool.and_eq_true, decide_eq_true_eq] at h4
          obtain ⟨⟨⟨⟨⟨⟨k0, k1⟩, k2⟩, k3⟩, k4⟩, k5⟩, k6⟩ := h4
          obtain ⟨ta, p1, q1⟩ := Ex.sound a X W G tk _ k1
          have ht : t = "tuple" ∨ t = "list" ∨ t = "bool" ∨ t = "int" ∨ t = "str" := by
            simp only [Bool.or_eq_true, beq_iff_eq] at k0
            rcases k0 with (((k | k) | k) | k) | k
            · exact .inl k
            · exact .inr (.inl k)
            · exact .inr (.inr (.inl k))
            · exact .inr (.inr (.inr (.inl k)))
            · exact .inr (.inr (.inr (.inr k)))
          obtain ⟨b1, b2⟩ := isa_boot ht
          have pz' : PE X (.Name z pz) (tC (.ty t)) := pe_bltn (gl_of k5) (G.blt z k4) (by rw [k3]; exact b1) rfl (by rw [k3]; exact b2) (dbg1 k6)
          have pa : PA X [y, .Name z pz] (tCons ta (tCons (tC (.ty t)) tNil)) := pa_cons p1 (pa_cons pz' pa_nil) (starOf k2)
          exact ⟨_, pe_prim (p := .isinst t) call_isi h0 (gl_of h2) (G.blt _ h1) pa (by rw [List.all_cons, k2]; rfl), se_isinst q1⟩
        · cases h4
      · rename_i np
        simp only [Bool.and_eq_true] at h4
        obtain ⟨tl, p1, q1⟩ := Exs.sound es X W G tk _ h4.1
        rename_i xs _ _
        have hs := ok_stars es _ h4.1
        cases xs with
        | nil => cases h4.2
        | cons e0 r0 => exact ⟨_, pe_prim (prim_call G.calm G.gd G.un p) h0 (gl_of h2) (G.blt _ h1) p1 hs, se_prim (fun t z => np t z) q1⟩
    · cases h
  | .lrange fz a, X, W, G, tk, e, h => by
    unfold Ex.ok at h
    split at h
    · simp only [Bool.and_eq_true, decide_eq_true_eq] at h
      obtain ⟨⟨⟨⟨⟨⟨⟨rfl, rfl⟩, h2⟩, h3⟩, h4⟩, h5⟩, h6⟩, h7⟩ := h
      obtain ⟨ta, p1, q1⟩ := Ex.sound a X W G tk _ h6
      exact ⟨_, pe_listRg G.calm (gl_of h4) (G.blt _ h2) (prg_1 (gl_of h5) (G.blt _ h3) p1 (star1 h7)), se_lrange fz q1⟩
    · cases h
  | .lc fz own tg it cond elt, X, W, G, tk, e, h => by
    unfold Ex.ok at h
    split at h
    · simp only [Bool.and_eq_true, decide_eq_true_eq] at h
      obtain ⟨⟨⟨⟨⟨rfl, h1⟩, h2⟩, h3⟩, h4⟩, h5⟩ := h
      rename_i x t i ifs scope pos
      have hk : BlkOk X.N X.env.scope scope own := blkOk_by h2
      obtain ⟨wi, p1, q1, s1⟩ := Itx.sound it X W G tk t i h1
      have GB : ∀ z : Shared × Hp × Addr × List (Str × Addr) × List Addr, Good c bl fl (X.blk z.1 z.2.1 scope (compEnvC scope z.2.2.2.1 z.2.2.1 X.env) z.2.2.2.2) := fun z => G.blk hk.kind
      obtain ⟨te, p5, q5⟩ := PE.weak (T := Shared × Hp × Addr × List (Str × Addr) × List Addr) (F := fun z => X.blk z.1 z.2.1 scope (compEnvC scope z.2.2.2.1 z.2.2.1 X.env) z.2.2.2.2) (e := x) (K := X.K) (mg := X.mg) (W := fun _ _ _ _ => False) (de := elt.den c)
        fun z => Ex.sound elt _ (fun _ _ _ _ => False) (GB z) takes0 x h5
      obtain ⟨tt, p4, q4⟩ := PTs.weak (T := Shared × Hp × Addr × List (Str × Addr) × List Addr) (F := fun z => X.blk z.1 z.2.1 scope (compEnvC scope z.2.2.2.1 z.2.2.1 X.env) z.2.2.2.2) (es := ifs) (K := X.K) (mg := X.mg) (W := fun _ _ _ _ => False) (de := cond.tsts c)
        fun z => Exs.soundC cond _ (fun _ _ _ _ => False) (GB z) takes0 ifs h4
      refine ⟨_, pe_lc G.calm G.nd p1 hk (g := tg.g X.K) (fun s H C cl fp => ?_) (fun s H C cl fp => p4 (s, H, C, cl, fp)) (fun s H C cl fp => p5 (s, H, C, cl, fp)) s1, ?_⟩
      · exact Tg.pg (X := X.blk s H scope (compEnvC scope cl C X.env) fp) (vs := List.map Prod.snd own) G.calm G.nd tg t h3
      · exact lc_sound q1 (Tg.sg tg (Tg.plain_of tg t h3)) (own_of h3) q4 q5
    · cases h
  | .freeze a, X, W, G, tk, e, h => by
    unfold Ex.ok at h
    obtain ⟨ta, p1, q1⟩ := Ex.sound a X W G tk _ h
    exact ⟨_, p1, se_freeze q1⟩
  | .rev fz a, X, W, G, tk, e, h => by
    unfold Ex.ok at h
    split at h
    · obtain ⟨ta, p1, q1⟩ := Ex.sound a X W G tk _ h
      exact ⟨_, pe_revL p1, se_rev fz q1⟩
    · cases h
  | .dnew t, X, W, G, tk, e, h => by
    unfold Ex.ok at h
    split at h
    · cases t with
      | true => exact ⟨_, pe_dnewT, se_dnew true⟩
      | false => exact ⟨_, pe_dnewK, se_dnew false⟩
    · cases h
  | .meth m a es, X, W, G, tk, e, h => by
    unfold Ex.ok at h
    split at h
    · simp only [Bool.and_eq_true, decide_eq_true_eq] at h
      obtain ⟨⟨⟨⟨⟨⟨rfl, h0⟩, h1⟩, h2⟩, h3⟩, h4⟩, h5⟩ := h
      obtain ⟨ta, p1, q1⟩ := Ex.sound a X W G tk _ h1
      obtain ⟨tl, p2, q2⟩ := Exs.sound es X W G tk _ h2
      have hs := ok_stars es _ h2
      have hn := Exs.ok_len es _ h2
      rename_i o ap xs cp
      cases xs with
      | nil =>
        cases es with
        | cons _ _ => cases hn
        | nil =>
          cases m with
          | pop => exact ⟨_, pe_bm0 PySem.F.plainAttrs_list PySem.F.slot_list_pop PySem.F.type_list_pop mt_pop p1 (base_of h4) h3, se_meth0 .pop rfl q1⟩
          | _ => cases h0
      | cons x0 r0 =>
        have hs' := hs
        rw [List.all_cons, Bool.and_eq_true] at hs
        cases m with
        | append => exact ⟨_, pe_bm PySem.F.plainAttrs_list PySem.F.slot_list_append PySem.F.type_list_append mt_append p1 p2 (base_of h4) (few_of hs' h5) h3 (starOf hs.1) (back_of _ r0 hs.2), se_meth .append rfl q1 q2⟩
        | popAt => exact ⟨_, pe_bm PySem.F.plainAttrs_list PySem.F.slot_list_pop PySem.F.type_list_pop mt_popAt p1 p2 (base_of h4) (few_of hs' h5) h3 (starOf hs.1) (back_of _ r0 hs.2), se_meth .popAt rfl q1 q2⟩
        | index => exact ⟨_, pe_bm PySem.F.plainAttrs_list PySem.F.slot_list_index PySem.F.type_list_index mt_index p1 p2 (base_of h4) (few_of hs' h5) h3 (starOf hs.1) (back_of _ r0 hs.2), se_meth .index rfl q1 q2⟩
        | insert => exact ⟨_, pe_bm PySem.F.plainAttrs_list PySem.F.slot_list_insert PySem.F.type_list_insert mt_insert p1 p2 (base_of h4) (few_of hs' h5) h3 (starOf hs.1) (back_of _ r0 hs.2), se_meth .insert rfl q1 q2⟩
        | tindex => exact ⟨_, EnF.pe_tindex p1 p2 (base_of h4) (few_of hs' h5) h3 (starOf hs.1) (back_of _ r0 hs.2), se_methT q1 q2⟩
        | pop => cases h0
    · cases h
  | .tupS es, X, W, G, tk, e, h => by
    unfold Ex.ok at h
    split at h
    · obtain ⟨tl, p1, q1⟩ := Sxs.sound es X W G tk _ h
      exact ⟨_, pe_tup p1, se_tup q1⟩
    · cases h
  | .ctup es, X, W, G, tk, e, h => by
    unfold Ex.ok at h
    split at h
    · obtain ⟨tl, p1, q1⟩ := Exs.sound es X W G tk _ h
      exact ⟨_, EnF.pe_ctup p1, se_ctup q1⟩
    · cases h
  | .fzd a, X, W, G, tk, e, h => by
    unfold Ex.ok at h
    obtain ⟨ta, p1, q1⟩ := Ex.sound a X W G tk _ h
    exact ⟨_, p1, se_fzd q1⟩
  | .lc2 fz own vs1 tg it tg1 it1 cond elt, X, W, G, tk, e, h => by
    unfold Ex.ok at h
    split at h
    · simp only [Bool.and_eq_true, decide_eq_true_eq] at h
      obtain ⟨⟨⟨⟨⟨⟨⟨⟨⟨⟨rfl, rfl⟩, k0⟩, h1⟩, h2⟩, k1⟩, h3⟩, k2⟩, k3⟩, h4⟩, h5⟩ := h
      rename_i x t i ifs t1 i1 ifs1 scope pos
      have ei : ifs = [] := by cases ifs with | nil => rfl | cons _ _ => cases k0
      subst ei
      have hk : BlkOk X.N X.env.scope scope own := blkOk_by h2
      obtain ⟨wi, p1, q1, s1⟩ := Itx.sound it X W G tk t i h1
      have GB : ∀ z : Shared × Hp × Addr × List (Str × Addr) × List Addr, Good c bl fl (X.blk z.1 z.2.1 scope (compEnvC scope z.2.2.2.1 z.2.2.1 X.env) z.2.2.2.2) := fun z => G.blk hk.kind
      obtain ⟨te, p5, q5⟩ := PE.weak (T := Shared × Hp × Addr × List (Str × Addr) × List Addr) (F := fun z => X.blk z.1 z.2.1 scope (compEnvC scope z.2.2.2.1 z.2.2.1 X.env) z.2.2.2.2) (e := x) (K := X.K) (mg := X.mg) (W := fun _ _ _ _ => False) (de := elt.den c)
        fun z => Ex.sound elt _ (fun _ _ _ _ => False) (GB z) takes0 x h5
      obtain ⟨tt, p4, q4⟩ := PTs.weak (T := Shared × Hp × Addr × List (Str × Addr) × List Addr) (F := fun z => X.blk z.1 z.2.1 scope (compEnvC scope z.2.2.2.1 z.2.2.1 X.env) z.2.2.2.2) (es := ifs1) (K := X.K) (mg := X.mg) (W := fun _ _ _ _ => False) (de := cond.tsts c)
        fun z => Exs.soundC cond _ (fun _ _ _ _ => False) (GB z) takes0 ifs1 h4
      obtain ⟨wi1, p6, q6, s6⟩ := PI.weak (T := Shared × Hp × Addr × List (Str × Addr) × List Addr) (F := fun z => X.blk z.1 z.2.1 scope (compEnvC scope z.2.2.2.1 z.2.2.1 X.env) z.2.2.2.2) (tg := t1) (e := i1) (K := X.K) (mg := X.mg) (W := fun _ _ _ _ => False) (di := it1.den c)
        fun z => Itx.sound it1 _ (fun _ _ _ _ => False) (GB z) takes0 t1 i1 k2
      refine ⟨_, pe_lc2 G.calm G.nd p1 hk (g := tg.g X.K) (g1 := tg1.g X.K) (vs1 := vs1) (fun v hv => ?_) (fun s H C cl fp => ?_) (fun s H C cl fp => pts_nil) (fun s H C cl fp => p6 (s, H, C, cl, fp)) (fun s H C cl fp => ?_) (fun s H C cl fp => p4 (s, H, C, cl, fp)) (fun s H C cl fp => p5 (s, H, C, cl, fp)) s1 (Itx.fset it1 k2), ?_⟩
      · have := List.all_eq_true.mp k1 v hv
        simpa using this
      · exact Tg.pg (X := X.blk s H scope (compEnvC scope cl C X.env) fp) (vs := List.map Prod.snd own) G.calm G.nd tg t h3
      · exact Tg.pg (X := X.blk s H scope (compEnvC scope cl C X.env) fp) (vs := vs1) G.calm G.nd tg1 t1 k3
      · exact lc2_sound q1 (Tg.sg tg (Tg.plain_of tg t h3)) (own_of h3) q6 (Tg.sg tg1 (Tg.plain_of tg1 t1 k3)) (own_of k3) q4 q5
    · cases h
theorem Ex.soundT {c : Cfg} {bl fl : List Str} : ∀ (ex : Ex) (X : Cx) (W : WX) (G : Good c bl fl X) (tk : Takes X W) (e : Expr), ex.ok X.N bl fl X.env.scope e = true → ∃ t, PT X e t ∧ ((∃ o es pos, e = .BoolOp o es pos) → PW X e t) ∧ ST X.K X.mg W t (ex.tst c)
  | .and a b, X, W, G, tk, e, h => by
    unfold Ex.ok at h
    split at h
    · rw [Bool.and_eq_true] at h
      obtain ⟨h1, h2⟩ := h
      obtain ⟨ta, p1, _, q1⟩ := Ex.soundT a X W G tk _ h1
      split at h2
      · obtain ⟨tb, p2, _, q2⟩ := Ex.soundT b X W G tk _ h2
        exact ⟨_, (pw_and p1 (pw_of p2)).pt, fun _ => pw_and p1 (pw_of p2), st_and q1 q2⟩
      · obtain ⟨tb, p2, w2, q2⟩ := Ex.soundT b X W G tk _ h2
        exact ⟨_, (pw_and p1 (w2 ⟨_, _, _, rfl⟩)).pt, fun _ => pw_and p1 (w2 ⟨_, _, _, rfl⟩), st_and q1 q2⟩
    · cases h
  | .or a b, X, W, G, tk, e, h => by
    unfold Ex.ok at h
    split at h
    · rw [Bool.and_eq_true] at h
      obtain ⟨h1, h2⟩ := h
      obtain ⟨ta, p1, _, q1⟩ := Ex.soundT a X W G tk _ h1
      split at h2
      · obtain ⟨tb, p2, _, q2⟩ := Ex.soundT b X W G tk _ h2
        exact ⟨_, (pw_or p1 (pw_of p2)).pt, fun _ => pw_or p1 (pw_of p2), st_or q1 q2⟩
      · obtain ⟨tb, p2, w2, q2⟩ := Ex.soundT b X W G tk _ h2
        exact ⟨_, (pw_or p1 (w2 ⟨_, _, _, rfl⟩)).pt, fun _ => pw_or p1 (w2 ⟨_, _, _, rfl⟩), st_or q1 q2⟩
    · cases h
  | .not a, X, W, G, tk, e, h => by
    unfold Ex.ok at h
    split at h
    · obtain ⟨ta, p1, _, q1⟩ := Ex.soundT a X W G tk _ h
      exact ⟨_, pt_not p1, (fun ⟨_, _, _, z⟩ => (by cases z)), st_not q1⟩
    · cases h
  | .cmp o a b, X, W, G, tk, e, h => by
    have q := Ex.sound (.cmp o a b) X W G tk e h
    unfold Ex.ok at h
    split at h
    · simp only [Bool.and_eq_true, decide_eq_true_eq, Bool.not_eq_true'] at h
      obtain ⟨⟨⟨rfl, h2⟩, h3⟩, h4⟩ := h
      obtain ⟨ta, p1, q1⟩ := Ex.sound a X W G tk _ h2
      obtain ⟨tb, p2, q2⟩ := Ex.sound b X W G tk _ h3
      refine ⟨_, pt_cmpR (cmp_op G.un o) p1 p2 h4, (fun ⟨_, _, _, z⟩ => (by cases z)), st_test (se_cmp o q1 q2) fun ρ h x h1 e => ?_⟩
      obtain ⟨_, _, _, e⟩ := bind_ok e
      obtain ⟨_, _, _, e⟩ := bind_ok e
      exact cmpD_bl e
    · cases h
  | .chain o o' a b d, X, W, G, tk, e, h => by
    unfold Ex.ok at h
    split at h
    · simp only [Bool.and_eq_true, decide_eq_true_eq, Bool.not_eq_true'] at h
      obtain ⟨⟨⟨⟨⟨rfl, rfl⟩, h2⟩, h3⟩, h4⟩, h5⟩ := h
      obtain ⟨ta, p1, q1⟩ := Ex.sound a X W G tk _ h2
      obtain ⟨tb, p2, q2⟩ := Ex.sound b X W G tk _ h3
      obtain ⟨td, p3, q3⟩ := Ex.sound d X W G tk _ h4
      refine ⟨_, pt_chain (cmp_op G.un o) (cmp_op G.un o') p1 p2 p3 h5, (fun ⟨_, _, _, z⟩ => (by cases z)), st_test (se_chain o o' q1 q2 q3) fun ρ h x h1 e => ?_⟩
      obtain ⟨_, _, _, e⟩ := bind_ok e
      obtain ⟨_, _, _, e⟩ := bind_ok e
      obtain ⟨z, _, e1, e⟩ := bind_ok e
      obtain ⟨b, rfl⟩ := cmpD_bl e1
      cases b with
      | true =>
        obtain ⟨_, _, _, e⟩ := bind_ok e
        exact cmpD_bl e
      | false => cases e; exact ⟨_, rfl⟩
    · cases h
  | .meth m a es, X, W, G, tk, e, h => by
    have hp : plainT e = true := by
      unfold Ex.ok at h
      split at h <;> first | rfl | cases h
    obtain ⟨ta, p1, q1⟩ := Ex.sound (.meth m a es) X W G tk e h
    exact ⟨_, pt_truth p1 (truth_of hp), fun ⟨_, _, _, z⟩ => (by rw [z] at hp; cases hp), st_tru q1⟩
  | .ite t a b, X, W, G, tk, e, h => ⟨fun _ _ _ => False, ⟨fun _ _ _ _ _ _ z => False.elim z⟩, fun _ => ⟨fun _ _ _ _ _ _ _ z => False.elim z⟩, st_stuck⟩
  | .freeze a, X, W, G, tk, e, h => ⟨fun _ _ _ => False, ⟨fun _ _ _ _ _ _ z => False.elim z⟩, fun _ => ⟨fun _ _ _ _ _ _ _ z => False.elim z⟩, st_stuck⟩
  | .var i, X, W, G, tk, e, h => by
    have hp : plainT e = true := by
      unfold Ex.ok at h
      split at h <;> first | rfl | cases h
    obtain ⟨ta, p1, q1⟩ := Ex.sound (.var i) X W G tk e h
    exact ⟨_, pt_truth p1 (truth_of hp), fun ⟨_, _, _, z⟩ => (by rw [z] at hp; cases hp), st_tru q1⟩
  | .glob y, X, W, G, tk, e, h => by
    have hp : plainT e = true := by
      unfold Ex.ok at h
      split at h <;> first | rfl | cases h
    obtain ⟨ta, p1, q1⟩ := Ex.sound (.glob y) X W G tk e h
    exact ⟨_, pt_truth p1 (truth_of hp), fun ⟨_, _, _, z⟩ => (by rw [z] at hp; cases hp), st_tru q1⟩
  | .cint i, X, W, G, tk, e, h => by
    have hp : plainT e = true := by
      unfold Ex.ok at h
      split at h <;> first | rfl | cases h
    obtain ⟨ta, p1, q1⟩ := Ex.sound (.cint i) X W G tk e h
    exact ⟨_, pt_truth p1 (truth_of hp), fun ⟨_, _, _, z⟩ => (by rw [z] at hp; cases hp), st_tru q1⟩
  | .cbl b, X, W, G, tk, e, h => by
    have hp : plainT e = true := by
      unfold Ex.ok at h
      split at h <;> first | rfl | cases h
    obtain ⟨ta, p1, q1⟩ := Ex.sound (.cbl b) X W G tk e h
    exact ⟨_, pt_truth p1 (truth_of hp), fun ⟨_, _, _, z⟩ => (by rw [z] at hp; cases hp), st_tru q1⟩
  | .cnon, X, W, G, tk, e, h => by
    have hp : plainT e = true := by
      unfold Ex.ok at h
      split at h <;> first | rfl | cases h
    obtain ⟨ta, p1, q1⟩ := Ex.sound (.cnon) X W G tk e h
    exact ⟨_, pt_truth p1 (truth_of hp), fun ⟨_, _, _, z⟩ => (by rw [z] at hp; cases hp), st_tru q1⟩
  | .cstr s, X, W, G, tk, e, h => by
    have hp : plainT e = true := by
      unfold Ex.ok at h
      split at h <;> first | rfl | cases h
    obtain ⟨ta, p1, q1⟩ := Ex.sound (.cstr s) X W G tk e h
    exact ⟨_, pt_truth p1 (truth_of hp), fun ⟨_, _, _, z⟩ => (by rw [z] at hp; cases hp), st_tru q1⟩
  | .bin o fz a b, X, W, G, tk, e, h => by
    have hp : plainT e = true := by
      unfold Ex.ok at h
      split at h <;> first | rfl | cases h
    obtain ⟨ta, p1, q1⟩ := Ex.sound (.bin o fz a b) X W G tk e h
    exact ⟨_, pt_truth p1 (truth_of hp), fun ⟨_, _, _, z⟩ => (by rw [z] at hp; cases hp), st_tru q1⟩
  | .neg a, X, W, G, tk, e, h => by
    have hp : plainT e = true := by
      unfold Ex.ok at h
      split at h <;> first | rfl | cases h
    obtain ⟨ta, p1, q1⟩ := Ex.sound (.neg a) X W G tk e h
    exact ⟨_, pt_truth p1 (truth_of hp), fun ⟨_, _, _, z⟩ => (by rw [z] at hp; cases hp), st_tru q1⟩
  | .tup es, X, W, G, tk, e, h => by
    have hp : plainT e = true := by
      unfold Ex.ok at h
      split at h <;> first | rfl | cases h
    obtain ⟨ta, p1, q1⟩ := Ex.sound (.tup es) X W G tk e h
    exact ⟨_, pt_truth p1 (truth_of hp), fun ⟨_, _, _, z⟩ => (by rw [z] at hp; cases hp), st_tru q1⟩
  | .lst fz es, X, W, G, tk, e, h => by
    have hp : plainT e = true := by
      unfold Ex.ok at h
      split at h <;> first | rfl | cases h
    obtain ⟨ta, p1, q1⟩ := Ex.sound (.lst fz es) X W G tk e h
    exact ⟨_, pt_truth p1 (truth_of hp), fun ⟨_, _, _, z⟩ => (by rw [z] at hp; cases hp), st_tru q1⟩
  | .idx a i, X, W, G, tk, e, h => by
    have hp : plainT e = true := by
      unfold Ex.ok at h
      split at h <;> first | rfl | cases h
    obtain ⟨ta, p1, q1⟩ := Ex.sound (.idx a i) X W G tk e h
    exact ⟨_, pt_truth p1 (truth_of hp), fun ⟨_, _, _, z⟩ => (by rw [z] at hp; cases hp), st_tru q1⟩
  | .slice fz a lo hi, X, W, G, tk, e, h => by
    have hp : plainT e = true := by
      unfold Ex.ok at h
      split at h <;> first | rfl | cases h
    obtain ⟨ta, p1, q1⟩ := Ex.sound (.slice fz a lo hi) X W G tk e h
    exact ⟨_, pt_truth p1 (truth_of hp), fun ⟨_, _, _, z⟩ => (by rw [z] at hp; cases hp), st_tru q1⟩
  | .call f es, X, W, G, tk, e, h => by
    have hp : plainT e = true := by
      unfold Ex.ok at h
      split at h <;> first | rfl | cases h
    obtain ⟨ta, p1, q1⟩ := Ex.sound (.call f es) X W G tk e h
    exact ⟨_, pt_truth p1 (truth_of hp), fun ⟨_, _, _, z⟩ => (by rw [z] at hp; cases hp), st_tru q1⟩
  | .prim p fz es, X, W, G, tk, e, h => by
    have hp : plainT e = true := by
      unfold Ex.ok at h
      split at h <;> first | rfl | cases h
    obtain ⟨ta, p1, q1⟩ := Ex.sound (.prim p fz es) X W G tk e h
    exact ⟨_, pt_truth p1 (truth_of hp), fun ⟨_, _, _, z⟩ => (by rw [z] at hp; cases hp), st_tru q1⟩
  | .lrange fz a, X, W, G, tk, e, h => by
    have hp : plainT e = true := by
      unfold Ex.ok at h
      split at h <;> first | rfl | cases h
    obtain ⟨ta, p1, q1⟩ := Ex.sound (.lrange fz a) X W G tk e h
    exact ⟨_, pt_truth p1 (truth_of hp), fun ⟨_, _, _, z⟩ => (by rw [z] at hp; cases hp), st_tru q1⟩
  | .lc fz own tg it cond elt, X, W, G, tk, e, h => by
    have hp : plainT e = true := by
      unfold Ex.ok at h
      split at h <;> first | rfl | cases h
    obtain ⟨ta, p1, q1⟩ := Ex.sound (.lc fz own tg it cond elt) X W G tk e h
    exact ⟨_, pt_truth p1 (truth_of hp), fun ⟨_, _, _, z⟩ => (by rw [z] at hp; cases hp), st_tru q1⟩
  | .rev fz a, X, W, G, tk, e, h => by
    have hp : plainT e = true := by
      unfold Ex.ok at h
      split at h <;> first | rfl | cases h
    obtain ⟨ta, p1, q1⟩ := Ex.sound (.rev fz a) X W G tk e h
    exact ⟨_, pt_truth p1 (truth_of hp), fun ⟨_, _, _, z⟩ => (by rw [z] at hp; cases hp), st_tru q1⟩
  | .dnew t, X, W, G, tk, e, h => by
    have hp : plainT e = true := by
      unfold Ex.ok at h
      split at h <;> first | rfl | cases h
    obtain ⟨ta, p1, q1⟩ := Ex.sound (.dnew t) X W G tk e h
    exact ⟨_, pt_truth p1 (truth_of hp), fun ⟨_, _, _, z⟩ => (by rw [z] at hp; cases hp), st_tru q1⟩
  | .tupS es, X, W, G, tk, e, h => by
    have hp : plainT e = true := by
      unfold Ex.ok at h
      split at h <;> first | rfl | cases h
    obtain ⟨ta, p1, q1⟩ := Ex.sound (.tupS es) X W G tk e h
    exact ⟨_, pt_truth p1 (truth_of hp), fun ⟨_, _, _, z⟩ => (by rw [z] at hp; cases hp), st_tru q1⟩
  | .ctup es, X, W, G, tk, e, h => by
    have hp : plainT e = true := by
      unfold Ex.ok at h
      split at h <;> first | rfl | cases h
    obtain ⟨ta, p1, q1⟩ := Ex.sound (.ctup es) X W G tk e h
    exact ⟨_, pt_truth p1 (truth_of hp), fun ⟨_, _, _, z⟩ => (by rw [z] at hp; cases hp), st_tru q1⟩
  | .lc2 fz own vs1 tg it tg1 it1 cond elt, X, W, G, tk, e, h => by
    have hp : plainT e = true := by
      unfold Ex.ok at h
      split at h <;> first | rfl | cases h
    obtain ⟨ta, p1, q1⟩ := Ex.sound (.lc2 fz own vs1 tg it tg1 it1 cond elt) X W G tk e h
    exact ⟨_, pt_truth p1 (truth_of hp), fun ⟨_, _, _, z⟩ => (by rw [z] at hp; cases hp), st_tru q1⟩
  | .fzd a, X, W, G, tk, e, h => ⟨fun _ _ _ => False, ⟨fun _ _ _ _ _ _ z => False.elim z⟩, fun _ => ⟨fun _ _ _ _ _ _ _ z => False.elim z⟩, st_stuck⟩
theorem Sxs.sound {c : Cfg} {bl fl : List Str} : ∀ (es : Sxs) (X : Cx) (W : WX) (G : Good c bl fl X) (tk : Takes X W) (xs : List Expr), es.ok X.N bl fl X.env.scope xs = true → ∃ t, PA X xs t ∧ SA X.K X.mg W t (es.den c)
  | .nil, X, W, G, tk, xs, h => by
    unfold Sxs.ok at h
    cases xs with
    | nil => exact ⟨_, pa_nil, sa_nil⟩
    | cons _ _ => cases h
  | .cons a as, X, W, G, tk, xs, h => by
    unfold Sxs.ok at h
    cases xs with
    | nil => cases h
    | cons e r =>
      dsimp only at h
      rw [Bool.and_eq_true, Bool.and_eq_true] at h
      obtain ⟨ta, p1, q1⟩ := Ex.sound a X W G tk _ h.1.1
      obtain ⟨tl, p2, q2⟩ := Sxs.sound as X W G tk _ h.2
      exact ⟨_, pa_cons p1 p2 (starOf h.1.2), sa_cons q1 q2⟩
  | .star a as, X, W, G, tk, xs, h => by
    unfold Sxs.ok at h
    split at h
    · rw [Bool.and_eq_true] at h
      obtain ⟨ta, p1, q1⟩ := Ex.sound a X W G tk _ h.1
      obtain ⟨tl, p2, q2⟩ := Sxs.sound as X W G tk _ h.2
      exact ⟨_, StX.pa_star p1 p2, sa_star q1 q2⟩
    · cases h
theorem Exs.sound {c : Cfg} {bl fl : List Str} : ∀ (es : Exs) (X : Cx) (W : WX) (G : Good c bl fl X) (tk : Takes X W) (xs : List Expr), es.ok X.N bl fl X.env.scope xs = true → ∃ t, PA X xs t ∧ SA X.K X.mg W t (es.den c)
  | .nil, X, W, G, tk, xs, h => by
    unfold Exs.ok at h
    cases xs with
    | nil => exact ⟨_, pa_nil, sa_nil⟩
    | cons _ _ => cases h
  | .cons a as, X, W, G, tk, xs, h => by
    unfold Exs.ok at h
    cases xs with
    | nil => cases h
    | cons e r =>
      dsimp only at h
      rw [Bool.and_eq_true, Bool.and_eq_true] at h
      obtain ⟨ta, p1, q1⟩ := Ex.sound a X W G tk _ h.1.1
      obtain ⟨tl, p2, q2⟩ := Exs.sound as X W G tk _ h.2
      exact ⟨_, pa_cons p1 p2 (starOf h.1.2), sa_cons q1 q2⟩
theorem Exs.soundO {c : Cfg} {bl fl : List Str} : ∀ (es : Exs) (X : Cx) (W : WX) (G : Good c bl fl X) (tk : Takes X W) (e : Option Expr), es.okO X.N bl fl X.env.scope e = true → ∃ t, PO X e t ∧ SO X.K X.mg W t (es.part c)
  | .nil, X, W, G, tk, e, h => by
    unfold Exs.okO at h
    cases e with
    | none => exact ⟨_, po_none, so_none⟩
    | some _ => cases h
  | .cons a as, X, W, G, tk, e, h => by
    unfold Exs.okO at h
    cases e with
    | none => cases h
    | some e =>
      cases as with
      | nil =>
        obtain ⟨ta, p1, q1⟩ := Ex.sound a X W G tk _ h
        exact ⟨_, po_some p1, so_some q1⟩
      | cons _ _ => cases h
theorem Exs.soundC {c : Cfg} {bl fl : List Str} : ∀ (es : Exs) (X : Cx) (W : WX) (G : Good c bl fl X) (tk : Takes X W) (xs : List Expr), es.okC X.N bl fl X.env.scope xs = true → ∃ t, PTs X xs t ∧ ST X.K X.mg W t (es.tsts c)
  | .nil, X, W, G, tk, xs, h => by
    unfold Exs.okC at h
    cases xs with
    | nil => exact ⟨_, pts_nil, st_yes⟩
    | cons _ _ => cases h
  | .cons a as, X, W, G, tk, xs, h => by
    unfold Exs.okC at h
    split at h
    · obtain ⟨tt, p0, _, q0⟩ := Ex.soundT a X W G tk _ h
      exact ⟨_, pts_one p0, q0⟩
    · cases h
theorem Itx.sound {c : Cfg} {bl fl : List Str} : ∀ (it : Itx) (X : Cx) (W : WX) (G : Good c bl fl X) (tk : Takes X W) (tg e : Expr), it.ok X.N bl fl X.env.scope tg e = true → ∃ wi, PI X tg e wi ∧ SI X.K X.mg W wi (it.den c) ∧ ∀ x, foldedSetIterable e X.env x = pure x
  | .seq a, X, W, G, tk, tg, e, h => by
    unfold Itx.ok at h
    rw [Bool.and_eq_true] at h
    obtain ⟨ta, p1, q1⟩ := Ex.sound a X W G tk _ h.1
    exact ⟨_, PI.or (pi_list p1) (pi_tup p1), si_seq q1, set_of h.2⟩
  | .range es, X, W, G, tk, tg, e, h => by
    unfold Itx.ok at h
    split at h
    · simp only [Bool.and_eq_true, decide_eq_true_eq] at h
      obtain ⟨⟨⟨⟨⟨rfl, h1⟩, h2⟩, h3⟩, h4⟩, h5⟩ := h
      obtain ⟨tl, p1, q1⟩ := Exs.sound es X W G tk _ h3
      have hn := Exs.ok_len es _ h3
      have hs := ok_stars es _ h3
      rename_i xs _
      match xs, hn, hs, p1, h4, h5 with
      | [x], hn, hs, p1, _, _ =>
        rw [List.all_cons, Bool.and_eq_true] at hs
        exact ⟨_, pi_range1 (gl_of h2) (G.blt _ h1) p1 (star1 hs.1), si_rng1 q1 (fun ρ h ds h' e => by rw [Exs.den_len c es ρ h ds h' e, ← hn]; rfl), fun _ => rfl⟩
      | [x, y], hn, hs, p1, _, _ =>
        rw [List.all_cons, List.all_cons, Bool.and_eq_true, Bool.and_eq_true] at hs
        exact ⟨_, pi_range2 (gl_of h2) (G.blt _ h1) p1 (by rw [starOf hs.1, star1 hs.2.1]) (star1 hs.2.1), si_rng2 q1 (fun ρ h ds h' e => by rw [Exs.den_len c es ρ h ds h' e, ← hn]; rfl), fun _ => rfl⟩
      | [x, y, z], hn, hs, p1, _, _ =>
        rw [List.all_cons, Bool.and_eq_true] at hs
        exact ⟨_, pi_range3 (gl_of h2) (G.blt _ h1) p1 (starOf hs.1) (back_of _ _ hs.2), si_rng3 q1 (fun ρ h ds h' e => by rw [Exs.den_len c es ρ h ds h' e, ← hn]; rfl), fun _ => rfl⟩
    · cases h
  | .enum a, X, W, G, tk, tg, e, h => by
    unfold Itx.ok at h
    split at h
    · simp only [Bool.and_eq_true, decide_eq_true_eq] at h
      obtain ⟨⟨⟨⟨⟨rfl, h1⟩, h2⟩, h3⟩, h4⟩, h5⟩ := h
      obtain ⟨ta, p1, q1⟩ := Ex.sound a X W G tk _ h3
      cases tg with
      | Tuple ts k pos => exact ⟨_, EnT.pi_enumA (gl_of h2) (G.blt _ h1) (pa_cons p1 pa_nil (starOf h4)) (star1 h4), si_enum q1, fun _ => rfl⟩
      | _ => cases h5
    · cases h
  | .zip a b, X, W, G, tk, tg, e, h => by
    unfold Itx.ok at h
    split at h
    · simp only [Bool.and_eq_true, decide_eq_true_eq] at h
      obtain ⟨⟨⟨⟨⟨⟨⟨rfl, h1⟩, h2⟩, h3⟩, h4⟩, h5⟩, h6⟩, h7⟩ := h
      obtain ⟨ta, p1, q1⟩ := Ex.sound a X W G tk _ h3
      obtain ⟨tb, p2, q2⟩ := Ex.sound b X W G tk _ h5
      cases tg with
      | Tuple ts k pos => exact ⟨_, RZ.pi_zipA (gl_of h2) (G.blt _ h1) (pa_cons p1 (pa_cons p2 pa_nil (starOf h6)) (starOf h4)) (starOf h4) (back_of _ _ (by rw [List.all_cons, h6]; rfl)), si_zip q1 q2, fun _ => rfl⟩
      | _ => cases h7
    · cases h
  | .zipM a b, X, W, G, tk, tg, e, h => by
    unfold Itx.ok at h
    split at h
    · simp only [Bool.and_eq_true, decide_eq_true_eq] at h
      obtain ⟨⟨⟨⟨⟨⟨⟨rfl, h1⟩, h2⟩, h3⟩, h4⟩, h5⟩, h6⟩, h7⟩ := h
      obtain ⟨ta, p1, q1⟩ := Ex.sound a X W G tk _ h3
      obtain ⟨tb, p2, q2⟩ := Ex.sound b X W G tk _ h5
      cases tg with
      | Tuple ts k pos => exact ⟨_, ZSt.pi_zipM (gl_of h2) (G.blt _ h1) (pa_cons p1 (pa_cons p2 pa_nil (starOf h6)) (starOf h4)) (starOf h4) (back_of _ _ (by rw [List.all_cons, h6]; rfl)), si_zipM q1 q2, fun _ => rfl⟩
      | _ => cases h7
    · cases h
  | .enumZ a b, X, W, G, tk, tg, e, h => by
    unfold Itx.ok at h
    split at h
    · simp only [Bool.and_eq_true, decide_eq_true_eq] at h
      obtain ⟨⟨⟨⟨⟨⟨⟨⟨⟨⟨rfl, h1⟩, h2⟩, rfl⟩, g1⟩, g2⟩, h3⟩, h4⟩, h5⟩, h6⟩, h7⟩ := h
      obtain ⟨ta, p1, q1⟩ := Ex.sound a X W G tk _ h3
      obtain ⟨tb, p2, q2⟩ := Ex.sound b X W G tk _ h5
      cases tg with
      | Tuple ts k pos => exact ⟨_, ZSt.pi_enumZ (gl_of h2) (G.blt _ h1) (gl_of g2) (G.blt _ g1) (pa_cons p1 (pa_cons p2 pa_nil (starOf h6)) (starOf h4)) (starOf h4) (back_of _ _ (by rw [List.all_cons, h6]; rfl)), si_enumZ q1 q2, fun _ => rfl⟩
      | _ => cases h7
    · cases h
  | .zipS a, X, W, G, tk, tg, e, h => by
    unfold Itx.ok at h
    split at h
    · simp only [Bool.and_eq_true, decide_eq_true_eq] at h
      obtain ⟨⟨⟨⟨rfl, h1⟩, h2⟩, h3⟩, h4⟩ := h
      obtain ⟨ta, p1, q1⟩ := Ex.sound a X W G tk _ h3
      cases tg with
      | Name x px => exact ⟨_, ZSt.pi_zipS (gl_of h2) (G.blt _ h1) p1, si_zipS q1, fun _ => rfl⟩
      | _ => cases h4
    · cases h
  | .enumF a k, X, W, G, tk, tg, e, h => by
    unfold Itx.ok at h
    split at h
    · simp only [Bool.and_eq_true, decide_eq_true_eq] at h
      obtain ⟨⟨⟨⟨⟨⟨⟨rfl, h1⟩, h2⟩, h3⟩, h4⟩, h5⟩, rfl⟩, h7⟩ := h
      obtain ⟨ta, p1, q1⟩ := Ex.sound a X W G tk _ h3
      cases tg with
      | Tuple ts kk pos => exact ⟨_, EnF.pi_enumF h7 (gl_of h2) (G.blt _ h1) (pa_cons p1 (pa_cons pe_int pa_nil) (starOf h4)) (starOf h4) rfl, si_enumF k q1, fun _ => rfl⟩
      | _ => cases h5
    · cases h
end
end Ev
set_option maxHeartbeats 1000000
/-! Ev, part L: statements. -/
namespace Ev
open PySem PySem.Spec PyProof.Rows L2

/-! ### a, b = x, y: in which order it is stored -/
def isStarE : Expr → Bool
  | .Starred .. => true
  | _ => false
def swapNm (sc : Scope) (line : Nat) : Expr → Option Str
  | .Name id pos => if sc.names.lookup id == some .local && pos.line == line then some id else none
  | _ => none
def swapR (sc : Scope) (ts vs : List Expr) : Option (Option (List Str)) :=
  if !(ts.length == 2 || ts.length == 3) || vs.length != ts.length then some none
  else if vs.any isStarE then some none
  else
    let names := ts.filterMap (swapNm sc ((ts.head?.map (·.pos.line)).getD 0))
    if names.length != ts.length || names.eraseDups.length != names.length then some none
    else if vs.all (foldedForSure 8) then some none
    else if vs.all (constantsAlone 8) then none
    else some (some names)
theorem block_fn {env : PySem.Env} (hk : env.scope.kind = .function) : env.blockKind = .function := by
  unfold PySem.Env.blockKind; rw [hk]; rfl
theorem loc_beq (o : Option NameKind) : (o == some NameKind.local) = (match o with | some .local => true | _ => false) := by
  cases o with
  | none => rfl
  | some k => cases k <;> rfl
theorem swapped_of {env : PySem.Env} (hk : env.scope.kind = .function) {ts vs : List Expr} {k k2 : Nat} {p p2 : Pos} {r : Option (List Str)} (h : swapR env.scope ts vs = some r) :
    swappedStores [.Tuple ts k p] (.Tuple vs k2 p2) env = pure r := by
  unfold swapR at h
  have hb : env.blockKind = .function := block_fn hk
  unfold swappedStores
  dsimp only
  by_cases c1 : (!(ts.length == 2 || ts.length == 3) || vs.length != ts.length) = true
  · rw [if_pos c1] at h; cases h
    exact if_pos (by rw [c1]; rfl)
  · rw [if_neg c1] at h
    have c1' := Bool.eq_false_iff.mpr c1
    refine Eq.trans (if_neg (by rw [c1', hb]; decide)) ?_
    by_cases c2 : vs.any isStarE = true
    · rw [if_pos c2] at h; cases h; exact if_pos c2
    · rw [if_neg c2] at h
      refine Eq.trans (if_neg c2) ?_
      dsimp only at h
      by_cases c3 : ((ts.filterMap (swapNm env.scope ((ts.head?.map (·.pos.line)).getD 0))).length != ts.length || (ts.filterMap (swapNm env.scope ((ts.head?.map (·.pos.line)).getD 0))).eraseDups.length != (ts.filterMap (swapNm env.scope ((ts.head?.map (·.pos.line)).getD 0))).length) = true
      · rw [if_pos c3] at h; cases h
        exact if_pos c3
      · rw [if_neg c3] at h
        refine Eq.trans (if_neg c3) ?_
        by_cases c4 : vs.all (foldedForSure 8) = true
        · rw [if_pos c4] at h; cases h; exact if_pos c4
        · rw [if_neg c4] at h
          refine Eq.trans (if_neg c4) ?_
          by_cases c5 : vs.all (constantsAlone 8) = true
          · rw [if_pos c5] at h; cases h
          · rw [if_neg c5] at h; cases h
            exact if_neg c5
/-- is the comprehension's value stored within its frame -/
def swB (sc : Scope) (x : Str) (p vp : Pos) (scope : Scope) : Bool := isLocal sc x && p.line == vp.line && !(scope.names.any fun (n, k) => n == x && (k == .local || k == .cell))
theorem swaps_lc {env : PySem.Env} (hk : env.scope.kind = .function) {elt : Expr} {gs : List Comprehension} {scope : Scope} {vp p : Pos} {x : Str} {l : Nat} :
    swapsWith (.ListComp elt gs scope vp) (some (.Name x p)) l env = pure (swB env.scope x p vp scope) := by
  unfold swapsWith swB isLocal
  dsimp only
  rw [block_fn hk]
  show pure _ = pure _
  congr 1
  show ((ScopeKind.function == ScopeKind.function) && (env.scope.names.lookup x == some NameKind.local) && _ && _) = _
  rw [loc_beq]
  rfl

/-- three names at once -/
def tPar3 (i j k : Nat) (ta : TA) : TS := fun D σ H => ta σ H fun vs H1 => ∃ v w u, vs = [v, w, u] ∧ D.nx (((σ.set i (some v)).set j (some w)).set k (some u)) H1
theorem ps_par3 {X : Cx} {pos : Pos} {i j k : Nat} {x y z : Str} {a b d : Expr} {ta : TA} {px py pz pt : Pos} {kt k2 : Nat} {pt2 : Pos} (hc : X.calm = true) (hN : X.N.Nodup) (hi : X.N[i]? = some x) (hj : X.N[j]? = some y) (hk : X.N[k]? = some z) (hij : i ≠ j) (hik : i ≠ k) (hjk : j ≠ k)
    (hx : X.env.scope.names.lookup x = some .local) (hy : X.env.scope.names.lookup y = some .local) (hz : X.env.scope.names.lookup z = some .local) (ha : PA X [a, b, d] ta)
    (hw : swappedStores [.Tuple [.Name x px, .Name y py, .Name z pz] kt pt] (.Tuple [a, b, d] k2 pt2) X.env = pure (some [x, y, z])) :
    PS X (.Assign [.Tuple [.Name x px, .Name y py, .Name z pz] kt pt] (.Tuple [a, b, d] k2 pt2) pos) (tPar3 i j k ta) := by
  refine ⟨fun pins s σ H D I h => ?_⟩
  rw [exec_Assign_arm]
  refine wpAny_bind (wpAny_standAt ?_)
  rw [show swapsWithSole [.Tuple [.Name x px, .Name y py, .Name z pz] kt pt] (.Tuple [a, b, d] k2 pt2) pos.line X.env = pure false from rfl]
  refine wpAny_bind (wpAny_pure ?_)
  rw [if_neg (by decide)]
  refine wpAny_bind (Tuple_ (thn (ha.run _ pins s σ H _ I h) fun us s1 ⟨vs, H1, I1, r1, q1⟩ => ?_))
  obtain ⟨v, w, u, e1, q1⟩ := q1
  subst e1
  obtain ⟨u1, u2, u3, rfl, rv, rw', ru⟩ : ∃ u1 u2 u3, us = [u1, u2, u3] ∧ RelV v u1 ∧ RelV w u2 ∧ RelV u u3 := by
    cases r1 with
    | cons p q =>
      cases q with
      | cons p' q' =>
        cases q' with
        | cons p2 q2 =>
          cases q2
          exact ⟨_, _, _, rfl, p, p', p2⟩
  refine wpAny_newObj_type ?_ (by show 3 ≤ sizeLine; decide)
  have I2 : Inv X pins σ H1 { s1 with heap := s1.heap.push { cls := .type "tuple", data := .seq [u1, u2, u3].toArray } } := I1.kept (t' := s1.toks) fun b o e => Heap.get?_push_of_some _ e
  rw [hw]
  refine wpAny_bind (wpAny_pure ?_)
  show wpAny (model X.prog X.w) X.A (do rule "assign.swapped-stores"; let items ← unpackItems (.ref s1.heap.objs.size) 3 none; assignInOrder [fun v => bindName X.env z v, fun v => bindName X.env y v, fun v => bindName X.env x v] items.reverse; pure Flow.next) _ _ _
  refine wpAny_bind (wpAny_rule (wpAny_bind (unpackItems_tuple (items := #[u1, u2, u3]) (I.ok.hd hc) (IsTup.new s1.heap _) fun h' hx' => ?_)))
  have I3 := I2.kept (h' := h') (t' := s1.toks) fun b o e => hx' b o (Nat.ne_of_lt (Heap.lt_size e)) e
  show wpAny _ _ (assignInOrder [fun v => bindName X.env z v, fun v => bindName X.env y v, fun v => bindName X.env x v] [u3, u2, u1] >>= fun _ => pure Flow.next) _ _ _
  refine wpAny_bind (assignInOrder_cons (wpAny_bindName (store_ok I3 hN hk (.inl hz) ru (fun s2 I4 => ?_) (.inr hz))))
  refine assignInOrder_cons (wpAny_bindName (store_ok I4 hN hj (.inl hy) rw' (fun s3 I5 => ?_) (.inr hy)))
  refine assignInOrder_cons (wpAny_bindName (store_ok I5 hN hi (.inl hx) rv (fun s4 I6 => assignInOrder_nil (wpAny_pure ?_)) (.inr hx)))
  rw [List.set_comm _ _ (Ne.symm hjk), List.set_comm _ _ (Ne.symm hik), List.set_comm _ _ (Ne.symm hij)] at I6
  exact ⟨_, H1, I6, q1⟩

/-! ### stores at places -/
def rSetAll : V → V → V → Hp → (Hp → Prop) → Prop := fun o i v H Q => rSetL o i v H Q ∨ ∃ a H', o = .ref a ∧ DPut H a i v H' ∧ Q H'
theorem set_all {X : Cx} (hu : X.A.units + 1 < cLine) : PSet X rSetAll := by
  intro pins s σ H o i v ov iv u Q I ro ri rv h
  rcases h with h | ⟨a, H', rfl, g, q⟩
  · exact set_list pins s σ H o i v ov iv u Q I ro ri rv h
  · cases ro
    exact d_setItem hu I g ri rv fun s' I' => ⟨H', I', q⟩
section
variable {K : PySem.W.Frag} {mg : Str → Option Value} {W : WX} {c : Cfg} {S : Hp} {ι : List Addr} {h : Hs} {H : Hp}
theorem dput_k {kvs : List (DKey × D)} {kv : List (Key × V)} (r : Paired (fun (p : DKey × D) (q : Key × V) => p.1 = .inl q.1 ∧ RV K S ι p.2 q.2) kvs kv) (k : Key) {d : D} {v : V} (rv : RV K S ι d v) :
    Paired (fun (p : DKey × D) (q : Key × V) => p.1 = .inl q.1 ∧ RV K S ι p.2 q.2) (dput kvs (.inl k) d) (putK kv k v) := by
  have ha : (kvs.any fun p => decide (p.1 = .inl k)) = kv.any fun q => decide (q.1 = k) := by
    induction r with
    | nil => rfl
    | cons hpq _ ih => rw [List.any_cons, List.any_cons, ih, hpq.1]; congr 1; simp
  have hm : ∀ {kvs : List (DKey × D)} {kv : List (Key × V)}, Paired (fun (p : DKey × D) (q : Key × V) => p.1 = .inl q.1 ∧ RV K S ι p.2 q.2) kvs kv →
      Paired (fun (p : DKey × D) (q : Key × V) => p.1 = .inl q.1 ∧ RV K S ι p.2 q.2) (kvs.map fun p => if p.1 = .inl k then (p.1, d) else p) (kv.map fun q => if q.1 = k then (q.1, v) else q) := by
    intro kvs kv r
    induction r with
    | nil => exact .nil
    | @cons p q _ _ hpq _ ih =>
      rw [List.map_cons, List.map_cons]
      refine .cons ?_ ih
      by_cases e : q.1 = k
      · have e2 : p.1 = .inl k := by rw [hpq.1, e]
        rw [if_pos e, if_pos e2]
        exact ⟨hpq.1, rv⟩
      · have e2 : ¬ p.1 = .inl k := by rw [hpq.1]; exact fun z => e (Sum.inl.inj z)
        rw [if_neg e, if_neg e2]
        exact hpq
  have hs : ∀ {kvs : List (DKey × D)} {kv : List (Key × V)}, Paired (fun (p : DKey × D) (q : Key × V) => p.1 = .inl q.1 ∧ RV K S ι p.2 q.2) kvs kv →
      Paired (fun (p : DKey × D) (q : Key × V) => p.1 = .inl q.1 ∧ RV K S ι p.2 q.2) (kvs ++ [(.inl k, d)]) (kv ++ [(k, v)]) := by
    intro kvs kv r
    induction r with
    | nil => exact .cons ⟨rfl, rv⟩ .nil
    | cons hpq _ ih => exact .cons hpq ih
  unfold dput putK
  rw [ha]
  split
  · exact hm r
  · exact hs r
theorem dput_t {kvs : List (DKey × D)} {kv : List (List Key × V)} (r : Paired (fun (p : DKey × D) (q : List Key × V) => p.1 = .inr q.1 ∧ RV K S ι p.2 q.2) kvs kv) (k : List Key) {d : D} {v : V} (rv : RV K S ι d v) :
    Paired (fun (p : DKey × D) (q : List Key × V) => p.1 = .inr q.1 ∧ RV K S ι p.2 q.2) (dput kvs (.inr k) d) (putK kv k v) := by
  have ha : (kvs.any fun p => decide (p.1 = .inr k)) = kv.any fun q => decide (q.1 = k) := by
    induction r with
    | nil => rfl
    | cons hpq _ ih => rw [List.any_cons, List.any_cons, ih, hpq.1]; congr 1; simp
  have hm : ∀ {kvs : List (DKey × D)} {kv : List (List Key × V)}, Paired (fun (p : DKey × D) (q : List Key × V) => p.1 = .inr q.1 ∧ RV K S ι p.2 q.2) kvs kv →
      Paired (fun (p : DKey × D) (q : List Key × V) => p.1 = .inr q.1 ∧ RV K S ι p.2 q.2) (kvs.map fun p => if p.1 = .inr k then (p.1, d) else p) (kv.map fun q => if q.1 = k then (q.1, v) else q) := by
    intro kvs kv r
    induction r with
    | nil => exact .nil
    | @cons p q _ _ hpq _ ih =>
      rw [List.map_cons, List.map_cons]
      refine .cons ?_ ih
      by_cases e : q.1 = k
      · have e2 : p.1 = .inr k := by rw [hpq.1, e]
        rw [if_pos e, if_pos e2]
        exact ⟨hpq.1, rv⟩
      · have e2 : ¬ p.1 = .inr k := by rw [hpq.1]; exact fun z => e (Sum.inr.inj z)
        rw [if_neg e, if_neg e2]
        exact hpq
  have hs : ∀ {kvs : List (DKey × D)} {kv : List (List Key × V)}, Paired (fun (p : DKey × D) (q : List Key × V) => p.1 = .inr q.1 ∧ RV K S ι p.2 q.2) kvs kv →
      Paired (fun (p : DKey × D) (q : List Key × V) => p.1 = .inr q.1 ∧ RV K S ι p.2 q.2) (kvs ++ [(.inr k, d)]) (kv ++ [(k, v)]) := by
    intro kvs kv r
    induction r with
    | nil => exact .cons ⟨rfl, rv⟩ .nil
    | cons hpq _ ih => exact .cons hpq ih
  unfold dput putK
  rw [ha]
  split
  · exact hm r
  · exact hs r
theorem set_sound (r : HRel K S ι h H) {o i d : D} {ov iv v : V} (ro : RV K S ι o ov) (ri : RV K S ι i iv) (rv : RV K S ι d v) {h3 : Hs} (e : setD o i d h = some h3) {Q : Hp → Prop} (hQ : ∀ H', HRel K S ι h3 H' → Ext S ι H S ι H' → Q H') : rSetAll ov iv v H Q := by
  cases o with
  | ref n =>
    cases ro with
    | @ref _ a en =>
      replace e : (match h[n]? with
        | some (Cell.lst xs) => setLst n xs i d h
        | some (.dct t kvs) => setDct n t kvs i d h
        | _ => none) = some h3 := e
      cases q : h[n]? with
      | none => rw [q] at e; cases e
      | some c =>
        rw [q] at e
        have hc := r.cell n a c en q
        cases c with
        | dead => cases e
        | obj _ _ => cases e
        | lst xs =>
          obtain ⟨h1, vs, h2, rs⟩ := hc
          cases i with
          | int k =>
            cases ri
            replace e : (ixN xs.length k).map (fun j => h.set n (.lst (xs.set j d))) = some h3 := e
            cases q2 : ixN xs.length k with
            | none => rw [q2] at e; cases e
            | some j =>
              rw [q2] at e
              cases e
              exact .inl ⟨a, vs, k, j, rfl, rfl, h2, by rw [← rs.length]; exact q2, hQ _ (r.write en h1 ⟨h1, _, upd_same, RVs.set rv j rs⟩) (Ext.write en)⟩
          | _ => cases e
        | dct t kvs =>
          replace e : setDct n t kvs i d h = some h3 := e
          unfold setDct at e
          cases q2 : keyOf i with
          | none => rw [q2] at e; cases e
          | some k =>
            rw [q2] at e
            dsimp only at e
            split at e
            · rename_i hk
              cases e
              have hl := Nat.lt_of_lt_of_le hk.2 LN_le
              cases t with
              | false =>
                obtain ⟨h1, kv, h2, rs⟩ := hc
                cases k with
                | inr _ => cases hk.1
                | inl k =>
                  rw [Paired.length rs] at hl
                  have hp : DPut H a iv v (upd H a (.dK (putK kv k v))) := by
                    cases i with
                    | int i => cases q2; cases ri; exact DPut.k (k := Sum.inl i) h2 hl
                    | str i => cases q2; cases ri; exact DPut.k (k := Sum.inr i) h2 hl
                    | tup xs =>
                      replace q2 : (keysOf xs).map Sum.inr = some _ := q2
                      cases q3 : keysOf xs with
                      | none => rw [q3] at q2; cases q2
                      | some _ => rw [q3] at q2; cases q2
                    | _ => cases q2
                  exact .inr ⟨a, _, rfl, hp, hQ _ (r.write en h1 ⟨h1, _, upd_same, dput_k rs k rv⟩) (Ext.write en)⟩
              | true =>
                obtain ⟨h1, kv, h2, rs⟩ := hc
                cases k with
                | inl _ => cases hk.1
                | inr k =>
                  rw [Paired.length rs] at hl
                  have hp : DPut H a iv v (upd H a (.dT (putK kv k v))) := by
                    cases i with
                    | tup xs =>
                      replace q2 : (keysOf xs).map Sum.inr = some _ := q2
                      cases q3 : keysOf xs with
                      | none => rw [q3] at q2; cases q2
                      | some ks =>
                        rw [q3] at q2; cases q2
                        cases ri with
                        | tup e1 r1 =>
                          have e2 := keys_ok r1 q3
                          subst e2
                          exact DPut.t h2 (r.sub _ _ e1) hl
                    | _ => cases q2
                  exact .inr ⟨a, _, rfl, hp, hQ _ (r.write en h1 ⟨h1, _, upd_same, dput_t rs k rv⟩) (Ext.write en)⟩
            · cases e
  | _ => cases e
end
end Ev
set_option maxHeartbeats 1000000
/-! Ev, part M: statements: checker, the induction, defs. -/
namespace Ev
open PySem PySem.Spec PyProof.Rows L2

/-! ### targets, any -/
mutual
def Tg.okG (N bl fl : List Str) (fn : Str → Bool) (sc : Scope) : Tg → Expr → Bool
  | .name i, e => match e with
    | .Name x _ => decide (N[i]? = some x) && loc sc x && (fn x || isLocal sc x)
    | _ => false
  | .tup ts, e => match e with
    | .Tuple es _ _ => ts.okG N bl fl fn sc es
    | _ => false
  | .idx a i, e => match e with
    | .Subscript x y _ => a.ok N bl fl sc x && i.ok N bl fl sc y && notSlice y
    | _ => false
def Tgs.okG (N bl fl : List Str) (fn : Str → Bool) (sc : Scope) : Tgs → List Expr → Bool
  | .nil, es => es.isEmpty
  | .cons t ts, es => match es with
    | e :: r => notStar e && t.okG N bl fl fn sc e && ts.okG N bl fl fn sc r
    | [] => false
end
section
variable {K : PySem.W.Frag} {mg : Str → Option Value} {W : WX} {c : Cfg}
theorem sg_name (i : Nat) : SG K mg W (gName i) ((Tg.name i).den c) := Tg.sg (.name i) rfl
theorem post_of {S : Hp} {ι : List Addr} {H : Hp} {Q : L2.St → Hp → Prop} {o : Out} (hp : match o with
    | .nx ρ' h' => ∀ S' ι' σ' H', HRel K S' ι' h' H' → ERel K S' ι' ρ' σ' → Ext S ι H S' ι' H' → Q σ' H'
    | .exc c p ρ' h' => ∀ cls dd S' ι' σ' H', HRel K S' ι' h' H' → ERel K S' ι' ρ' σ' → Ext S ι H S' ι' H' → XOk K mg c p cls dd S' ι' → W cls dd σ' H'
    | _ => False) : Post K mg W { nx := Q, rt := fun _ _ => False } S ι H o := by
  cases o with
  | nx _ _ => exact hp
  | exc _ _ _ _ => exact hp
  | _ => exact hp.elim
theorem sg_idx {ta tb : TE} {da db : Env → Hs → R D} (ha : SE K mg W ta da) (hb : SE K mg W tb db) : SG K mg W (gSub ta tb rSetAll) (fun d ρ h => (da ρ h).go ρ fun x h1 => (db ρ h1).go ρ fun y h2 => match setD x y d h2 with
    | some h3 => .nx ρ h3
    | none => .stuck) := by
  intro d v ρ h S ι σ H Q r re rv hp
  have hp' := post_of hp
  refine ha ρ h S ι σ H _ r re ((Post.go re hp').imp fun x h1 S1 ι1 H1 r1 ex1 p1 o ro => ?_)
  refine hb ρ h1 S1 ι1 σ H1 _ r1 (re.ext ex1) ((Post.go (re.ext ex1) p1).imp fun y h2 S2 ι2 H2 r2 ex2 p2 i ri => ?_)
  cases e : setD x y d h2 with
  | none => rw [e] at p2; exact False.elim p2
  | some h3 =>
    rw [e] at p2
    exact set_sound r2 (ro.ext ex2) ri ((rv.ext ex1).ext ex2) e fun H' r3 ex3 => p2 S2 ι2 σ H' r3 (((re.ext ex1).ext ex2).ext ex3) ex3
theorem sgs_cons {g : TG} {gs : TGs} {dg : D → Env → Hs → Out} {dgs : List D → Env → Hs → Out} (hg : SG K mg W g dg) (hgs : SGs K mg W gs dgs) : SGs K mg W (gCons g gs) (fun ds ρ h => match ds with
    | d :: r => (dg d ρ h).andThen fun ρ1 h1 => dgs r ρ1 h1
    | [] => .stuck) := by
  intro ds vs ρ h S ι σ H Q r re rv hp
  cases rv with
  | nil => exact hp.elim
  | @cons d v ds vs r1 rs =>
    refine ⟨v, vs, rfl, hg d v ρ h S ι σ H _ r re r1 ?_⟩
    dsimp only at hp
    cases e : dg d ρ h with
    | nx ρ1 h1 =>
      rw [e, Out.nx_then] at hp
      intro S1 ι1 σ1 H1 hr1 re1 ex1
      refine hgs ds vs ρ1 h1 S1 ι1 σ1 H1 Q hr1 re1 (rs.ext ex1) ?_
      cases e2 : dgs ds ρ1 h1 with
      | nx ρ2 h2 => rw [e2] at hp; exact fun S' ι' σ' H' a b x => hp S' ι' σ' H' a b (ex1.trans x)
      | exc x p ρ2 h2 => rw [e2] at hp; exact fun cls dd S' ι' σ' H' a b x xo => hp cls dd S' ι' σ' H' a b (ex1.trans x) xo
      | ret _ _ => rw [e2] at hp; exact hp
      | brk _ _ => rw [e2] at hp; exact hp
      | cnt _ _ => rw [e2] at hp; exact hp
      | stuck => rw [e2] at hp; exact hp
    | exc x p ρ1 h1 => rw [e] at hp; exact hp
    | ret _ _ => rw [e] at hp; exact hp.elim
    | brk _ _ => rw [e] at hp; exact hp.elim
    | cnt _ _ => rw [e] at hp; exact hp.elim
    | stuck => rw [e] at hp; exact hp.elim
/-- a tuple of targets, of as many members -/
theorem sg_tup {n : Nat} {gs : TGs} {dgs : List D → Env → Hs → Out} (hgs : SGs K mg W gs dgs) : SG K mg W (gTL K n gs) (fun d ρ h => match d with
    | .tup xs => if xs.length = n then dgs xs ρ h else .stuck
    | .vt xs => if xs.length = n then dgs xs ρ h else .stuck
    | .lst xs => if xs.length = n then dgs xs ρ h else .stuck
    | _ => .stuck) := by
  intro d v ρ h S ι σ H Q r re rv hp
  cases d with
  | tup xs =>
    cases rv with
    | @tup a vs _ e1 r1 =>
      dsimp only at hp
      by_cases hl : xs.length = n
      · rw [if_pos hl] at hp
        exact .inl ⟨a, vs, rfl, SqT.of (r.sub _ _ e1), by rw [← r1.length]; exact hl, hgs xs vs ρ h S ι σ H Q r re r1 hp⟩
      · rw [if_neg hl] at hp; exact hp.elim
  | vt xs =>
    cases rv with
    | @vt a o vs _ e1 _ r1 =>
      dsimp only at hp
      by_cases hl : xs.length = n
      · rw [if_pos hl] at hp
        exact .inl ⟨a, vs, rfl, SqT.up r.sub (vtT e1), by rw [← r1.length]; exact hl, hgs xs vs ρ h S ι σ H Q r re r1 hp⟩
      · rw [if_neg hl] at hp; exact hp.elim
  | lst xs =>
    cases rv with
    | @lst a vs _ e1 r1 =>
      dsimp only at hp
      by_cases hl : xs.length = n
      · rw [if_pos hl] at hp
        exact .inr ⟨a, vs, rfl, SqL.of (r.sub _ _ e1), by rw [← r1.length]; exact hl, hgs xs vs ρ h S ι σ H Q r re r1 hp⟩
      · rw [if_neg hl] at hp; exact hp.elim
  | _ => exact hp.elim
end

theorem tgs_pg {X : Cx} {es : List Expr} {g : TGs} {n : Nat} (p : PGs X es g) (h1 : (assignEach es X.env).length = n) (h2 : (assignEach es X.env).findIdx? (·.1) = none) (hc : X.calm = true) {k : Nat} {pos : Pos} : PG X (.Tuple es k pos) (gTL X.K n g) := pg_tl hc p h1 h2
theorem asub_of {o i : Expr} {pos : Pos} {env : PySem.Env} (h : notSlice i = true) : ∀ v, assign (.Subscript o i pos) env v = (do
      let ov ← holding [v] (eval o env)
      let iv ← holding [v, ov] (eval i env)
      standAt pos
      holding [v, ov, iv] (setItem ov iv v)
      release [v, ov, iv] []) := by
  intro v
  cases i <;> first | rfl | cases h
mutual
theorem Tg.soundG {c : Cfg} {bl fl : List Str} {X : Cx} {W : WX} (G : Good c bl fl X) (tk : Takes X W) : ∀ (t : Tg) (e : Expr), t.okG X.N bl fl X.fn X.env.scope e = true → ∃ g, PG X e g ∧ SG X.K X.mg W g (t.den c)
  | .name i, e, h => by
    unfold Tg.okG at h
    split at h
    · simp only [Bool.and_eq_true, decide_eq_true_eq, Bool.or_eq_true] at h
      exact ⟨_, pg_name G.nd h.1.1 (loc_of h.1.2) (h.2.imp id local_of), sg_name i⟩
    · cases h
  | .tup ts, e, h => by
    unfold Tg.okG at h
    split at h
    · obtain ⟨g, p, h1, h2, q⟩ := Tgs.soundG G tk ts _ h
      exact ⟨_, tgs_pg p h1 h2 G.calm, sg_tup q⟩
    · cases h
  | .idx a i, e, h => by
    unfold Tg.okG at h
    split at h
    · simp only [Bool.and_eq_true] at h
      obtain ⟨⟨h1, h2⟩, h3⟩ := h
      obtain ⟨ta, p1, q1⟩ := Ex.sound a X W G tk _ h1
      obtain ⟨tb, p2, q2⟩ := Ex.sound i X W G tk _ h2
      exact ⟨_, pg_sub p1 p2 (set_all (by have := G.un; omega)) (asub_of h3), sg_idx q1 q2⟩
    · cases h
theorem Tgs.soundG {c : Cfg} {bl fl : List Str} {X : Cx} {W : WX} (G : Good c bl fl X) (tk : Takes X W) : ∀ (ts : Tgs) (es : List Expr), ts.okG X.N bl fl X.fn X.env.scope es = true →
    ∃ g, PGs X es g ∧ (assignEach es X.env).length = ts.n ∧ (assignEach es X.env).findIdx? (·.1) = none ∧ SGs X.K X.mg W g (ts.den c)
  | .nil, es, h => by
    unfold Tgs.okG at h
    cases es with
    | nil => exact ⟨_, pgs_nil, rfl, rfl, Tgs.sg .nil rfl⟩
    | cons _ _ => cases h
  | .cons t ts, es, h => by
    unfold Tgs.okG at h
    cases es with
    | nil => cases h
    | cons e es =>
      dsimp only at h
      simp only [Bool.and_eq_true] at h
      obtain ⟨g1, p1, q1⟩ := Tg.soundG G tk t e h.1.2
      obtain ⟨g, p, k2, k3, q⟩ := Tgs.soundG G tk ts es h.2
      have hs : assignEach (e :: es) X.env = (false, assign e X.env) :: assignEach es X.env := by
        cases e <;> first | rfl | (have := h.1.1; cases this)
      refine ⟨_, pgs_cons p1 p (assign1 h.1.1), by rw [hs]; exact congrArg Nat.succ k2, ?_, sgs_cons q1 q⟩
      rw [hs, List.findIdx?_cons, k3]; rfl
end

/-! ### statements -/
def noSwap (sc : Scope) (t v : Expr) : Bool := match t, v with
  | .Tuple ts _ _, .Tuple vs _ _ => (match swapR sc ts vs with | some none => true | _ => false)
  | .List _ _, .Tuple _ _ _ => false
  | _, _ => true
theorem noswap_of {env : PySem.Env} (hk : env.scope.kind = .function) {t v : Expr} (h : noSwap env.scope t v = true) : swappedStores [t] v env = pure none := by
  cases t with
  | Tuple ts k p =>
    cases v with
    | Tuple vs k2 p2 =>
      unfold noSwap at h
      dsimp only at h
      split at h
      · rename_i e; exact swapped_of hk e
      · cases h
    | _ => rfl
  | List ts p =>
    cases v with
    | Tuple vs k2 p2 => cases h
    | _ => rfl
  | _ => cases v <;> rfl
def isTupE : Expr → Bool
  | .Tuple _ _ _ => true
  | _ => false
theorem swaps_tup {e t : Expr} {l : Nat} {env : PySem.Env} (h : isTupE t = true) : swapsWith e (some t) l env = pure false := by
  cases t <;> first | (cases e <;> rfl) | cases h
def isCst : Ex → Bool
  | .cint _ => true
  | .cbl _ => true
  | .cnon => true
  | .cstr _ => true
  | _ => false
def isLc : Ex → Bool
  | .lc .. => true
  | _ => false
/-- what an except suite hands back; n: the error's name -/
def Hx.ok (bl xl : List Str) (sc : Scope) (n : Str) : Hx → Expr → Bool
  | .cint i, e => match e with
    | .Constant (.int j) _ _ => decide (i = j)
    | _ => false
  | .cbl i, e => match e with
    | .Constant (.bool j) _ _ => decide (i = j)
    | _ => false
  | .cnon, e => match e with
    | .Constant .none _ _ => true
    | _ => false
  | .cstr i, e => match e with
    | .Constant (.str j) _ _ => decide (i = j)
    | _ => false
  | .isi x, e => match e with
    | .Call (.Name f _) [.Name m _, .Name y _] [] _ => decide (f = ("isinstance" : Str)) && bl.contains f && glb sc f && nodbg m && decide (m = n) && decide (y = x) && xl.contains y && glb sc y && nodbg y
    | _ => false
  | .isv, e => match e with
    | .Call (.Name f _) [.Name m _, .Name y _] [] _ => decide (f = ("isinstance" : Str)) && bl.contains f && glb sc f && nodbg m && decide (m = n) && decide (y = ("ValueError" : Str)) && bl.contains y && glb sc y
    | _ => false
  | .and a b, e => match e with
    | .BoolOp .And (x :: y :: r) pos => a.ok bl xl sc n x && (match r with | [] => b.ok bl xl sc n y | z :: r => b.ok bl xl sc n (.BoolOp .And (y :: z :: r) pos))
    | _ => false
  | .not a, e => match e with
    | .UnaryOp .Not x _ => a.ok bl xl sc n x
    | _ => false
  | .pick a b i, e => match e with
    | .Subscript (.List [x, y] _) (.Call (.Name f _) [z] [] _) _ => decide (f = ("int" : Str)) && bl.contains f && glb sc f && a.ok bl xl sc n x && notStar x && b.ok bl xl sc n y && notStar y && i.ok bl xl sc n z && notStar z
    | _ => false
def isFz : Sm → Bool
  | .fz _ => true
  | _ => false
mutual
def Sm.ok (N bl fl xl : List Str) (sc : Scope) : Sm → Stmt → Bool
  | .set i e, s => match s with
    | .Assign [.Name x p] v _ => decide (N[i]? = some x) && loc sc x && e.ok N bl fl sc v && (notComp v || isLc e)
    | _ => false
  | .asg tg e, s => match s with
    | .Assign [t] v _ => e.ok N bl fl sc v && (notComp v || isTupE t) && notStar t && tg.okG N bl fl (fun _ => true) sc t && noSwap sc t v
    | _ => false
  | .par is es, s => match s with
    | .Assign [.Tuple [.Name x px, .Name y py] _ _] (.Tuple [a, b] _ _) _ => (match is with
      | [i, j] => decide (N[i]? = some x) && decide (N[j]? = some y) && decide (i ≠ j) && isLocal sc x && isLocal sc y && es.ok N bl fl sc [a, b] &&
        decide (swapR sc [.Name x px, .Name y py] [a, b] = some (some [x, y]))
      | _ => false)
    | .Assign [.Tuple [.Name x px, .Name y py, .Name z pz] _ _] (.Tuple [a, b, d] _ _) _ => (match is with
      | [i, j, k] => decide (N[i]? = some x) && decide (N[j]? = some y) && decide (N[k]? = some z) && decide (i ≠ j) && decide (i ≠ k) && decide (j ≠ k) && isLocal sc x && isLocal sc y && isLocal sc z && es.ok N bl fl sc [a, b, d] &&
        decide (swapR sc [.Name x px, .Name y py, .Name z pz] [a, b, d] = some (some [x, y, z]))
      | _ => false)
    | _ => false
  | .aug i o e, s => match s with
    | .AugAssign (.Name x _) p v _ => decide (o.op = p) && decide (N[i]? = some x) && loc sc x && e.ok N bl fl sc v
    | _ => false
  | .expr e, s => match s with
    | .Expr v _ => e.ok N bl fl sc v && notComp v
    | _ => false
  | .ret e, s => match s with
    | .Return (some v) _ => e.ok N bl fl sc v
    | _ => false
  | .retN, s => match s with
    | .Return none _ => true
    | _ => false
  | .ite t a b, s => match s with
    | .If c x y _ => t.ok N bl fl sc c && a.ok N bl fl xl sc x && b.ok N bl fl xl sc y
    | _ => false
  | .while t b, s => match s with
    | .While c x [] _ => t.ok N bl fl sc c && b.ok N bl fl xl sc x
    | _ => false
  | .for tg it b, s => match s with
    | .For t i x [] _ => it.ok N bl fl sc t i && tg.okG N bl fl (fun _ => true) sc t && b.ok N bl fl xl sc x
    | _ => false
  | .pass, s => match s with
    | .Pass _ => true
    | _ => false
  | .brk, s => match s with
    | .Break _ => true
    | _ => false
  | .cnt, s => match s with
    | .Continue _ => true
    | _ => false
  | .raise x, s => match s with
    | .Raise (some (.Call (.Name y _) [.Constant (.str _) _ _] [] _)) none _ => decide (y = x) && xl.contains x && glb sc y && nodbg y
    | _ => false
  | .tryR b x e, s => match s with
    | .Try bd [.ExceptHandler (some (.Name y _)) none [.Return (some v) _] _] [] [] _ => decide (y = x) && xl.contains x && glb sc y && nodbg y && b.ok N bl fl xl sc bd && isCst e && e.ok N bl fl sc v
    | _ => false
  | .tryA b x i e, s => match s with
    | .Try bd [.ExceptHandler (some (.Name y _)) (some n) [.Return (some v) _] _] [] [] _ => decide (y = x) && xl.contains x && glb sc y && nodbg y && b.ok N bl fl xl sc bd && decide (N[i]? = some n) && isLocal sc n && nodbg n && e.ok bl xl sc n v
    | _ => false
  | .fz _, _ => false
def Sms.ok (N bl fl xl : List Str) (sc : Scope) : Sms → List Stmt → Bool
  | .nil, ss => ss.isEmpty
  | .cons a as, ss => if isFz a then as.ok N bl fl xl sc ss else match ss with
    | s :: r => a.ok N bl fl xl sc s && as.ok N bl fl xl sc r
    | [] => false
end
abbrev veBm : List Value := [.type "ValueError", .type "Exception", .type "BaseException", .type "object"]
def XFact (X : Cx) (x : Str) : Prop := ∃ C : Addr, X.mg x = some (.ref C) ∧ PySem.W.excIn X.K C veBm "ValueError.__new__" = true ∧ PySem.W.keepIn X.K (.ref C) = true ∧
  PySem.W.subIn X.K (.ref C) (.type "BaseException") = some true ∧ PySem.W.typeIn X.K (.ref C) = some (.type "type")
structure GoodS (c : Cfg) (bl fl xl : List Str) (X : Cx) : Prop extends Good c bl fl X where
  fnT : ∀ x, X.fn x = true
  po : PassesOwn (model X.prog X.w) X.A X.env X.xe
  xf : ∀ x, xl.contains x = true → XFact X x
  xm : ∀ k x, xl.contains k = true → xl.contains x = true → ∃ C E : Addr, X.mg k = some (.ref C) ∧ X.mg x = some (.ref E) ∧ PySem.W.exmOne X.K (.ref C) (.ref E) = some (supOf k x)
  xi : ∀ k x, xl.contains k = true → xl.contains x = true → ∃ C E : Addr, X.mg k = some (.ref C) ∧ X.mg x = some (.ref E) ∧ ExcC X.K C ∧ PySem.W.kitOne X.K (.ref C) (.type "ValueError") = some true ∧ PySem.W.kitOne X.K (.ref C) (.ref E) = some (supOf k x)
  stk : X.stack = X.env :: X.outer
  frm : X.env.frame = some X.env.locals
section
variable {K : PySem.W.Frag} {mg : Str → Option Value} {W : WX} {c : Cfg} {ta tb : TE} {da db : Env → Hs → R D} {tt : TT} {dt : Env → Hs → R Bool} {t u : TS} {dt' du : Env → Hs → Out}
theorem ss_seq (h1 : SS K mg W t dt') (h2 : SS K mg W u du) : SS K mg W (tSeq t u) (fun ρ h => (dt' ρ h).andThen du) := by
  intro ρ h S ι σ H D' r re hp
  refine h1 ρ h S ι σ H _ r re ?_
  replace hp : Post K mg W D' S ι H ((dt' ρ h).andThen du) := hp
  cases e : dt' ρ h with
  | nx ρ1 h1 =>
    rw [e] at hp
    exact fun S1 ι1 σ1 H1 r1 re1 ex1 => h2 ρ1 h1 S1 ι1 σ1 H1 D' r1 re1 (Post.ext (show Post K mg W D' S ι H (du ρ1 h1) from hp) ex1)
  | ret d h1 => rw [e] at hp; exact hp
  | brk ρ1 h1 => rw [e] at hp; exact hp
  | cnt ρ1 h1 => rw [e] at hp; exact hp
  | exc x p ρ1 h1 => rw [e] at hp; exact hp
  | stuck => rw [e] at hp; exact hp
theorem ss_next : SS K mg W tNext (fun ρ h => .nx ρ h) := fun ρ h S ι σ H D' r re hp => hp S ι σ H r re Ext.refl
/-- a target's wish out of a statement's -/
def straight : Out → Prop
  | .nx _ _ => True
  | .exc _ _ _ _ => True
  | .stuck => True
  | _ => False
theorem straight_go {α : Type} {x : R α} {ρ : Env} {f : α → Hs → Out} (h : ∀ a h', straight (f a h')) : straight (x.go ρ f) := by
  cases x with
  | ok a h' => exact h a h'
  | exc _ _ _ => trivial
  | stuck => trivial
theorem straight_then {o : Out} {f : Env → Hs → Out} (h1 : straight o) (h2 : ∀ ρ h, straight (f ρ h)) : straight (o.andThen f) := by
  cases o with
  | nx ρ h => exact h2 ρ h
  | exc _ _ _ _ => trivial
  | stuck => trivial
  | _ => exact h1.elim
theorem g_of {S : Hp} {ι : List Addr} {H : Hp} {D' : Ends} {o : Out} : Post K mg W D' S ι H o → straight o → match o with
    | .nx ρ' h' => ∀ S' ι' σ' H', HRel K S' ι' h' H' → ERel K S' ι' ρ' σ' → Ext S ι H S' ι' H' → D'.nx σ' H'
    | .exc c p ρ' h' => ∀ cls dd S' ι' σ' H', HRel K S' ι' h' H' → ERel K S' ι' ρ' σ' → Ext S ι H S' ι' H' → XOk K mg c p cls dd S' ι' → W cls dd σ' H'
    | _ => False := by
  intro hp ho
  cases o with
  | nx _ _ => exact hp
  | exc _ _ _ _ => exact hp
  | stuck => exact hp
  | _ => exact ho.elim
mutual
theorem Tg.straight (c : Cfg) : ∀ (t : Tg) (d : D) (ρ : Env) (h : Hs), straight (t.den c d ρ h)
  | .name i, d, ρ, h => by
    show Ev.straight (if i < ρ.length then _ else _)
    split <;> trivial
  | .tup ts, d, ρ, h => by
    cases d with
    | tup xs =>
      show Ev.straight (if xs.length = ts.n then _ else _)
      split
      · exact Tgs.straight c ts xs ρ h
      · trivial
    | vt xs =>
      show Ev.straight (if xs.length = ts.n then _ else _)
      split
      · exact Tgs.straight c ts xs ρ h
      · trivial
    | lst xs =>
      show Ev.straight (if xs.length = ts.n then _ else _)
      split
      · exact Tgs.straight c ts xs ρ h
      · trivial
    | _ => trivial
  | .idx a i, d, ρ, h => by
    refine straight_go fun x h1 => straight_go fun y h2 => ?_
    split <;> trivial
theorem Tgs.straight (c : Cfg) : ∀ (ts : Tgs) (ds : List D) (ρ : Env) (h : Hs), straight (ts.den c ds ρ h)
  | .nil, ds, ρ, h => by
    cases ds <;> trivial
  | .cons t ts, ds, ρ, h => by
    cases ds with
    | nil => trivial
    | cons d ds => exact straight_then (Tg.straight c t d ρ h) fun ρ1 h1 => Tgs.straight c ts ds ρ1 h1
end
theorem ss_asg {g : TG} {dg : D → Env → Hs → Out} (ha : SE K mg W ta da) (hg : SG K mg W g dg) (hst : ∀ d ρ h, straight (dg d ρ h)) : SS K mg W (tAsg ta g) (fun ρ h => (da ρ h).go ρ fun d h1 => dg d ρ h1) := by
  intro ρ h S ι σ H D' r re hp
  refine ha ρ h S ι σ H _ r re ((Post.go re hp).imp fun x h1 S1 ι1 H1 r1 ex1 p1 v rv => ?_)
  exact hg x v ρ h1 S1 ι1 σ H1 _ r1 (re.ext ex1) rv (g_of p1 (hst x ρ h1))
theorem ss_set (i : Nat) (ha : SE K mg W ta da) : SS K mg W (tAsg ta (gName i)) (fun ρ h => (da ρ h).go ρ fun d h1 => setS ρ i d h1) := by
  have := ss_asg (W := W) ha (sg_name (c := ⟨fun _ _ _ => .stuck, fun _ => none, [], 0⟩) i) (Tg.straight _ (.name i))
  exact this
theorem ss_expr (ha : SE K mg W ta da) : SS K mg W (tDrop ta) (fun ρ h => (da ρ h).go ρ fun _ h1 => .nx ρ h1) := by
  intro ρ h S ι σ H D' r re hp
  exact ha ρ h S ι σ H _ r re ((Post.go re hp).imp fun x h1 S1 ι1 H1 r1 ex1 p1 v rv => p1 S1 ι1 σ H1 r1 (re.ext ex1) Ext.refl)
theorem ss_ret (ha : SE K mg W ta da) : SS K mg W (tRet ta) (fun ρ h => (da ρ h).go ρ fun d h1 => .ret d h1) := by
  intro ρ h S ι σ H D' r re hp
  exact ha ρ h S ι σ H _ r re ((Post.go re hp).imp fun x h1 S1 ι1 H1 r1 ex1 p1 v rv => p1 v S1 ι1 H1 r1 Ext.refl rv)
theorem ss_retN : SS K mg W tRetN (fun _ h => .ret .non h) := fun ρ h S ι σ H D' r re hp => hp .non S ι H r Ext.refl .non
theorem ss_ite (hc : ST K mg W tt dt) (h1 : SS K mg W t dt') (h2 : SS K mg W u du) : SS K mg W (tIfS tt t u) (fun ρ h => (dt ρ h).go ρ fun k h1 => if k = true then dt' ρ h1 else du ρ h1) := by
  intro ρ h S ι σ H D' r re hp
  refine hc ρ h S ι σ H _ r re ((Post.go re hp).imp fun k h1' S1 ι1 H1 r1 ex1 p1 => ?_)
  cases k with
  | true => rw [if_pos rfl] at p1 ⊢; exact h1 ρ h1' S1 ι1 σ H1 D' r1 (re.ext ex1) p1
  | false => rw [if_neg Bool.false_ne_true] at p1 ⊢; exact h2 ρ h1' S1 ι1 σ H1 D' r1 (re.ext ex1) p1
theorem ss_while {F : Nat} (hc : ST K mg W tt dt) (hb : SS K mg W t dt') : SS K mg W (tWhile tt t) (fun ρ h => whileD dt dt' F ρ h) := fun ρ h S ι σ H D' r re hp => while_sound hc hb r re hp
theorem ss_for {wi : TI} {di : Env → Hs → R (List D)} {g : TG} {dg : D → Env → Hs → Out} (hi : SI K mg W wi di) (hg : SG K mg W g dg) (hb : SS K mg W t dt') : SS K mg W (tFor wi g t) (fun ρ h => (di ρ h).go ρ fun xs h1 => forD dg dt' xs ρ h1) := by
  intro ρ h S ι σ H D' r re hp
  exact hi ρ h S ι σ H _ r re ((Post.go re hp).imp fun xs h1 S1 ι1 H1 r1 ex1 p1 J hJ => for_sound hg hb hJ r1 (re.ext ex1) p1)
def rAug (o : BOp) : R2 := match o with
  | .add => fun x y H Q => rI0 (fun i j => .int (i + j)) x y H Q ∨ rAddS x y H Q
  | .sub => rI0 fun i j => .int (i - j)
  | .mul => rI CMul fun i j => .int (i * j)
  | .fdiv => rI CDiv fun i j => .int (i / j)
  | .mod => rI (fun _ j => 0 < j) fun i j => .int (i % j)
  | .pow => fun _ _ _ _ => False
theorem aug_ok {o : BOp} {x y : D} {z : D} {S : Hp} {ι : List Addr} {v u : V} (rx : RV K S ι x v) (ry : RV K S ι y u) (e : augD o x y = some z) {H : Hp} {Q : VK} (hQ : ∀ w, RV K S ι z w → Q w H) : rAug o v u H Q := by
  cases rx with
  | int i =>
    cases ry with
    | int j =>
      cases o with
      | add => cases e; exact .inl ⟨_, _, rfl, rfl, hQ _ (.int _)⟩
      | sub => cases e; exact ⟨_, _, rfl, rfl, hQ _ (.int _)⟩
      | mul =>
        replace e : (if (-(2 ^ 64) < i ∧ i < 2 ^ 64) ∨ (-(2 ^ 64) < j ∧ j < 2 ^ 64) then some (D.int (i * j)) else none) = some z := e
        split at e
        · rename_i hc; cases e; exact ⟨_, _, rfl, rfl, hc, hQ _ (.int _)⟩
        · cases e
      | fdiv =>
        replace e : (if 0 < j ∧ j < 1073741824 then some (D.int (i / j)) else none) = some z := e
        split at e
        · rename_i hc; cases e; exact ⟨_, _, rfl, rfl, hc, hQ _ (.int _)⟩
        · cases e
      | mod =>
        replace e : (if 0 < j then some (D.int (i % j)) else none) = some z := e
        split at e
        · rename_i hc; cases e; exact ⟨_, _, rfl, rfl, hc, hQ _ (.int _)⟩
        · cases e
      | pow => cases e
    | _ => cases o <;> cases e
  | str i =>
    cases ry with
    | str j =>
      cases o with
      | add =>
        replace e : (if i.length + j.length ≤ LN then some (D.str (i ++ j)) else none) = some z := e
        split at e
        · rename_i hc; cases e; exact .inr ⟨_, _, rfl, rfl, line_of hc, hQ _ (.str _)⟩
        · cases e
      | _ => cases e
    | _ => cases o <;> cases e
  | _ => cases o <;> cases e
theorem aug_op {X : Cx} (o : BOp) : OpR X (inplaceOp o.op) (rAug o) := by
  cases o with
  | add => exact iop_add.or iop_add_str
  | sub => exact iop_sub
  | mul => exact iop_mul
  | fdiv => exact iop_fdiv
  | mod => exact iop_mod
  | pow => exact fun _ _ _ _ _ _ _ _ _ _ _ _ z => z.elim
theorem ss_aug (i : Nat) (o : BOp) (ha : SE K mg W ta da) : SS K mg W (tAug i ta (rAug o)) (fun ρ h => match ρ[i]? with
    | some (some x) => (da ρ h).go ρ fun y h1 => match augD o x y with
      | some z => setS ρ i z h1
      | none => .stuck
    | _ => .stuck) := by
  intro ρ h S ι σ H D' r re hp
  dsimp only at hp
  split at hp
  · rename_i x e
    obtain ⟨v, ev, rv⟩ := re.2 i x e
    refine ⟨v, ev, ?_⟩
    refine ha ρ h S ι σ H _ r re ((Post.go re hp).imp fun y h1 S1 ι1 H1 r1 ex1 p1 u ru => ?_)
    cases q : augD o x y with
    | none => rw [q] at p1; exact False.elim p1
    | some z =>
      rw [q] at p1
      refine aug_ok (rv.ext ex1) ru q fun w rw' => ?_
      replace p1 : Post K mg W D' S1 ι1 H1 (if i < ρ.length then Out.nx (ρ.set i (some z)) h1 else .stuck) := p1
      split at p1
      · exact p1 S1 ι1 _ H1 r1 (erel_set (re.ext ex1) rw') Ext.refl
      · exact p1.elim
  · exact hp.elim
theorem erel_len {S : Hp} {ι : List Addr} {ρ : Env} {σ : L2.St} (re : ERel K S ι ρ σ) : ρ.length = σ.length := re.1
theorem ss_par2 {i j : Nat} {tl : TA} {dl : Env → Hs → R (List D)} (hl : SA K mg W tl dl) : SS K mg W (tPar i j tl) (fun ρ h => (dl ρ h).go ρ fun ds h1 => match ds with
    | [x, y] => if i < ρ.length ∧ j < ρ.length then .nx ((ρ.set i (some x)).set j (some y)) h1 else .stuck
    | _ => .stuck) := by
  intro ρ h S ι σ H D' r re hp
  refine hl ρ h S ι σ H _ r re ((Post.go re hp).imp fun ds h1 S1 ι1 H1 r1 ex1 p1 vs rs => ?_)
  split at p1
  · obtain ⟨v, u, rfl, rv, ru⟩ := rs.two
    split at p1
    · exact ⟨v, u, rfl, p1 S1 ι1 _ H1 r1 (erel_set (erel_set (re.ext ex1) rv) ru) Ext.refl⟩
    · exact p1.elim
  · exact p1.elim
theorem ss_par3 {i j k : Nat} {tl : TA} {dl : Env → Hs → R (List D)} (hl : SA K mg W tl dl) : SS K mg W (tPar3 i j k tl) (fun ρ h => (dl ρ h).go ρ fun ds h1 => match ds with
    | [x, y, z] => if i < ρ.length ∧ j < ρ.length ∧ k < ρ.length then .nx (((ρ.set i (some x)).set j (some y)).set k (some z)) h1 else .stuck
    | _ => .stuck) := by
  intro ρ h S ι σ H D' r re hp
  refine hl ρ h S ι σ H _ r re ((Post.go re hp).imp fun ds h1 S1 ι1 H1 r1 ex1 p1 vs rs => ?_)
  split at p1
  · obtain ⟨v, u, w, rfl, rv, ru, rw'⟩ := rs.three
    split at p1
    · exact ⟨v, u, w, rfl, p1 S1 ι1 _ H1 r1 (erel_set (erel_set (erel_set (re.ext ex1) rv) ru) rw') Ext.refl⟩
    · exact p1.elim
  · exact p1.elim
end
end Ev
set_option maxHeartbeats 1000000
/-! Ev, part N: statements are sound; defs. -/
namespace Ev
open PySem PySem.Spec PyProof.Rows L2

theorem den_par2 {c : Cfg} {i j : Nat} {es : Exs} : Sm.den c (.par [i, j] es) = fun ρ h => (es.den c ρ h).go ρ fun ds h1 => match ds with
    | [x, y] => if i < ρ.length ∧ j < ρ.length then .nx ((ρ.set i (some x)).set j (some y)) h1 else .stuck
    | _ => .stuck := by
  funext ρ h
  refine congrArg (fun f => (es.den c ρ h).go ρ f) (funext fun ds => funext fun h1 => ?_)
  match ds with
  | [] => rfl
  | [x] => rfl
  | [x, y] => rfl
  | x :: y :: z :: r => rfl
theorem den_par3 {c : Cfg} {i j k : Nat} {es : Exs} : Sm.den c (.par [i, j, k] es) = fun ρ h => (es.den c ρ h).go ρ fun ds h1 => match ds with
    | [x, y, z] => if i < ρ.length ∧ j < ρ.length ∧ k < ρ.length then .nx (((ρ.set i (some x)).set j (some y)).set k (some z)) h1 else .stuck
    | _ => .stuck := by
  funext ρ h
  refine congrArg (fun f => (es.den c ρ h).go ρ f) (funext fun ds => funext fun h1 => ?_)
  match ds with
  | [] => rfl
  | [x] => rfl
  | [x, y] => rfl
  | [x, y, z] => rfl
  | x :: y :: z :: w :: r => rfl
/-- constants, wherever they stand -/
theorem cst_sound {c : Cfg} {N : List Str} {bl fl : List Str} {sc : Scope} (e : Ex) (v : Expr) (hc : isCst e = true) (h : e.ok N bl fl sc v = true) : ∃ (te : TE) (d : D), (∀ X : Cx, PE X v te) ∧ (∀ ρ h, (e.dt c).1 ρ h = .ok d h) ∧ ∀ (σ : L2.St) (H : Hp) (Q : VK) (K : PySem.W.Frag) (S : Hp) (ι : List Addr), (∀ u, RV K S ι d u → Q u H) → te σ H Q := by
  cases e with
  | cint i =>
    unfold Ex.ok at h
    split at h
    · have := of_decide_eq_true h; subst this
      exact ⟨_, .int i, fun _ => pe_int, fun _ _ => rfl, fun σ H Q K S ι q => q _ (.int i)⟩
    · cases h
  | cbl b =>
    unfold Ex.ok at h
    split at h
    · have := of_decide_eq_true h; subst this
      exact ⟨_, .bl b, fun _ => pe_bl, fun _ _ => rfl, fun σ H Q K S ι q => q _ (.bl b)⟩
    · cases h
  | cnon =>
    unfold Ex.ok at h
    split at h
    · exact ⟨_, .non, fun _ => pe_non, fun _ _ => rfl, fun σ H Q K S ι q => q _ .non⟩
    · cases h
  | cstr s =>
    unfold Ex.ok at h
    split at h
    · have := of_decide_eq_true h; subst this
      exact ⟨_, .str s, fun _ => pe_str, fun _ _ => rfl, fun σ H Q K S ι q => q _ (.str s)⟩
    · cases h
  | _ => cases hc
theorem GoodS.tr {c : Cfg} {bl fl xl : List Str} {X : Cx} (G : GoodS c bl fl xl X) (pn : List (Addr × Obj)) (xe : Value → Shared → Prop) (po : PassesOwn (model X.prog X.w) X.A X.env xe) : GoodS c bl fl xl (X.tr pn xe) :=
  { calm := G.calm, nd := G.nd, kind := G.kind, un := G.un, gd := G.gd, blt := G.blt, gl := G.gl, fns := G.fns, fnT := G.fnT, po := po, xf := G.xf, xm := G.xm, xi := G.xi, stk := G.stk, frm := G.frm }
/-- what an except suite hands back, told of the class alone -/
theorem hx_sound {c : Cfg} {bl fl xl : List Str} {X : Cx} (G : GoodS c bl fl xl X) {n : Str} {i : Nat} (hn : X.N[i]? = some n) (hloc : X.env.scope.names.lookup n = some .local) (hnd : nodbg n = true) {k : Str} (hk : xl.contains k = true) {C : Addr} (mk : X.mg k = some (.ref C))
    {a : Addr} {oe : Obj} {pn : List (Addr × Obj)} (hz : Zc (.ref C) none oe) (hf : ∃ vs, oe.data = .fields vs) : ∀ (e : Hx) (v : Expr), e.ok bl xl X.env.scope n v = true →
    ∃ te, PE (X.suite a ((a, oe) :: pn)) v te ∧ ∀ d, e.val k = some d → ∀ (S : Hp) (ι : List Addr) (h : Hs) (σ : L2.St) (H : Hp) (Q : VK), σ[i]? = some (some (.ref a)) → HRel X.K S ι h H →
      (∀ u S' H', HRel X.K S' ι h H' → Ext S ι H S' ι H' → RV X.K S' ι d u → Q u H') → te σ H Q
  | .cint j, v, ho => by
    unfold Hx.ok at ho
    split at ho
    · have := of_decide_eq_true ho; subst this
      exact ⟨_, pe_int, fun d e S ι h σ H Q _ r q => by cases e; exact q _ S H r Ext.refl (.int _)⟩
    · cases ho
  | .cbl j, v, ho => by
    unfold Hx.ok at ho
    split at ho
    · have := of_decide_eq_true ho; subst this
      exact ⟨_, pe_bl, fun d e S ι h σ H Q _ r q => by cases e; exact q _ S H r Ext.refl (.bl _)⟩
    · cases ho
  | .cnon, v, ho => by
    unfold Hx.ok at ho
    split at ho
    · exact ⟨_, pe_non, fun d e S ι h σ H Q _ r q => by cases e; exact q _ S H r Ext.refl .non⟩
    · cases ho
  | .cstr j, v, ho => by
    unfold Hx.ok at ho
    split at ho
    · have := of_decide_eq_true ho; subst this
      exact ⟨_, pe_str, fun d e S ι h σ H Q _ r q => by cases e; exact q _ S H r Ext.refl (.str _)⟩
    · cases ho
  | .isi x, v, ho => by
    unfold Hx.ok at ho
    split at ho
    · simp only [Bool.and_eq_true, decide_eq_true_eq] at ho
      obtain ⟨⟨⟨⟨⟨⟨⟨⟨rfl, h1⟩, h2⟩, h3⟩, rfl⟩, rfl⟩, h4⟩, h5⟩, h6⟩ := ho
      obtain ⟨C', E, m1, m2, hC, _, ki⟩ := G.xi k _ hk h4
      rw [mk] at m1
      cases m1
      refine ⟨_, pe_callB (call_isE hC hz hf) (gl_of (X := X.suite a ((a, oe) :: pn)) h2) (G.blt _ h1) (show bootBuiltins "isinstance" = _ by decide +kernel) (pa_cons (pe_var (X := X.suite a ((a, oe) :: pn)) (i := i) hn (vis_of (by unfold vis; rw [hloc])) (dbg1 hnd) (dbg2 hnd)) (pa_cons (pe_glob (X := X.suite a ((a, oe) :: pn)) (gl_of (X := X.suite a ((a, oe) :: pn)) h5) m2 (show L2.RelV (.ref E) (.ref E) from rfl) (dbg1 h6)) pa_nil)), fun d e S ι h σ H Q hs r q => ?_⟩
      cases e
      refine ⟨_, hs, .ref E, .ref E, _, rfl, fun u ru => (by cases ru; rfl), ki, q _ S H r Ext.refl (.bl _)⟩
    · cases ho
  | .isv, v, ho => by
    unfold Hx.ok at ho
    split at ho
    · simp only [Bool.and_eq_true, decide_eq_true_eq] at ho
      obtain ⟨⟨⟨⟨⟨⟨⟨rfl, h1⟩, h2⟩, h3⟩, rfl⟩, rfl⟩, h4⟩, h5⟩ := ho
      obtain ⟨C', E, m1, m2, hC, kv, _⟩ := G.xi k k hk hk
      rw [mk] at m1
      cases m1
      refine ⟨_, pe_callB (call_isE hC hz hf) (gl_of (X := X.suite a ((a, oe) :: pn)) h2) (G.blt _ h1) (show bootBuiltins "isinstance" = _ by decide +kernel) (pa_cons (pe_var (X := X.suite a ((a, oe) :: pn)) (i := i) hn (vis_of (by unfold vis; rw [hloc])) (dbg1 hnd) (dbg2 hnd)) (pa_cons (pe_bltn (X := X.suite a ((a, oe) :: pn)) (gl_of (X := X.suite a ((a, oe) :: pn)) h5) (G.blt _ h4) (show bootBuiltins "ValueError" = some (.type "ValueError") by decide +kernel) (show L2.RelV (.ty "ValueError") (.type "ValueError") from rfl) (by decide) (by decide)) pa_nil)), fun d e S ι h σ H Q hs r q => ?_⟩
      cases e
      refine ⟨_, hs, .ty "ValueError", .type "ValueError", true, rfl, fun u ru => ?_, kv, q _ S H r Ext.refl (.bl _)⟩
      cases u <;> first | cases ru; rfl | cases ru
    · cases ho
  | .and x y, v, ho => by
    unfold Hx.ok at ho
    split at ho
    · rw [Bool.and_eq_true] at ho
      obtain ⟨h1, h2⟩ := ho
      obtain ⟨ta, p1, q1⟩ := hx_sound G hn hloc hnd hk mk (pn := pn) hz hf x _ h1
      have key : ∀ (tb : TE), (∀ d, y.val k = some d → ∀ (S : Hp) (ι : List Addr) (h : Hs) (σ : L2.St) (H : Hp) (Q : VK), σ[i]? = some (some (.ref a)) → HRel X.K S ι h H →
          (∀ u S' H', HRel X.K S' ι h H' → Ext S ι H S' ι H' → RV X.K S' ι d u → Q u H') → tb σ H Q) → ∀ d, (Hx.and x y).val k = some d → ∀ (S : Hp) (ι : List Addr) (h : Hs) (σ : L2.St) (H : Hp) (Q : VK), σ[i]? = some (some (.ref a)) → HRel X.K S ι h H →
          (∀ u S' H', HRel X.K S' ι h H' → Ext S ι H S' ι H' → RV X.K S' ι d u → Q u H') → tAndV ta tb σ H Q := by
        intro tb q2 d e S ι h σ H Q hs r q
        replace e : (match x.val k with
          | some (.bl true) => y.val k
          | some (.bl false) => some (.bl false)
          | _ => none) = some d := e
        cases ex : x.val k with
        | none => rw [ex] at e; cases e
        | some dx =>
          rw [ex] at e
          refine q1 dx ex S ι h σ H _ hs r fun u S' H' r' x' ru => ?_
          cases ru with
          | bl b =>
            refine ⟨b, rfl, ?_⟩
            cases b with
            | true => rw [if_pos rfl]; exact q2 d e S' ι h σ H' Q hs r' fun u S2 H2 r2 x2 ru => q u S2 H2 r2 (x'.trans x2) ru
            | false => rw [if_neg Bool.false_ne_true]; cases e; exact q _ S' H' r' x' (.bl _)
          | _ => cases e
      split at h2
      · obtain ⟨tb, p2, q2⟩ := hx_sound G hn hloc hnd hk mk (pn := pn) hz hf y _ h2
        exact ⟨_, pe_and p1 (pe_one p2), key tb q2⟩
      · obtain ⟨tb, p2, q2⟩ := hx_sound G hn hloc hnd hk mk (pn := pn) hz hf y _ h2
        exact ⟨_, pe_and p1 p2, key tb q2⟩
    · cases ho
  | .not x, v, ho => by
    unfold Hx.ok at ho
    split at ho
    · obtain ⟨ta, p1, q1⟩ := hx_sound G hn hloc hnd hk mk (pn := pn) hz hf x _ ho
      refine ⟨_, pe_not p1, fun d e S ι h σ H Q hs r q => ?_⟩
      replace e : (match x.val k with
          | some (.bl b) => some (D.bl (!b))
          | _ => none) = some d := e
      cases ex : x.val k with
      | none => rw [ex] at e; cases e
      | some dx =>
        rw [ex] at e
        refine q1 dx ex S ι h σ H _ hs r fun u S' H' r' x' ru => ?_
        cases ru with
        | bl b => cases e; exact ⟨b, rfl, q _ S' H' r' x' (.bl _)⟩
        | _ => cases e
    · cases ho
  | .pick x y z, v, ho => by
    unfold Hx.ok at ho
    split at ho
    · simp only [Bool.and_eq_true, decide_eq_true_eq] at ho
      obtain ⟨⟨⟨⟨⟨⟨⟨⟨rfl, h1⟩, h2⟩, h3⟩, h4⟩, h5⟩, h6⟩, h7⟩, h8⟩ := ho
      obtain ⟨ta, p1, q1⟩ := hx_sound G hn hloc hnd hk mk (pn := pn) hz hf x _ h3
      obtain ⟨tb, p2, q2⟩ := hx_sound G hn hloc hnd hk mk (pn := pn) hz hf y _ h5
      obtain ⟨tc, p3, q3⟩ := hx_sound G hn hloc hnd hk mk (pn := pn) hz hf z _ h7
      refine ⟨_, pe_ix ix_list (pe_lst (pa_cons p1 (pa_cons p2 pa_nil (starOf h6)) (starOf h4))) (pe_callTy call_int1 (gl_of (X := X.suite a ((a, oe) :: pn)) h2) (G.blt _ h1) (show bootBuiltins "int" = _ by decide +kernel) (pa_cons p3 pa_nil (starOf h8)) (by decide) (by decide) (starOf h8) rfl) (fun _ _ => rfl), fun d e S ι h σ H Q hs r q => ?_⟩
      replace e : (match x.val k, y.val k, z.val k with
        | some x, some y, some (.bl j) => some (if j then y else x)
        | _, _, _ => none) = some d := e
      cases ex : x.val k with
      | none => rw [ex] at e; cases e
      | some dx =>
        cases ey : y.val k with
        | none => rw [ex, ey] at e; cases e
        | some dy =>
          cases ez : z.val k with
          | none => rw [ex, ey, ez] at e; cases e
          | some dz =>
            rw [ex, ey, ez] at e
            cases dz with
            | bl j =>
              cases e
              refine q1 dx ex S ι h σ H _ hs r fun u1 S1 H1 r1 x1 ru1 => ?_
              refine q2 dy ey S1 ι h σ H1 _ hs r1 fun u2 S2 H2 r2 x2 ru2 => ?_
              refine ⟨by show 2 ≤ sizeLine; rw [sizeLine_eq]; decide, fun p hp => ?_⟩
              have e3 := Ext.fz (o := .lst [u1, u2]) r2 hp
              refine q3 (.bl j) ez _ ι h σ _ _ hs (r2.fz hp) fun u3 S3 H3 r3 x3 ru3 => ?_
              cases ru3
              refine .inr ⟨j, rfl, ?_⟩
              have hL : SqL X.K H3 p [u1, u2] := SqL.of (r3.sub _ _ (x3.sub _ _ upd_same))
              have ru1' := ((ru1.ext x2).ext e3).ext x3
              have ru2' := (ru2.ext e3).ext x3
              have xx := ((x1.trans x2).trans e3).trans x3
              cases j with
              | true => exact ⟨p, [u1, u2], 1, u2, rfl, rfl, hL, rfl, q _ S3 H3 r3 xx ru2'⟩
              | false => exact ⟨p, [u1, u2], 0, u1, rfl, rfl, hL, rfl, q _ S3 H3 r3 xx ru1'⟩
            | _ => cases e
    · cases ho
mutual
theorem Sm.sound {c : Cfg} {bl fl xl : List Str} {X : Cx} {W : WX} (G : GoodS c bl fl xl X) (hx : ∀ x, c.xs.contains x = true → xl.contains x = true) (tk : Takes X W) : ∀ (sm : Sm) (s : Stmt), sm.ok X.N bl fl xl X.env.scope s = true → ∃ t, PS X s t ∧ SS X.K X.mg W t (sm.den c)
  | .set i e, s, h => by
    unfold Sm.ok at h
    split at h
    · simp only [Bool.and_eq_true, decide_eq_true_eq, Bool.or_eq_true] at h
      obtain ⟨⟨⟨h1, h2⟩, h3⟩, h4⟩ := h
      rename_i y py v pos
      have hf : X.fn y = true ∨ X.env.scope.names.lookup y = some .local := .inl (G.fnT y)
      by_cases hn : notComp v = true
      · obtain ⟨ta, p1, q1⟩ := Ex.sound e X W G.toGood tk _ h3
        exact ⟨_, ps_set G.nd h1 (loc_of h2) p1 (swaps_no _ _ hn) hf, ss_set i q1⟩
      · have hl : isLc e = true := h4.resolve_left hn
        cases e with
        | lc fz own tg it cond elt =>
          have h3' := h3
          unfold Ex.ok at h3'
          split at h3'
          · simp only [Bool.and_eq_true, decide_eq_true_eq] at h3'
            obtain ⟨⟨⟨⟨⟨rfl, k1⟩, k2⟩, k3⟩, k4⟩, k5⟩ := h3'
            rename_i x t it' ifs scope vp
            by_cases hs : swB X.env.scope y py vp scope = true
            · have hyl : X.env.scope.names.lookup y = some .local := by
                unfold swB at hs
                simp only [Bool.and_eq_true] at hs
                exact local_of hs.1.1
              have hk : BlkOk X.N X.env.scope scope own := blkOk_by k2
              obtain ⟨wi, p1, q1, s1⟩ := Itx.sound it X W G.toGood tk t it' k1
              have GB : ∀ z : Shared × Hp × Addr × List (Str × Addr) × List Addr, Good c bl fl (X.blk z.1 z.2.1 scope (compEnvC scope z.2.2.2.1 z.2.2.1 X.env) z.2.2.2.2) := fun z => G.toGood.blk hk.kind
              obtain ⟨te, p5, q5⟩ := PE.weak (T := Shared × Hp × Addr × List (Str × Addr) × List Addr) (F := fun z => X.blk z.1 z.2.1 scope (compEnvC scope z.2.2.2.1 z.2.2.1 X.env) z.2.2.2.2) (e := x) (K := X.K) (mg := X.mg) (W := fun _ _ _ _ => False) (de := elt.den c)
                fun z => Ex.sound elt _ (fun _ _ _ _ => False) (GB z) takes0 x k5
              obtain ⟨tt, p4, q4⟩ := PTs.weak (T := Shared × Hp × Addr × List (Str × Addr) × List Addr) (F := fun z => X.blk z.1 z.2.1 scope (compEnvC scope z.2.2.2.1 z.2.2.1 X.env) z.2.2.2.2) (es := ifs) (K := X.K) (mg := X.mg) (W := fun _ _ _ _ => False) (de := cond.tsts c)
                fun z => Exs.soundC cond _ (fun _ _ _ _ => False) (GB z) takes0 ifs k4
              refine ⟨_, ps_setLc G.calm G.nd h1 hyl ((swaps_lc G.kind).trans (by rw [hs])) p1 hk (g := tg.g X.K) (fun s H C cl fp => ?_) (fun s H C cl fp => p4 (s, H, C, cl, fp)) (fun s H C cl fp => p5 (s, H, C, cl, fp)) s1, ?_⟩
              · exact Tg.pg (X := X.blk s H scope (compEnvC scope cl C X.env) fp) (vs := List.map Prod.snd own) G.calm G.nd tg t k3
              · exact ss_set i (lc_sound q1 (Tg.sg tg (Tg.plain_of tg t k3)) (own_of k3) q4 q5)
            · obtain ⟨ta, p1, q1⟩ := Ex.sound _ X W G.toGood tk _ h3
              exact ⟨_, ps_set G.nd h1 (loc_of h2) p1 ((swaps_lc G.kind).trans (by rw [Bool.eq_false_iff.mpr hs])) hf, ss_set i q1⟩
          · cases h3'
        | _ => cases hl
    · cases h
  | .asg tg e, s, h => by
    unfold Sm.ok at h
    split at h
    · simp only [Bool.and_eq_true] at h
      obtain ⟨⟨⟨⟨h1, h2⟩, h3⟩, h4⟩, h5⟩ := h
      rename_i t v pos
      obtain ⟨ta, p1, q1⟩ := Ex.sound e X W G.toGood tk _ h1
      have hfn : (fun _ => true) = X.fn := funext fun x => (G.fnT x).symm
      rw [hfn] at h4
      obtain ⟨g, pg, sg⟩ := Tg.soundG G.toGood tk tg t h4
      have hs : swapsWithSole [t] v pos.line X.env = pure false := by
        rw [Bool.or_eq_true] at h2
        unfold swapsWithSole
        rcases h2 with h2 | h2
        · split <;> exact swaps_no _ _ h2
        · exact swaps_tup h2
      exact ⟨_, ps_asg p1 pg hs (noswap_of G.kind h5) (by rw [assign1 h3]; rfl), ss_asg q1 sg (Tg.straight c tg)⟩
    · cases h
  | .par is es, s, h => by
    unfold Sm.ok at h
    split at h
    · split at h
      · simp only [Bool.and_eq_true, decide_eq_true_eq] at h
        obtain ⟨⟨⟨⟨⟨⟨h1, h2⟩, h3⟩, h4⟩, h5⟩, h6⟩, h7⟩ := h
        obtain ⟨tl, p, q⟩ := Exs.sound es X W G.toGood tk _ h6
        exact ⟨_, ps_par G.calm G.nd h1 h2 h3 (local_of h4) (local_of h5) p (swapped_of G.kind h7), den_par2 ▸ ss_par2 q⟩
      · cases h
    · split at h
      · simp only [Bool.and_eq_true, decide_eq_true_eq] at h
        obtain ⟨⟨⟨⟨⟨⟨⟨⟨⟨⟨h1, h2⟩, h3⟩, h4⟩, h5⟩, h6⟩, h7⟩, h8⟩, h9⟩, h10⟩, h11⟩ := h
        obtain ⟨tl, p, q⟩ := Exs.sound es X W G.toGood tk _ h10
        exact ⟨_, Ev.ps_par3 G.calm G.nd h1 h2 h3 h4 h5 h6 (local_of h7) (local_of h8) (local_of h9) p (swapped_of G.kind h11), den_par3 ▸ ss_par3 q⟩
      · cases h
    · cases h
  | .aug i o e, s, h => by
    unfold Sm.ok at h
    split at h
    · simp only [Bool.and_eq_true, decide_eq_true_eq] at h
      obtain ⟨⟨⟨rfl, h1⟩, h2⟩, h3⟩ := h
      rename_i y _ _ _
      have hf : X.fn y = true ∨ X.env.scope.names.lookup y = some .local := .inl (G.fnT y)
      obtain ⟨ta, p1, q1⟩ := Ex.sound e X W G.toGood tk _ h3
      exact ⟨_, ps_aug G.nd h1 (loc_of h2) p1 (aug_op o) hf, ss_aug i o q1⟩
    · cases h
  | .expr e, s, h => by
    unfold Sm.ok at h
    split at h
    · simp only [Bool.and_eq_true] at h
      obtain ⟨ta, p1, q1⟩ := Ex.sound e X W G.toGood tk _ h.1
      exact ⟨_, ps_expr p1 (swaps_no _ _ h.2), ss_expr q1⟩
    · cases h
  | .ret e, s, h => by
    unfold Sm.ok at h
    split at h
    · obtain ⟨ta, p1, q1⟩ := Ex.sound e X W G.toGood tk _ h
      exact ⟨_, ps_ret p1, ss_ret q1⟩
    · cases h
  | .retN, s, h => by
    unfold Sm.ok at h
    split at h
    · exact ⟨_, ps_retN, ss_retN⟩
    · cases h
  | .ite t a b, s, h => by
    unfold Sm.ok at h
    split at h
    · simp only [Bool.and_eq_true] at h
      obtain ⟨tc, p0, _, q0⟩ := Ex.soundT t X W G.toGood tk _ h.1.1
      obtain ⟨ta, p1, q1⟩ := Sms.sound G hx tk a _ h.1.2
      obtain ⟨tb, p2, q2⟩ := Sms.sound G hx tk b _ h.2
      exact ⟨_, ps_if p0 p1 p2, ss_ite q0 q1 q2⟩
    · cases h
  | .while t b, s, h => by
    unfold Sm.ok at h
    split at h
    · simp only [Bool.and_eq_true] at h
      obtain ⟨tc, p0, _, q0⟩ := Ex.soundT t X W G.toGood tk _ h.1
      obtain ⟨ta, p1, q1⟩ := Sms.sound G hx tk b _ h.2
      exact ⟨_, ps_while G.po p0 p1, ss_while q0 q1⟩
    · cases h
  | .for tg it b, s, h => by
    unfold Sm.ok at h
    split at h
    · simp only [Bool.and_eq_true] at h
      have hfn : (fun _ => true) = X.fn := funext fun x => (G.fnT x).symm
      rw [hfn] at h
      obtain ⟨wi, p1, q1, s1⟩ := Itx.sound it X W G.toGood tk _ _ h.1.1
      obtain ⟨g, pg, sg⟩ := Tg.soundG G.toGood tk tg _ h.1.2
      obtain ⟨ta, p2, q2⟩ := Sms.sound G hx tk b _ h.2
      exact ⟨_, ps_for G.po G.calm p1 pg p2 s1, ss_for q1 sg q2⟩
    · cases h
  | .pass, s, h => by
    unfold Sm.ok at h
    split at h
    · exact ⟨_, ps_pass, ss_next⟩
    · cases h
  | .brk, s, h => by
    unfold Sm.ok at h
    split at h
    · exact ⟨_, ps_break, fun ρ h S ι σ H D' r re hp => hp S ι σ H r re Ext.refl⟩
    · cases h
  | .cnt, s, h => by
    unfold Sm.ok at h
    split at h
    · exact ⟨_, ps_continue, fun ρ h S ι σ H D' r re hp => hp S ι σ H r re Ext.refl⟩
    · cases h
  | .raise x, s, h => by
    unfold Sm.ok at h
    split at h
    · simp only [Bool.and_eq_true, decide_eq_true_eq] at h
      obtain ⟨⟨⟨rfl, h1⟩, h2⟩, h3⟩ := h
      rename_i y _ _ _ _ _ _
      obtain ⟨C, e1, e2, e3, e4, e5⟩ := G.xf y h1
      refine ⟨_, ps_raise G.calm tk (pmk_own PySem.F.excBase_ValueError e2 e1 e3 (raises_own e4 e5) (gl_of h2) (dbg1 h3)), ?_⟩
      intro ρ h S ι σ H D' r re hp
      replace hp : Post X.K X.mg W D' S ι H (if c.xs.contains y then Out.exc y none ρ h else .stuck) := hp
      split at hp
      · exact hp _ none S ι σ H r re Ext.refl ⟨⟨C, e1, rfl⟩, rfl⟩
      · exact hp.elim
    · cases h
  | .tryR b x e, s, h => by
    unfold Sm.ok at h
    split at h
    · simp only [Bool.and_eq_true, decide_eq_true_eq] at h
      obtain ⟨⟨⟨⟨⟨⟨rfl, h1⟩, h2⟩, h3⟩, h4⟩, h5⟩, h6⟩ := h
      rename_i bd y _ v _ _ _
      obtain ⟨C, e1, _⟩ := G.xf y h1
      obtain ⟨te, d, pe, ed, sd⟩ := cst_sound (c := c) e v h5 h6
      have IH := fun (W' : WX) (pn : List (Addr × Obj)) (xe : Value → Shared → Prop) (tk' : Takes (X.tr pn xe) W') (po : PassesOwn (model X.prog X.w) X.A X.env xe) => Sms.sound (X := X.tr pn xe) (W := W') (G.tr pn xe po) hx tk' b bd h4
      let tb : WX → TS := fun W' D σ H => ∀ (pn : List (Addr × Obj)) (xe : Value → Shared → Prop), Takes (X.tr pn xe) W' → PassesOwn (model X.prog X.w) X.A X.env xe → ∃ t, PSs (X.tr pn xe) bd t ∧ t D σ H
      refine ⟨_, ps_try_only (c := .ref C) (tb := tb) (ts := fun _ _ _ => tRet te) (Wout := W) G.stk G.frm ⟨gl_of h2, dbg1 h3, .inl e1⟩ tk (fun W' pn xe tk' po => ⟨fun pins s σ H D I q => ?_⟩) (fun a oe cls dd pn _ _ => pss_one (ps_ret (pe _))), ?_⟩
      · obtain ⟨t, p, q⟩ := q pn xe tk' po
        exact p.run pins s σ H D I q
      · intro ρ h S ι σ H D r re hp
        intro pn xe tk' po
        obtain ⟨t, p, q⟩ := IH _ pn xe tk' po
        refine ⟨t, p, q ρ h S ι σ H D r re ?_⟩
        replace hp : Post X.K X.mg W D S ι H (match b.den c ρ h with
          | .exc k p ρ' h' => if c.xs.contains k && c.xs.contains y then (if supOf k y then (e.den c ρ' h').go ρ' fun d h1 => .ret d h1 else .exc k p ρ' h') else .stuck
          | o => o) := hp
        show Post X.K X.mg (wOnly X.K (.ref C) (fun _ _ _ => tRet te) W D) D S ι H (b.den c ρ h)
        cases eb : b.den c ρ h with
        | nx _ _ => rw [eb] at hp; exact hp
        | ret _ _ => rw [eb] at hp; exact hp
        | brk _ _ => rw [eb] at hp; exact hp
        | cnt _ _ => rw [eb] at hp; exact hp
        | stuck => rw [eb] at hp; exact hp
        | exc k pp ρ' h' =>
          rw [eb] at hp
          dsimp only at hp
          intro cls dd S' ι' σ' H' r' re' ex xo
          by_cases hk : (c.xs.contains k && c.xs.contains y) = true
          · rw [if_pos hk] at hp
            rw [Bool.and_eq_true] at hk
            obtain ⟨C1, E1, m1, m2, m3⟩ := G.xm k y (hx k hk.1) (hx y hk.2)
            obtain ⟨⟨C2, n1, rfl⟩, _⟩ := id xo
            rw [m1] at n1
            cases n1
            rw [m2] at e1
            cases e1
            refine ⟨supOf k y, m3, fun hb a ha => ?_, fun hb => ?_⟩
            · rw [if_pos hb] at hp
              replace hp : Post X.K X.mg W D S ι H (((e.dt c).1 ρ' h').go ρ' fun d h1 => .ret d h1) := hp
              rw [ed] at hp
              exact sd σ' H' D.rt X.K S' ι' fun u ru => hp u S' ι' H' r' ex ru
            · rw [if_neg (by rw [hb]; exact fun z => nomatch z)] at hp
              exact hp _ dd S' ι' σ' H' r' re' ex xo
          · rw [if_neg hk] at hp
            exact hp.elim
    · cases h
  | .tryA b x i e, s, h => by
    unfold Sm.ok at h
    split at h
    · simp only [Bool.and_eq_true, decide_eq_true_eq] at h
      obtain ⟨⟨⟨⟨⟨⟨⟨⟨rfl, h1⟩, h2⟩, h3⟩, h4⟩, h5⟩, h6⟩, h7⟩, h8⟩ := h
      rename_i bd y _ n v _ _ _
      obtain ⟨C, e1, _⟩ := G.xf y h1
      have IH := fun (W' : WX) (pn : List (Addr × Obj)) (xe : Value → Shared → Prop) (tk' : Takes (X.tr pn xe) W') (po : PassesOwn (model X.prog X.w) X.A X.env xe) => Sms.sound (X := X.tr pn xe) (W := W') (G.tr pn xe po) hx tk' b bd h4
      let tb : WX → TS := fun W' D σ H => ∀ (pn : List (Addr × Obj)) (xe : Value → Shared → Prop), Takes (X.tr pn xe) W' → PassesOwn (model X.prog X.w) X.A X.env xe → ∃ t, PSs (X.tr pn xe) bd t ∧ t D σ H
      let ts : Addr → Value → Option Addr → TS := fun a cls d D σ H => ∀ (oe : Obj) (pn : List (Addr × Obj)), Zc cls d oe → (∃ vs, oe.data = .fields vs) → ∃ te, PE (X.suite a ((a, oe) :: pn)) v te ∧ tRet te D σ H
      refine ⟨_, ps_try_as (c := .ref C) (i := i) (tb := tb) (ts := ts) (Wout := W) G.stk G.frm G.nd h5 (local_of h6) ⟨gl_of h2, dbg1 h3, .inl e1⟩ tk (fun W' pn xe tk' po => ⟨fun pins s σ H D I q => ?_⟩) (fun a oe cls dd pn hz hf => ⟨fun pins s σ H D I q => ?_⟩), ?_⟩
      · obtain ⟨t, p, q⟩ := q pn xe tk' po
        exact p.run pins s σ H D I q
      · obtain ⟨te, p, q⟩ := q oe pn hz hf
        exact (pss_one (ps_ret p)).run pins s σ H D I q
      · intro ρ h S ι σ H D r re hp
        intro pn xe tk' po
        obtain ⟨t, p, q⟩ := IH _ pn xe tk' po
        refine ⟨t, p, q ρ h S ι σ H D r re ?_⟩
        replace hp : Post X.K X.mg W D S ι H (match b.den c ρ h with
          | .exc k p ρ' h' => if c.xs.contains k && c.xs.contains y && e.xs.all c.xs.contains then (if supOf k y then (match p, e.val k with
            | none, some d => if i < ρ'.length then .ret d h' else .stuck
            | _, _ => .stuck) else .exc k p ρ' h') else .stuck
          | o => o) := hp
        show Post X.K X.mg (wAs X.K (.ref C) i ts W D) D S ι H (b.den c ρ h)
        cases eb : b.den c ρ h with
        | nx _ _ => rw [eb] at hp; exact hp
        | ret _ _ => rw [eb] at hp; exact hp
        | brk _ _ => rw [eb] at hp; exact hp
        | cnt _ _ => rw [eb] at hp; exact hp
        | stuck => rw [eb] at hp; exact hp
        | exc k pp ρ' h' =>
          rw [eb] at hp
          dsimp only at hp
          intro cls dd S' ι' σ' H' r' re' ex xo
          by_cases hk : (c.xs.contains k && c.xs.contains y && e.xs.all c.xs.contains) = true
          · rw [if_pos hk] at hp
            rw [Bool.and_eq_true, Bool.and_eq_true] at hk
            obtain ⟨C1, E1, m1, m2, m3⟩ := G.xm k y (hx k hk.1.1) (hx y hk.1.2)
            obtain ⟨⟨C2, n1, rfl⟩, xp⟩ := id xo
            rw [m1] at n1
            cases n1
            rw [m2] at e1
            cases e1
            refine ⟨supOf k y, m3, fun hb a ha => ?_, fun hb => ?_⟩
            · rw [if_pos hb] at hp
              cases pp with
              | some _ => cases e.val k <;> exact hp.elim
              | none =>
                have xp : dd = none := xp
                subst xp
                cases ev : e.val k with
                | none => rw [ev] at hp; exact hp.elim
                | some d =>
                  rw [ev] at hp
                  intro oe pn hz hf
                  obtain ⟨te, pe, q⟩ := hx_sound G h5 (local_of h6) h7 (hx k hk.1.1) m1 (pn := pn) hz hf e v h8
                  refine ⟨te, pe, ?_⟩
                  replace hp : Post X.K X.mg W D S ι H (if i < ρ'.length then Out.ret d h' else .stuck) := hp
                  by_cases hl : i < ρ'.length
                  · rw [if_pos hl] at hp
                    exact q d ev S' ι' h' _ H' _ (List.getElem?_set_self (by rw [← re'.1]; exact hl)) r' fun u S2 H2 r2 x2 ru => hp u S2 ι' H2 r2 (ex.trans x2) ru
                  · rw [if_neg hl] at hp; exact hp.elim
            · rw [if_neg (by rw [hb]; exact fun z => nomatch z)] at hp
              exact hp _ dd S' ι' σ' H' r' re' ex xo
          · rw [if_neg hk] at hp
            exact hp.elim
    · cases h
  | .fz i, s, h => by
    unfold Sm.ok at h
    cases h
theorem Sms.sound {c : Cfg} {bl fl xl : List Str} {X : Cx} {W : WX} (G : GoodS c bl fl xl X) (hx : ∀ x, c.xs.contains x = true → xl.contains x = true) (tk : Takes X W) : ∀ (sm : Sms) (s : List Stmt), sm.ok X.N bl fl xl X.env.scope s = true → ∃ t, PSs X s t ∧ SS X.K X.mg W t (sm.den c)
  | .nil, s, h => by
    unfold Sms.ok at h
    cases s with
    | nil => exact ⟨_, pss_nil, ss_next⟩
    | cons _ _ => cases h
  | .cons a as, s, h => by
    unfold Sms.ok at h
    by_cases hz : isFz a = true
    · rw [if_pos hz] at h
      cases a with
      | fz i =>
        obtain ⟨tb, p2, q2⟩ := Sms.sound G hx tk as _ h
        exact ⟨tb, p2, ss_fz i q2⟩
      | _ => cases hz
    rw [if_neg hz] at h
    cases s with
    | nil => cases h
    | cons s ss =>
      dsimp only at h
      rw [Bool.and_eq_true] at h
      obtain ⟨ta, p1, q1⟩ := Sm.sound G hx tk a _ h.1
      obtain ⟨tb, p2, q2⟩ := Sms.sound G hx tk as _ h.2
      exact ⟨_, pss_cons p1 p2, ss_seq q1 q2⟩
end
end Ev
set_option maxHeartbeats 1000000
/-! Ev, part O: defs are sound. -/
namespace Ev
open PySem PySem.Spec PyProof.Rows L2

section
variable {K : PySem.W.Frag} {mg : Str → Option Value} {S S' : Hp} {ι ι' : List Addr} {H H' : Hp} {h : Hs}
mutual
/-- plain data look at no cell -/
theorem RV.free : ∀ {d : D} {v : V}, d.pure = true → RV K S ι d v → RV K S ι' d v
  | .non, _, _, .non => .non
  | .bl _, _, _, .bl b => .bl b
  | .int _, _, _, .int i => .int i
  | .str _, _, _, .str s => .str s
  | .tup _, _, p, .tup e r => .tup e (RVs.free p r)
  | .lst _, _, p, .lst e r => .lst e (RVs.free p r)
  | .vw _, _, p, .vw e r => .vw e (RVs.free p r)
  | .vt _, _, p, .vt e z r => .vt e z (RVs.free p r)
  | .ref _, _, p, .ref _ => nomatch p
theorem RVs.free : ∀ {ds : List D} {vs : List V}, D.pures ds = true → RVs K S ι ds vs → RVs K S ι' ds vs
  | [], _, _, .nil => .nil
  | _ :: _, _, p, .cons r t => .cons (RV.free ((Bool.and_eq_true _ _).mp p).1 r) (RVs.free ((Bool.and_eq_true _ _).mp p).2 t)
end
/-- a caller's cells behind a callee without cells -/
theorem HRel.back {h' : Hs} (r : HRel K S ι h H) (r' : HRel K S' ι' h' H') (x : Ext S [] H S' ι' H') : HRel K S' ι h H' := by
  refine ⟨r.len, r.nd, r'.sub, fun a m e => ?_, fun n a c ha hc => ?_⟩
  · rcases none_or (H := H) a with z | ⟨o, z⟩
    · exact r.out a m z
    · rw [x.keep a o z (by simp)] at e; cases e
  · have m := List.mem_of_getElem? ha
    refine (r.cell n a c ha hc).up x.sub (fun _ _ e => e) (fun hs => ?_) fun o e => x.keep a o e (by simp)
    rcases none_or (H := S') a with z | ⟨o, z⟩
    · exact z
    · rcases x.snew a (by rw [z]; exact fun z => nomatch z) with q | q | q
      · exact absurd hs q
      · cases q
      · exact absurd q (r.out a m)
theorem Ext.back (r : HRel K S ι h H) (x : Ext S [] H S' ι' H') : Ext S ι H S' ι H' := by
  refine ⟨x.sub, fun _ _ e => e, fun a o e _ => x.keep a o e (by simp), fun _ m => .inl m, fun a e => ?_, fun a m e => ?_⟩
  · rcases x.snew a e with q | q | q
    · exact .inl q
    · cases q
    · exact .inr (.inr q)
  · rcases none_or (H := H) a with z | ⟨o, z⟩
    · exact absurd z e
    · rw [x.keep a o z (by simp)]; exact fun z => nomatch z
theorem XOk.free {c : Str} {p : Option D} {cls : Value} {dd : Option Addr} (hp : pureO p = true) (x : XOk K mg c p cls dd S ι) : XOk K mg c p cls dd S ι' := by
  refine ⟨x.1, ?_⟩
  have x2 := x.2
  cases p with
  | none => exact x2
  | some d =>
    obtain ⟨a, f, v, e1, e2, r⟩ := x2
    exact ⟨a, f, v, e1, e2, r.free hp⟩
theorem start_rel {ps : List Str} {N : List Str} {ds : List D} {vs : List V} (r : RVs K S ι ds vs) : ERel K S ι (ds.map some ++ List.replicate (N.length - ds.length) none) (L2.start N vs) := by
  refine ⟨by unfold L2.start; rw [List.length_append, List.length_append, List.length_map, List.length_map, List.length_replicate, List.length_replicate, r.length], fun i d e => ?_⟩
  by_cases hl : i < ds.length
  · rw [List.getElem?_append_left (by rw [List.length_map]; exact hl), List.getElem?_map] at e
    cases q : ds[i]? with
    | none => rw [q] at e; cases e
    | some d' =>
      rw [q] at e
      cases e
      obtain ⟨v, h1, h2⟩ := r.get q
      refine ⟨v, ?_, h2⟩
      unfold L2.start
      rw [List.getElem?_append_left (by rw [List.length_map, ← r.length]; exact hl), List.getElem?_map, h1]; rfl
  · rw [List.getElem?_append_right (by rw [List.length_map]; omega), List.getElem?_replicate] at e
    split at e <;> cases e
end

/-- a def's text against its small form -/
structure DefOk (bl fl xl : List Str) (f : Fn) (st : Stmt) : Prop where
  sc : FnScope f.N f.ps (defScope st)
  bind : ∀ (kV doc pm : Value) (an : Option Addr) (cdv ct : Value) (us : List Value), us.length = f.ps.length → bindArgs (PySem.W.fnOf f.nm f.nm (defArgs st) (defBody st) (defScope st) .none kV doc pm an cdv ct) ⟨us, []⟩ = pure (f.ps.zip us)
  ok : f.body.ok f.N bl fl xl (defScope st) (defBody st) = true
def DefAt (K : PySem.W.Frag) (mg : Str → Option Value) (bl fl xl : List Str) (f : Fn) : Prop := ∃ st a fd, DefOk bl fl xl f st ∧ FunD K f.nm f.nm (defArgs st) (defBody st) (defScope st) [] [] a fd ∧ mg f.nm = some (.ref a)
def XFactK (K : PySem.W.Frag) (mg : Str → Option Value) (x : Str) : Prop := ∃ C : Addr, mg x = some (.ref C) ∧ PySem.W.excIn K C veBm "ValueError.__new__" = true ∧ PySem.W.keepIn K (.ref C) = true ∧
  PySem.W.subIn K (.ref C) (.type "BaseException") = some true ∧ PySem.W.typeIn K (.ref C) = some (.type "type")
/-- what a system of defs stands on -/
structure Sys (K : PySem.W.Frag) (mg : Str → Option Value) (bl fl xl : List Str) (fs : List Fn) (gl : Str → Option D) (xs : List Str) : Prop where
  blt : ∀ x, bl.contains x = true → mg x = none
  gl : ∀ x d, gl x = some d → ∃ v u, mg x = some u ∧ RelV v u ∧ ∀ S ι, RV K S ι d v
  xf : ∀ x, xl.contains x = true → XFactK K mg x
  xm : ∀ k x, xl.contains k = true → xl.contains x = true → ∃ C E : Addr, mg k = some (.ref C) ∧ mg x = some (.ref E) ∧ PySem.W.exmOne K (.ref C) (.ref E) = some (supOf k x)
  xi : ∀ k x, xl.contains k = true → xl.contains x = true → ∃ C E : Addr, mg k = some (.ref C) ∧ mg x = some (.ref E) ∧ ExcC K C ∧ PySem.W.kitOne K (.ref C) (.type "ValueError") = some true ∧ PySem.W.kitOne K (.ref C) (.ref E) = some (supOf k x)
  xs : ∀ x, xs.contains x = true → xl.contains x = true
  fls : ∀ (i : Nat) (x : Str), fl[i]? = some x → ∃ f, fs[i]? = some f ∧ f.nm = x
  fns : ∀ f ∈ fs, DefAt K mg bl fl xl f
section
variable {P : Program} {w : World} {K : PySem.W.Frag} {mg : Str → Option Value} {base : Heap} {bl fl xl : List Str} {fs : List Fn} {gl : Str → Option D} {xs : List Str} {F : Nat}
theorem G_len {n : Nat} {x : Nat} {f : Fn} (e : fs[x]? = some f) {ds : List D} {h : Hs} (hl : ds.length ≠ f.ps.length) : G fs gl xs F n x ds h = .stuck := by
  cases n with
  | zero => rfl
  | succ n =>
    unfold G
    rw [e]
    dsimp only
    have q : runFn ⟨G fs gl xs F n, gl, xs, F⟩ f ds = .stuck := by
      unfold runFn
      rw [if_neg fun z => hl z.1]
    have q2 : runSh ⟨G fs gl xs F n, gl, xs, F⟩ f ds h = .stuck := by
      unfold runSh
      rw [if_neg hl]
    rw [q, q2]
    split <;> rfl
theorem HRel.none {S : Hp} {ι : List Addr} {H : Hp} {h : Hs} (r : HRel K S ι h H) : HRel K S [] [] H := ⟨rfl, List.nodup_nil, r.sub, fun _ m => (by cases m), fun n a c e => (by simp at e)⟩
theorem run_post {c : Cfg} {f : Fn} {S : Hp} {ι : List Addr} {H : Hp} {hc : Hs} {ds : List D} {vs : List V} {Q : VK} {E : XK} (r : HRel K S ι hc H) (rs : RVs K S ι ds vs) (hp : match runFn c f ds with
    | .ok d _ => ∀ v S' ι' H', HRel K S' ι' hc H' → Ext S ι H S' ι' H' → RV K S' ι' d v → Q v H'
    | .exc x p _ => ∀ cls dd S' ι' H', HRel K S' ι' hc H' → Ext S ι H S' ι' H' → XOk K mg x p cls dd S' ι' → E cls dd H'
    | .stuck => False) : RVs K S [] ds vs ∧ Post K mg (fun cls d _ H => E cls d H) { nx := fun _ H' => Q .non H', rt := Q } S [] H (f.body.den c (ds.map some ++ List.replicate (f.N.length - ds.length) Option.none) []) := by
  unfold runFn at hp
  by_cases hd : ds.length = f.ps.length ∧ D.pures ds = true
  · rw [if_pos hd] at hp
    refine ⟨rs.free hd.2, ?_⟩
    cases e : f.body.den c (ds.map some ++ List.replicate (f.N.length - ds.length) Option.none) [] with
    | nx ρ h' =>
      rw [e] at hp
      exact fun S' ι' σ' H' r' _ x => hp .non S' ι H' (r.back r' x) (Ext.back r x) .non
    | ret d h' =>
      rw [e] at hp
      dsimp only at hp
      by_cases hq : d.pure = true
      · rw [if_pos hq] at hp
        exact fun v S' ι' H' r' x rv => hp v S' ι H' (r.back r' x) (Ext.back r x) (rv.free hq)
      · rw [if_neg hq] at hp; exact hp.elim
    | exc x p ρ h' =>
      rw [e] at hp
      dsimp only at hp
      have key : ∀ b : Bool, b = pureO p → (match (if b = true then R.exc x p [] else .stuck : R D) with
          | .ok d _ => ∀ v S' ι' H', HRel K S' ι' hc H' → Ext S ι H S' ι' H' → RV K S' ι' d v → Q v H'
          | .exc x p _ => ∀ cls dd S' ι' H', HRel K S' ι' hc H' → Ext S ι H S' ι' H' → XOk K mg x p cls dd S' ι' → E cls dd H'
          | .stuck => False) → Post K mg (fun cls d _ H => E cls d H) { nx := fun _ H' => Q .non H', rt := Q } S [] H (.exc x p ρ h') := fun b eb hp => by
        cases b with
        | true => exact fun cls dd S' ι' σ' H' r' _ x xo => hp cls dd S' ι H' (r.back r' x) (Ext.back r x) (xo.free eb.symm)
        | false => exact hp.elim
      exact key _ rfl hp
    | brk _ _ => rw [e] at hp; exact hp.elim
    | cnt _ _ => rw [e] at hp; exact hp.elim
    | stuck => rw [e] at hp; exact hp.elim
  · rw [if_neg hd] at hp; exact hp.elim
theorem run_postS {c : Cfg} {f : Fn} {S : Hp} {ι : List Addr} {H : Hp} {hc : Hs} {ds : List D} {Q : VK} {E : XK} (hp : match runSh c f ds hc with
    | .ok d h' => ∀ v S' ι' H', HRel K S' ι' h' H' → Ext S ι H S' ι' H' → RV K S' ι' d v → Q v H'
    | .exc x p h' => ∀ cls dd S' ι' H', HRel K S' ι' h' H' → Ext S ι H S' ι' H' → XOk K mg x p cls dd S' ι' → E cls dd H'
    | .stuck => False) : Post K mg (fun cls d _ H => E cls d H) { nx := fun _ H' => Q .non H', rt := Q } S ι H (f.body.den c (ds.map some ++ List.replicate (f.N.length - ds.length) Option.none) hc) := by
  unfold runSh at hp
  by_cases hd : ds.length = f.ps.length
  · rw [if_pos hd] at hp
    cases e : f.body.den c (ds.map some ++ List.replicate (f.N.length - ds.length) Option.none) hc with
    | nx ρ h' =>
      rw [e] at hp
      exact fun S' ι' σ' H' r' _ x => hp .non S' ι' H' r' x .non
    | ret d h' =>
      rw [e] at hp
      exact fun v S' ι' H' r' x rv => hp v S' ι' H' r' x rv
    | exc x p ρ h' =>
      rw [e] at hp
      exact fun cls dd S' ι' σ' H' r' _ x xo => hp cls dd S' ι' H' r' x xo
    | brk _ _ => rw [e] at hp; exact hp.elim
    | cnt _ _ => rw [e] at hp; exact hp.elim
    | stuck => rw [e] at hp; exact hp.elim
  · rw [if_neg hd] at hp; exact hp.elim
theorem fn_ok (Y : Sys K mg bl fl xl fs gl xs) : ∀ (n : Nat) (x : Nat) (f : Fn), fs[x]? = some f → ∀ (st : Stmt) (a : Addr) (fd : FuncData), DefOk bl fl xl f st → FunD K f.nm f.nm (defArgs st) (defBody st) (defScope st) [] [] a fd →
    FnG P w K mg base (L2.CX P w) n a fd f.ps (spF K mg f.ps.length (G fs gl xs F n x))
  | 0, x, f, e, st, a, fd, D', FD => by
    refine ⟨fun h => ?_, fun _ _ _ _ _ h => ?_⟩
    · obtain ⟨_, _, _, _, hl, _⟩ := h
      exact hl
    · obtain ⟨_, _, _, _, _, _, _, z⟩ := h
      exact z.elim
  | n + 1, x, f, e, st, a, fd, D', FD => by
    refine fnG_of FD D'.sc (fun h => ?_) fun cdv A outer s H vs Q E hr hgd h => ?_
    · obtain ⟨_, _, _, _, hl, _⟩ := h
      exact hl
    · have GG : GoodS ⟨G fs gl xs F n, gl, xs, F⟩ bl fl xl (cxOf (L2.CX P w) P w K mg base f.N f.nm (defScope st) a cdv A outer s H E) :=
        { calm := rfl, nd := D'.sc.nd, kind := D'.sc.kind, un := by have := hr.un; show (A.deeper (envOfC f.nm (defScope st) s.heap.objs.size a cdv)).units + 65 < cLine; omega,
          gd := hgd,
          blt := Y.blt, gl := Y.gl,
          fns := fun i y hy => by
            obtain ⟨g, eg, en⟩ := Y.fls i y hy
            obtain ⟨st', a', fd', Dg, FDg, gg⟩ := Y.fns g (List.mem_of_getElem? eg)
            exact ⟨a', fd', g.ps, n, fn_ok Y n i g eg st' a' fd' Dg FDg, fun ds h hl => G_len eg hl, hr, by rw [← en]; exact gg, FDg.kp, FDg.bindsN Dg.bind⟩,
          fnT := fun _ => rfl, po := passes_of rfl, xf := Y.xf, xm := Y.xm, xi := Y.xi, stk := rfl, frm := rfl }
      obtain ⟨t, p, q⟩ := Sms.sound GG Y.xs (takes_of rfl rfl rfl rfl) f.body (defBody st) D'.ok
      refine ⟨t, p, ?_⟩
      obtain ⟨S, ι, hc, ds, hl, r, rs, h⟩ := h
      unfold G at h
      rw [e] at h
      dsimp only at h
      by_cases hs : f.sh = true
      · rw [if_pos hs] at h
        have hp := run_postS (Q := Q) (E := E) (K := K) (mg := mg) (S := S) (ι := ι) (H := H) (c := ⟨G fs gl xs F n, gl, xs, F⟩) (f := f) (ds := ds) (hc := hc) h
        exact q _ hc S ι _ H _ r (start_rel (ps := f.ps) rs) hp
      · rw [if_neg hs] at h
        obtain ⟨rs', hp⟩ := run_post (Q := Q) (E := E) r rs (c := ⟨G fs gl xs F n, gl, xs, F⟩) (f := f) (by
          cases q : runFn ⟨G fs gl xs F n, gl, xs, F⟩ f ds with
          | ok d _ => rw [q] at h; exact h
          | exc x p _ => rw [q] at h; exact h
          | stuck => rw [q] at h; exact h)
        exact q _ [] S [] _ H _ r.none (start_rel (ps := f.ps) rs') hp
end
end Ev
set_option maxHeartbeats 1000000
/-! Ev, part P: from the head's facts to the law. -/
namespace Ev
open PySem PySem.Spec PyProof.Rows L2

abbrev Def := Fn × Stmt
def dOf (p : Def) : He.DefD := ⟨(p.1.nm, none), p.1.nm, p.1.nm, defArgs p.2, defBody p.2, defScope p.2, [], []⟩
/-- a written constant of the module -/
inductive Cn where
  | int (i : Int)
  | str (z : Str)
def Cn.d : Cn → D
  | .int i => .int i
  | .str z => .str z
def Cn.fa (x : Str) : Cn → He.Fa
  | .int i => .int x i
  | .str z => .str x z
def glOf (cs : List (Str × Cn)) (x : Str) : Option D := (cs.lookup x).map Cn.d
def faOf (L : List Def) (bl : List Str) (cs : List (Str × Cn)) (xl : List Str) : List He.Fa :=
  L.map (fun p => .glo p.1.nm) ++ (bl.map .free ++ (cs.map (fun c => c.2.fa c.1) ++ (xl.map .glo ++ (xl.map .exc ++ xl.flatMap fun k => xl.map fun x => .exm k x (supOf k x)))))
theorem lookup_mem {α : Type} {x : Str} {y : α} : ∀ {l : List (Str × α)}, l.lookup x = some y → (x, y) ∈ l
  | [], h => nomatch h
  | (k, v) :: l, h => by
    rw [List.lookup_cons] at h
    by_cases e : x = k
    · subst e; simp at h; subst h; exact List.mem_cons_self
    · rw [show (x == k) = false from by simpa using e] at h
      exact List.mem_cons_of_mem _ (lookup_mem h)
/-- isinstance asks instances of that class rightly -/
def excCB (K : PySem.W.Frag) (D : Addr) : Bool :=
  He.eqO (PySem.W.findIn K (.ref D) "__getattribute__") (some (some (.builtin "BaseException.__getattribute__"))) && (He.eqO (PySem.W.findIn K (.ref D) "__getattr__") (some none) && (decide (PySem.W.subIn K (.ref D) (.type "BaseException") = some true) &&
  (PySem.W.hasDictIn K D && (He.eqO (PySem.W.findIn K (.ref D) "__class__") (some (some (.builtin "object.__class__"))) && (He.eqO (PySem.W.specialIn K (.builtin "object.__class__") "__get__") (some (some (.builtin "getset_descriptor.__get__"))) &&
  (decide (PySem.W.takesIn K (.builtin "object.__class__") = some true) && decide (PySem.W.mroIn K D (.type "object") = some true)))))))
theorem excCB_ok {K : PySem.W.Frag} {D : Addr} (h : excCB K D = true) : ExcC K D := by
  unfold excCB at h
  obtain ⟨h1, h⟩ := He.ba h
  obtain ⟨h2, h⟩ := He.ba h
  obtain ⟨h3, h⟩ := He.ba h
  obtain ⟨h4, h⟩ := He.ba h
  obtain ⟨h5, h⟩ := He.ba h
  obtain ⟨h6, h⟩ := He.ba h
  obtain ⟨h7, h8⟩ := He.ba h
  exact ⟨He.eqO_ok h1, He.eqO_ok h2, of_decide_eq_true h3, h4, He.eqO_ok h5, He.eqO_ok h6, of_decide_eq_true h7, of_decide_eq_true h8⟩
/-- what more is told of what was looked at -/
def exOf (xl : List Str) (K : PySem.W.Frag) : Bool := xl.all fun k => excCB K (He.ga K k) && (decide (PySem.W.kitOne K (.ref (He.ga K k)) (.type "ValueError") = some true) &&
  xl.all fun x => decide (PySem.W.kitOne K (.ref (He.ga K k)) (.ref (He.ga K x)) = some (supOf k x)))
abbrev nms (L : List Def) : List Str := L.map fun p => p.1.nm
theorem sys_of {K : PySem.W.Frag} {h : Heap} {mg : Str → Option Value} {L : List Def} {bl xl : List Str} {cs : List (Str × Cn)} (X : K.In h) (G : h.Ns mainGlobals mg) (c : He.SaysD (faOf L bl cs xl) (L.map dOf) K) (cx : exOf xl K = true)
    (hL : ∀ p ∈ L, DefOk bl (nms L) xl p.1 p.2) : Sys K mg bl (nms L) xl (L.map (·.1)) (glOf cs) xl := by
  have fact : ∀ f ∈ faOf L bl cs xl, f.ok K = true := fun f hf => c.facts hf
  refine ⟨fun x hx => ?_, fun x d hd => ?_, fun x hx => ?_, fun k x hk hx => ?_, fun k x hk hx => ?_, fun x hx => hx, fun i x hx => ?_, fun f hf => ?_⟩
  · exact He.free_ok X G (fact (.free x) (by unfold faOf; simp at hx; simp [hx]))
  · unfold glOf at hd
    cases e : cs.lookup x with
    | none => rw [e] at hd; cases hd
    | some k =>
      rw [e] at hd
      have m := lookup_mem e
      have hf : k.fa x ∈ faOf L bl cs xl := by
        unfold faOf
        exact List.mem_append_right _ (List.mem_append_right _ (List.mem_append_left _ (List.mem_map.mpr ⟨(x, k), m, rfl⟩)))
      cases k with
      | int i =>
        cases hd
        obtain ⟨t, q⟩ := He.int_ok X G (fact _ hf)
        exact ⟨.int i, _, q, ⟨t, rfl⟩, fun _ _ => .int i⟩
      | str z =>
        cases hd
        obtain ⟨t, q⟩ := He.str_ok X G (fact _ hf)
        exact ⟨.str z, _, q, ⟨t, rfl⟩, fun _ _ => .str z⟩
  · have m : x ∈ xl := by simpa using hx
    have h1 : He.Fa.glo x ∈ faOf L bl cs xl := by unfold faOf; simp [m]
    have h2 : He.Fa.exc x ∈ faOf L bl cs xl := by unfold faOf; simp [m]
    obtain ⟨k1, k2, k3, k4⟩ := He.exc_ok (fact _ h2)
    exact ⟨_, He.glo_ok X G (fact _ h1), k1, k2, k3, k4⟩
  · have m : x ∈ xl := by simpa using hx
    have m2 : k ∈ xl := by simpa using hk
    have h1 : He.Fa.glo x ∈ faOf L bl cs xl := by unfold faOf; simp [m]
    have h2 : He.Fa.glo k ∈ faOf L bl cs xl := by unfold faOf; simp [m2]
    have h3 : He.Fa.exm k x (supOf k x) ∈ faOf L bl cs xl := by
      unfold faOf
      refine List.mem_append_right _ (List.mem_append_right _ (List.mem_append_right _ (List.mem_append_right _ (List.mem_append_right _ (List.mem_flatMap.mpr ⟨k, m2, List.mem_map.mpr ⟨x, m, rfl⟩⟩)))))
    exact ⟨_, _, He.glo_ok X G (fact _ h2), He.glo_ok X G (fact _ h1), He.exm_ok (fact _ h3)⟩
  · have m : x ∈ xl := by simpa using hx
    have m2 : k ∈ xl := by simpa using hk
    have h1 : He.Fa.glo x ∈ faOf L bl cs xl := by unfold faOf; simp [m]
    have h2 : He.Fa.glo k ∈ faOf L bl cs xl := by unfold faOf; simp [m2]
    obtain ⟨q1, q⟩ := He.ba (List.all_eq_true.mp cx k m2)
    obtain ⟨q2, q3⟩ := He.ba q
    exact ⟨_, _, He.glo_ok X G (fact _ h2), He.glo_ok X G (fact _ h1), excCB_ok q1, of_decide_eq_true q2, of_decide_eq_true (List.all_eq_true.mp q3 x m)⟩
  · rw [List.getElem?_map] at hx
    cases e : L[i]? with
    | none => rw [e] at hx; cases hx
    | some p =>
      rw [e] at hx
      exact ⟨p.1, by rw [List.getElem?_map, e]; rfl, Option.some.inj hx⟩
  · obtain ⟨p, hp, rfl⟩ := List.mem_map.mp hf
    obtain ⟨fd, F⟩ := c.defs (d := dOf p) (List.mem_map.mpr ⟨p, hp, rfl⟩)
    exact ⟨p.2, _, fd, hL p hp, F, He.glo_ok X G (fact (.glo p.1.nm) (by unfold faOf; exact List.mem_append_left _ (List.mem_map.mpr ⟨p, hp, rfl⟩)))⟩

/-- a law of such defs, walked -/
theorem walk_ev {l : PySem.W.OpenLaw} {n k F il : Nat} {q : Program} {loose : List Str} {XP : (Str → Option Value) → Heap → Prop} {d : DefRec} {L : List Def} {bl xl : List Str} {cs : List (Str × Cn)} {m : Nat} {f : Fn} {st : Stmt} {x : Str}
    (hn : l.most = some n) (hz : n ≤ sizeLine) (hdf : d.params.defaults = []) (hr : Room k callerA) (hL : ∀ p ∈ L, DefOk bl (nms L) xl p.1 p.2) (hf : L[il]? = some (f, st)) (hd : d.name = f.nm) (hps : f.ps = [x])
    (hlaw : ∀ ns : List Int, ns.length ≤ n → G (L.map (·.1)) (glOf cs) xl F k il [.vw (ns.map .int)] [] = .ok (.bl true) []) :
    PySem.W.WalkO q loose XP (He.hookX m (faOf L bl cs xl) (L.map dOf) [] [] (exOf xl)).says l.row.toRowW d [] (fun f vs => PySem.call f vs) := by
  refine Att.attach_call hn hdf fun w s0 s1 mg mb fa o pm cd doc a vs ns T Y _ _ _ hmg hob hin hlen hg => ?_
  obtain ⟨K, X, cX⟩ := Y
  have c := cX.t.d
  have Z := sys_of X T.T.g c cX.more hL
  have hm := List.mem_of_getElem? hf
  obtain ⟨fd, FD⟩ := c.defs (d := dOf (f, st)) (List.mem_map.mpr ⟨_, hm, rfl⟩)
  have hg2 : mg f.nm = some (.ref (He.ga K f.nm)) := He.glo_ok X T.T.g (c.facts (f := .glo f.nm) (by unfold faOf; exact List.mem_append_left _ (List.mem_map.mpr ⟨_, hm, rfl⟩)))
  rw [hd, hg2] at hmg
  cases hmg
  have hfs : (L.map (·.1))[il]? = some f := by rw [List.getElem?_map, hf]; rfl
  have D' := hL _ hm
  have key := fun base : Heap => fn_ok (P := l.prog) (w := w) (base := base) (F := F) Z k il f hfs st _ fd D' FD
  have hb : ∀ (s : Shared) (u : Value), BindsTo s fd ⟨[u], []⟩ [(x, u)] := fun s u => by
    have := FD.bindsA (ps := f.ps) D'.bind s [u] (by rw [hps]; rfl)
    rw [hps] at this; exact this
  have run := fun base (_ : K.In base) (_ : base.Ns mainGlobals mg) => key base
  rw [hps] at run
  refine law_callG X T.T.g T.T.b T.T.builtins T.T.nolimit hg hob hin (Nat.le_trans hlen hz) hr run hb (fun H hO hS => ?_) fun H e s' z => ?_
  · refine ⟨H, [], [], [.vw (ns.map .int)], rfl, ⟨rfl, List.nodup_nil, fun _ _ e => e, fun _ m => (by cases m), fun n a c e => (by simp at e)⟩, .cons (.vw hS .ints) .nil, ?_⟩
    rw [hlaw ns hlen]
    intro v S' ι' H' _ _ rv
    cases rv
    rfl
  · obtain ⟨_, _, _, _, _, _, _, _, _, _, _, _, z⟩ := z
    exact z
end Ev
set_option maxHeartbeats 1000000
/-! Ev, part Q: the denotation, read by simp; loops by relations. -/
namespace Ev
open PySem PySem.Spec PyProof.Rows L2
/-- a mark that keeps simp out of what comes later -/
inductive Tok {A : Type} (a : A) : Type where
  | mk
/-- the same three, that simp takes one step at a time: what comes first, first -/
def R.bd {α β : Type} (x : R α) (f : α → Hs → R β) (_ : Tok f) : R β := match x with
  | .ok a h => f a h
  | .exc c p h => .exc c p h
  | .stuck => .stuck
def R.gq {α : Type} (x : R α) (ρ : Env) (f : α → Hs → Out) (_ : Tok f) : Out := match x with
  | .ok a h => f a h
  | .exc c p h => .exc c p ρ h
  | .stuck => .stuck
def Out.tn (x : Out) (f : Env → Hs → Out) (_ : Tok f) : Out := match x with
  | .nx ρ h => f ρ h
  | o => o
@[simp] theorem bd_ok {α β : Type} (a : α) (h : Hs) (f : α → Hs → R β) (t : Tok f) : (R.ok a h).bd f t = f a h := rfl
@[simp] theorem bd_exc {α β : Type} (c : Str) (p : Option D) (h : Hs) (f : α → Hs → R β) (t : Tok f) : (R.exc c p h : R α).bd f t = .exc c p h := rfl
@[simp] theorem gq_ok {α : Type} (a : α) (h : Hs) (ρ : Env) (f : α → Hs → Out) (t : Tok f) : (R.ok a h).gq ρ f t = f a h := rfl
@[simp] theorem gq_exc {α : Type} (c : Str) (p : Option D) (h : Hs) (ρ : Env) (f : α → Hs → Out) (t : Tok f) : (R.exc c p h : R α).gq ρ f t = .exc c p ρ h := rfl
@[simp] theorem tn_nx (ρ : Env) (h : Hs) (f : Env → Hs → Out) (t : Tok f) : (Out.nx ρ h).tn f t = f ρ h := rfl
@[simp] theorem tn_ret (d : D) (h : Hs) (f : Env → Hs → Out) (t : Tok f) : (Out.ret d h).tn f t = .ret d h := rfl
@[simp] theorem tn_brk (ρ : Env) (h : Hs) (f : Env → Hs → Out) (t : Tok f) : (Out.brk ρ h).tn f t = .brk ρ h := rfl
@[simp] theorem tn_cnt (ρ : Env) (h : Hs) (f : Env → Hs → Out) (t : Tok f) : (Out.cnt ρ h).tn f t = .cnt ρ h := rfl
@[simp] theorem tn_exc (c : Str) (p : Option D) (ρ : Env) (h : Hs) (f : Env → Hs → Out) (t : Tok f) : (Out.exc c p ρ h).tn f t = .exc c p ρ h := rfl
section
variable {h : Hs} {fz : Bool} {i j : Int}
@[simp] theorem bin_add : binD .add fz (.int i) (.int j) h = .ok (.int (i + j)) h := rfl
@[simp] theorem bin_sub : binD .sub fz (.int i) (.int j) h = .ok (.int (i - j)) h := rfl
theorem bin_mul (q : (-(2 ^ 64) < i ∧ i < 2 ^ 64) ∨ (-(2 ^ 64) < j ∧ j < 2 ^ 64)) : binD .mul fz (.int i) (.int j) h = .ok (.int (i * j)) h := by
  show (if _ then _ else _) = _
  rw [if_pos]
  rcases q with q | q
  · exact .inl q
  · exact .inr (.inl q)
theorem bin_fdiv (q : 0 < j) (r : j < 1073741824) : binD .fdiv fz (.int i) (.int j) h = .ok (.int (i / j)) h := if_pos ⟨q, .inl r⟩
theorem bin_mod (q : 0 < j) : binD .mod fz (.int i) (.int j) h = .ok (.int (i % j)) h := if_pos q
theorem bin_pow (q : 0 ≤ j) (r : j ≤ 1000) (t : i.natAbs < 2 ^ 64) : binD .pow fz (.int i) (.int j) h = .ok (.int (i ^ j.toNat)) h := if_pos ⟨q, r, t⟩
@[simp] theorem cmp_lt : cmpD .lt (.int i) (.int j) h = .ok (.bl (decide (i < j))) h := rfl
@[simp] theorem cmp_le : cmpD .le (.int i) (.int j) h = .ok (.bl (decide (i ≤ j))) h := rfl
@[simp] theorem cmp_gt : cmpD .gt (.int i) (.int j) h = .ok (.bl (decide (j < i))) h := rfl
@[simp] theorem cmp_ge : cmpD .ge (.int i) (.int j) h = .ok (.bl (decide (j ≤ i))) h := rfl
@[simp] theorem cmp_eqI : cmpD .eq (.int i) (.int j) h = .ok (.bl (decide (i = j))) h := by
  show R.ok (D.bl (PyData.eqv (.int i) (.int j))) h = _
  rw [show PyData.eqv (.int i) (.int j) = decide (i = j) from rfl]
@[simp] theorem cmp_neI : cmpD .ne (.int i) (.int j) h = .ok (.bl (!decide (i = j))) h := by
  show R.ok (D.bl (!PyData.eqv (.int i) (.int j))) h = _
  rw [show PyData.eqv (.int i) (.int j) = decide (i = j) from rfl]
@[simp] theorem pr_abs : primD .abs fz [.int i] h = .ok (.int (if i < 0 then -i else i)) h := rfl
@[simp] theorem pr_int : primD .intOf fz [.int i] h = .ok (.int i) h := rfl
@[simp] theorem pr_max2 : primD .max2 fz [.int i, .int j] h = .ok (.int (if j > i then j else i)) h := rfl
@[simp] theorem pr_min2 : primD .min2 fz [.int i, .int j] h = .ok (.int (if j < i then j else i)) h := rfl
@[simp] theorem pr_lenL (xs : List D) : primD .len fz [.lst xs] h = .ok (.int xs.length) h := rfl
@[simp] theorem pr_lenT (xs : List D) : primD .len fz [.tup xs] h = .ok (.int xs.length) h := rfl
theorem pr_lenR {n : Nat} {xs : List D} (e : h[n]? = some (.lst xs)) : primD .len fz [.ref n] h = .ok (.int xs.length) h := by
  unfold primD
  simp only [seqOf, e]
@[simp] theorem aug_add : augD .add (.int i) (.int j) = some (.int (i + j)) := rfl
@[simp] theorem aug_sub : augD .sub (.int i) (.int j) = some (.int (i - j)) := rfl
theorem aug_mul (q : (-(2 ^ 64) < i ∧ i < 2 ^ 64) ∨ (-(2 ^ 64) < j ∧ j < 2 ^ 64)) : augD .mul (.int i) (.int j) = some (.int (i * j)) := if_pos q
theorem aug_fdiv (q : 0 < j) (r : j < 1073741824) : augD .fdiv (.int i) (.int j) = some (.int (i / j)) := if_pos ⟨q, r⟩
theorem aug_mod (q : 0 < j) : augD .mod (.int i) (.int j) = some (.int (i % j)) := if_pos q
theorem new_fz {xs : List D} (q : xs.length ≤ LN) : newL true xs h = .ok (.lst xs) h := by unfold newL; rw [if_pos q]; rfl
theorem new_cell {xs : List D} (q : xs.length ≤ LN) : newL false xs h = .ok (.ref h.length) (h ++ [.lst xs]) := by unfold newL; rw [if_pos q]; rfl
theorem m_append {n : Nat} {xs : List D} {y : D} (e : h[n]? = some (.lst xs)) (q : xs.length < LN) : methD .append (.ref n) [y] h = .ok .non (h.set n (.lst (xs ++ [y]))) := by
  unfold methD
  simp only [e, if_pos q]
theorem seq_ref {n : Nat} {xs : List D} (e : h[n]? = some (.lst xs)) : seqOf h (.ref n) = some (xs, true) := by
  unfold seqOf; simp only [e]
@[simp] theorem sq_lst (xs : List D) : seqOf h (.lst xs) = some (xs, true) := rfl
@[simp] theorem seq_tup (xs : List D) : seqOf h (.tup xs) = some (xs, false) := rfl
@[simp] theorem seq_vw (xs : List D) : seqOf h (.vw xs) = some (xs, true) := rfl
theorem frz_ref {n : Nat} {xs : List D} (e : h[n]? = some (.lst xs)) (q : D.pures xs = true) : freezeD (.ref n) h = .ok (.lst xs) (h.set n .dead) := by
  unfold freezeD; simp only [e, if_pos q]
/-- cells at written places -/
@[simp] theorem seq_r0 (xs : List D) : seqOf (.lst xs :: h) (.ref 0) = some (xs, true) := rfl
@[simp] theorem seq_r1 (a : Cell) (xs : List D) : seqOf (a :: .lst xs :: h) (.ref 1) = some (xs, true) := rfl
@[simp] theorem seq_r2 (a b : Cell) (xs : List D) : seqOf (a :: b :: .lst xs :: h) (.ref 2) = some (xs, true) := rfl
@[simp] theorem len_r0 (xs : List D) : primD .len fz [.ref 0] (.lst xs :: h) = .ok (.int xs.length) (.lst xs :: h) := rfl
@[simp] theorem len_r1 (a : Cell) (xs : List D) : primD .len fz [.ref 1] (a :: .lst xs :: h) = .ok (.int xs.length) (a :: .lst xs :: h) := rfl
theorem app_r0 {xs : List D} {y : D} (q : xs.length < LN) : methD .append (.ref 0) [y] (.lst xs :: h) = .ok .non (.lst (xs ++ [y]) :: h) := m_append rfl q
theorem app_r1 {a : Cell} {xs : List D} {y : D} (q : xs.length < LN) : methD .append (.ref 1) [y] (a :: .lst xs :: h) = .ok .non (a :: .lst (xs ++ [y]) :: h) := m_append rfl q
theorem frz_r0 {xs : List D} (q : D.pures xs = true) : freezeD (.ref 0) (.lst xs :: h) = .ok (.lst xs) (.dead :: h) := frz_ref rfl q
theorem frz_r1 {a : Cell} {xs : List D} (q : D.pures xs = true) : freezeD (.ref 1) (a :: .lst xs :: h) = .ok (.lst xs) (a :: .dead :: h) := frz_ref rfl q
end
section
variable {c : Cfg} {ρ : Env} {h : Hs}
@[simp] theorem den_var (i : Nat) : (Ex.dt c (.var i)).1 ρ h = match ρ[i]? with | some (some d) => .ok d h | _ => .stuck := rfl
@[simp] theorem den_glob (x : Str) : (Ex.dt c (.glob x)).1 ρ h = match c.gl x with | some d => .ok d h | none => .stuck := rfl
@[simp] theorem den_cint (i : Int) : (Ex.dt c (.cint i)).1 ρ h = .ok (.int i) h := rfl
@[simp] theorem den_cbl (b : Bool) : (Ex.dt c (.cbl b)).1 ρ h = .ok (.bl b) h := rfl
@[simp] theorem den_cnon : (Ex.dt c .cnon).1 ρ h = .ok .non h := rfl
@[simp] theorem den_cstr (s : Str) : (Ex.dt c (.cstr s)).1 ρ h = .ok (.str s) h := rfl
@[simp] theorem den_bin (o : BOp) (fz : Bool) (a b : Ex) : (Ex.dt c (.bin o fz a b)).1 ρ h = ((a.dt c).1 ρ h).bd (fun x h1 => ((b.dt c).1 ρ h1).bd (fun y h2 => binD o fz x y h2 ) .mk) .mk:= rfl
@[simp] theorem den_neg (a : Ex) : (Ex.dt c (.neg a)).1 ρ h = ((a.dt c).1 ρ h).bd (fun x h1 => match x with | .int i => .ok (.int (-i)) h1 | _ => .stuck ) .mk:= rfl
@[simp] theorem den_cmp (o : COp) (a b : Ex) : (Ex.dt c (.cmp o a b)).1 ρ h = ((a.dt c).1 ρ h).bd (fun x h1 => ((b.dt c).1 ρ h1).bd (fun y h2 => cmpD o x y h2 ) .mk) .mk:= rfl
@[simp] theorem den_chain (o o' : COp) (a b e : Ex) : (Ex.dt c (.chain o o' a b e)).1 ρ h = ((a.dt c).1 ρ h).bd (fun x h1 => ((b.dt c).1 ρ h1).bd (fun y h2 => (cmpD o x y h2).bd (fun z h3 => match z with
    | .bl true => ((e.dt c).1 ρ h3).bd (fun w h4 => cmpD o' y w h4) .mk
    | .bl false => .ok (.bl false) h3
    | _ => .stuck) .mk) .mk) .mk := rfl
@[simp] theorem den_and (a b : Ex) : (Ex.dt c (.and a b)).1 ρ h = ((a.dt c).1 ρ h).bd (fun x h1 => match x with
      | .bl true => (b.dt c).1 ρ h1
      | .bl false => .ok (.bl false) h1
      | _ => .stuck ) .mk:= rfl
@[simp] theorem den_or (a b : Ex) : (Ex.dt c (.or a b)).1 ρ h = ((a.dt c).1 ρ h).bd (fun x h1 => match x with
      | .bl true => .ok (.bl true) h1
      | .bl false => (b.dt c).1 ρ h1
      | _ => .stuck ) .mk:= rfl
@[simp] theorem den_not (a : Ex) : (Ex.dt c (.not a)).1 ρ h = ((a.dt c).1 ρ h).bd (fun x h1 => match x with | .bl b => .ok (.bl (!b)) h1 | _ => .stuck ) .mk:= rfl
@[simp] theorem den_ite (t a b : Ex) : (Ex.dt c (.ite t a b)).1 ρ h = ((t.dt c).2 ρ h).bd (fun k h1 => if k = true then (a.dt c).1 ρ h1 else (b.dt c).1 ρ h1 ) .mk:= rfl
@[simp] theorem den_tup (es : Exs) : (Ex.dt c (.tup es)).1 ρ h = (es.den c ρ h).bd (fun ds h1 => if ds.length ≤ LN then .ok (.tup ds) h1 else .stuck ) .mk:= rfl
@[simp] theorem den_lst (fz : Bool) (es : Exs) : (Ex.dt c (.lst fz es)).1 ρ h = (es.den c ρ h).bd (fun ds h1 => newL fz ds h1 ) .mk:= rfl
@[simp] theorem den_idx (a i : Ex) : (Ex.dt c (.idx a i)).1 ρ h = ((a.dt c).1 ρ h).bd (fun x h1 => ((i.dt c).1 ρ h1).bd (fun y h2 => idxD x y h2 ) .mk) .mk:= rfl
@[simp] theorem den_slice (fz : Bool) (a : Ex) (lo hi : Exs) : (Ex.dt c (.slice fz a lo hi)).1 ρ h = ((a.dt c).1 ρ h).bd (fun x h1 => (lo.part c ρ h1).bd (fun l h2 => (hi.part c ρ h2).bd (fun u h3 => sliceD fz x l u h3 ) .mk) .mk) .mk:= rfl
@[simp] theorem den_call (f : Nat) (es : Exs) : (Ex.dt c (.call f es)).1 ρ h = (es.den c ρ h).bd (fun ds h1 => c.Γ f ds h1 ) .mk:= rfl
@[simp] theorem den_prim (p : Prim) (fz : Bool) (es : Exs) : (Ex.dt c (.prim p fz es)).1 ρ h = (es.den c ρ h).bd (fun ds h1 => primD p fz ds h1 ) .mk:= rfl
@[simp] theorem den_lrange (fz : Bool) (a : Ex) : (Ex.dt c (.lrange fz a)).1 ρ h = ((a.dt c).1 ρ h).bd (fun x h1 => match x with
    | .int n => if -(LN : Int) ≤ n ∧ n ≤ (LN : Int) then newL fz ((List.range n.toNat).map fun k => .int (k : Nat)) h1 else .stuck
    | _ => .stuck ) .mk:= rfl
@[simp] theorem den_lc (fz : Bool) (own : List (Str × Nat)) (tg : Tg) (it : Itx) (cond : Exs) (elt : Ex) : (Ex.dt c (.lc fz own tg it cond elt)).1 ρ h = (it.den c ρ h).bd (fun xs h1 =>
    (lcD (tg.den c) (cond.tsts c) (elt.dt c).1 (wipeE ρ (own.map (·.2))) xs [] h1).bd (fun ds h2 => newL fz ds h2 ) .mk) .mk:= rfl
@[simp] theorem den_freeze (a : Ex) : (Ex.dt c (.freeze a)).1 ρ h = ((a.dt c).1 ρ h).bd (fun x h1 => freezeD x h1 ) .mk:= rfl
@[simp] theorem den_rev (fz : Bool) (a : Ex) : (Ex.dt c (.rev fz a)).1 ρ h = ((a.dt c).1 ρ h).bd (fun x h1 => revD fz x h1 ) .mk:= rfl
@[simp] theorem den_dnew (t : Bool) : (Ex.dt c (.dnew t)).1 ρ h = .ok (.ref h.length) (h ++ [.dct t []]) := rfl
@[simp] theorem den_meth (m : Mt) (a : Ex) (es : Exs) : (Ex.dt c (.meth m a es)).1 ρ h = ((a.dt c).1 ρ h).bd (fun x h1 => if m.recv h1 x = true then (es.den c ρ h1).bd (fun ds h2 => methD m x ds h2) .mk else .stuck) .mk := rfl
@[simp] theorem recv_append (x : D) : Mt.recv .append h x = (match seqOf h x with | some (_, true) => true | _ => false) := rfl
@[simp] theorem recv_pop (x : D) : Mt.recv .pop h x = (match seqOf h x with | some (_, true) => true | _ => false) := rfl
@[simp] theorem recv_popAt (x : D) : Mt.recv .popAt h x = (match seqOf h x with | some (_, true) => true | _ => false) := rfl
@[simp] theorem recv_index (x : D) : Mt.recv .index h x = (match seqOf h x with | some (_, true) => true | _ => false) := rfl
@[simp] theorem recv_insert (x : D) : Mt.recv .insert h x = (match seqOf h x with | some (_, true) => true | _ => false) := rfl
@[simp] theorem recv_tindex (xs : List D) : Mt.recv .tindex h (.vt xs) = true := rfl
@[simp] theorem den_tupS (es : Sxs) : (Ex.dt c (.tupS es)).1 ρ h = (es.den c ρ h).bd (fun ds h1 => if ds.length ≤ LN then .ok (.tup ds) h1 else .stuck ) .mk:= rfl
@[simp] theorem den_ctup (es : Exs) : (Ex.dt c (.ctup es)).1 ρ h = (es.den c ρ h).bd (fun ds h1 => if ds.length ≤ LN then .ok (.vt ds) h1 else .stuck ) .mk:= rfl
@[simp] theorem den_fzd (a : Ex) : (Ex.dt c (.fzd a)).1 ρ h = ((a.dt c).1 ρ h).bd (fun x h1 => fzR x h1 ) .mk:= rfl
@[simp] theorem den_lc2 (fz : Bool) (own : List (Str × Nat)) (vs1 : List Nat) (tg : Tg) (it : Itx) (tg1 : Tg) (it1 : Itx) (cond : Exs) (elt : Ex) : (Ex.dt c (.lc2 fz own vs1 tg it tg1 it1 cond elt)).1 ρ h = (it.den c ρ h).bd (fun xs h1 =>
    (lc2D (tg.den c) (it1.den c) (tg1.den c) (cond.tsts c) (elt.dt c).1 (wipeE ρ (own.map (·.2))) vs1 xs [] h1).bd (fun ds h2 => newL fz ds h2 ) .mk) .mk:= rfl
@[simp] theorem sxs_nil : Sxs.den c .nil ρ h = .ok [] h := rfl
@[simp] theorem sxs_cons (e : Ex) (es : Sxs) : Sxs.den c (.cons e es) ρ h = ((e.dt c).1 ρ h).bd (fun x h1 => (es.den c ρ h1).bd (fun xs h2 => .ok (x :: xs) h2 ) .mk) .mk:= rfl
@[simp] theorem sxs_star (e : Ex) (es : Sxs) : Sxs.den c (.star e es) ρ h = ((e.dt c).1 ρ h).bd (fun x h1 => match seqOf h1 x with
    | some (ys, _) => (es.den c ρ h1).bd (fun xs h2 => .ok (ys ++ xs) h2 ) .mk
    | none => .stuck) .mk := rfl
@[simp] theorem it_zipM (a b : Ex) : Itx.den c (.zipM a b) ρ h = ((a.dt c).1 ρ h).bd (fun x h1 => ((b.dt c).1 ρ h1).bd (fun y h2 => match x, y with
    | .ref _, _ => .stuck
    | _, .ref _ => .stuck
    | x, y => match seqOf h2 x, seqOf h2 y with
      | some (xs, _), some (ys, _) => if xs.length = ys.length then .ok ((List.range xs.length).map fun j => .tup [xs.getD j .non, ys.getD j .non]) h2 else .stuck
      | _, _ => .stuck) .mk) .mk := rfl
@[simp] theorem it_enumZ (a b : Ex) : Itx.den c (.enumZ a b) ρ h = ((a.dt c).1 ρ h).bd (fun x h1 => ((b.dt c).1 ρ h1).bd (fun y h2 => match x, y with
    | .ref _, _ => .stuck
    | _, .ref _ => .stuck
    | x, y => match seqOf h2 x, seqOf h2 y with
      | some (xs, _), some (ys, _) => if xs.length = ys.length then .ok ((List.range xs.length).map fun j => .tup [.int (j : Nat), .tup [xs.getD j .non, ys.getD j .non]]) h2 else .stuck
      | _, _ => .stuck) .mk) .mk := rfl
@[simp] theorem it_zipS (e : Ex) : Itx.den c (.zipS e) ρ h = ((e.dt c).1 ρ h).bd (fun x h1 => match x with
    | .ref _ => .stuck
    | x => match seqOf h1 x with
      | some (xs, _) => (match (tupsOf xs).bind colsD with
        | some ys => .ok ys h1
        | none => .stuck)
      | none => .stuck) .mk := rfl
@[simp] theorem it_enumF (e : Ex) (k : Nat) : Itx.den c (.enumF e k) ρ h = ((e.dt c).1 ρ h).bd (fun x h1 => match x with
    | .ref _ => .stuck
    | x => match seqOf h1 x with
      | some (xs, true) => .ok ((List.range xs.length).zipWith (fun j x => .tup [.int ((k + j : Nat) : Int), x]) xs) h1
      | _ => .stuck) .mk := rfl
@[simp] theorem tst_meth (m : Mt) (a : Ex) (es : Exs) : (Ex.dt c (.meth m a es)).2 ρ h = truF (Ex.dt c (.meth m a es)).1 ρ h := rfl
/-- tests -/
theorem tst_of (f : Env → Hs → R D) : truF f ρ h = (f ρ h).bd (fun x h1 => match truD h1 x with | some k => .ok k h1 | none => .stuck ) .mk:= rfl
@[simp] theorem tst_var (i : Nat) : (Ex.dt c (.var i)).2 ρ h = truF (Ex.dt c (.var i)).1 ρ h := rfl
@[simp] theorem tst_cbl (b : Bool) : (Ex.dt c (.cbl b)).2 ρ h = .ok b h := rfl
@[simp] theorem tst_cmp (o : COp) (a b : Ex) : (Ex.dt c (.cmp o a b)).2 ρ h = truF (Ex.dt c (.cmp o a b)).1 ρ h := rfl
@[simp] theorem tst_chain (o o' : COp) (a b e : Ex) : (Ex.dt c (.chain o o' a b e)).2 ρ h = truF (Ex.dt c (.chain o o' a b e)).1 ρ h := rfl
@[simp] theorem tst_call (f : Nat) (es : Exs) : (Ex.dt c (.call f es)).2 ρ h = truF (Ex.dt c (.call f es)).1 ρ h := rfl
@[simp] theorem tst_prim (p : Prim) (fz : Bool) (es : Exs) : (Ex.dt c (.prim p fz es)).2 ρ h = truF (Ex.dt c (.prim p fz es)).1 ρ h := rfl
@[simp] theorem tst_and (a b : Ex) : (Ex.dt c (.and a b)).2 ρ h = ((a.dt c).2 ρ h).bd (fun k h1 => if k = true then (b.dt c).2 ρ h1 else .ok false h1 ) .mk:= rfl
@[simp] theorem tst_or (a b : Ex) : (Ex.dt c (.or a b)).2 ρ h = ((a.dt c).2 ρ h).bd (fun k h1 => if k = true then .ok true h1 else (b.dt c).2 ρ h1 ) .mk:= rfl
@[simp] theorem tst_not (a : Ex) : (Ex.dt c (.not a)).2 ρ h = ((a.dt c).2 ρ h).bd (fun k h1 => .ok (!k) h1 ) .mk:= rfl
@[simp] theorem truF_eq (f : Env → Hs → R D) : truF f ρ h = (f ρ h).bd (fun x h1 => match truD h1 x with | some k => .ok k h1 | none => .stuck ) .mk:= rfl
@[simp] theorem tru_bl (b : Bool) : truD h (.bl b) = some b := rfl
@[simp] theorem tru_int (i : Int) : truD h (.int i) = some (i != 0) := rfl
/-- lists of expressions -/
@[simp] theorem dens_nil : Exs.den c .nil ρ h = .ok [] h := rfl
@[simp] theorem dens_cons (e : Ex) (es : Exs) : Exs.den c (.cons e es) ρ h = ((e.dt c).1 ρ h).bd (fun x h1 => (es.den c ρ h1).bd (fun xs h2 => .ok (x :: xs) h2 ) .mk) .mk:= rfl
@[simp] theorem part_nil : Exs.part c .nil ρ h = .ok none h := rfl
@[simp] theorem part_cons (e : Ex) (es : Exs) : Exs.part c (.cons e es) ρ h = ((e.dt c).1 ρ h).bd (fun x h1 => match x with | .int i => .ok (some i) h1 | _ => .stuck ) .mk:= rfl
@[simp] theorem tsts_nil : Exs.tsts c .nil ρ h = .ok true h := rfl
@[simp] theorem tsts_cons (e : Ex) (es : Exs) : Exs.tsts c (.cons e es) ρ h = (e.dt c).2 ρ h := rfl
/-- what loops walk -/
@[simp] theorem it_seq (e : Ex) : Itx.den c (.seq e) ρ h = ((e.dt c).1 ρ h).bd (fun x h1 => match x with
    | .ref _ => .stuck
    | x => match seqOf h1 x with | some (xs, _) => .ok xs h1 | none => .stuck ) .mk:= rfl
@[simp] theorem it_range (es : Exs) : Itx.den c (.range es) ρ h = (es.den c ρ h).bd (fun ds h1 => match ds with
    | [.int n] => if -(LN : Int) ≤ n ∧ n ≤ (LN : Int) then .ok ((List.range n.toNat).map fun k => .int (k : Nat)) h1 else .stuck
    | [.int a, .int b] => if -(LN : Int) ≤ a ∧ a ≤ (LN : Int) ∧ -(LN : Int) ≤ b ∧ b ≤ (LN : Int) then .ok ((List.range (b - a).toNat).map fun k => .int (a + (k : Nat))) h1 else .stuck
    | [.int a, .int b, .int s] => if s = -1 ∧ -(LN : Int) ≤ a ∧ a ≤ (LN : Int) ∧ -(LN : Int) ≤ b ∧ b ≤ (LN : Int) then .ok ((List.range (a - b).toNat).map fun k => .int (a - (k : Nat))) h1 else .stuck
    | _ => .stuck ) .mk:= rfl
@[simp] theorem it_enum (e : Ex) : Itx.den c (.enum e) ρ h = ((e.dt c).1 ρ h).bd (fun x h1 => match x with
    | .ref _ => .stuck
    | x => match seqOf h1 x with
      | some (xs, _) => .ok ((List.range xs.length).zipWith (fun k x => .tup [.int (k : Nat), x]) xs) h1
      | none => .stuck ) .mk:= rfl
@[simp] theorem tg_name (i : Nat) (d : D) : Tg.den c (.name i) d ρ h = if i < ρ.length then .nx (ρ.set i (some d)) h else .stuck := rfl
@[simp] theorem tg_tupT (ts : Tgs) (xs : List D) : Tg.den c (.tup ts) (.tup xs) ρ h = if xs.length = ts.n then ts.den c xs ρ h else .stuck := rfl
@[simp] theorem tg_tupL (ts : Tgs) (xs : List D) : Tg.den c (.tup ts) (.lst xs) ρ h = if xs.length = ts.n then ts.den c xs ρ h else .stuck := rfl
@[simp] theorem tg_idx (a i : Ex) (d : D) : Tg.den c (.idx a i) d ρ h = ((a.dt c).1 ρ h).gq ρ (fun x h1 => ((i.dt c).1 ρ h1).gq ρ (fun y h2 => match setD x y d h2 with
    | some h3 => .nx ρ h3
    | none => .stuck ) .mk) .mk:= rfl
@[simp] theorem tgs_nil : Tgs.den c .nil [] ρ h = .nx ρ h := rfl
@[simp] theorem tgs_cons (t : Tg) (ts : Tgs) (d : D) (r : List D) : Tgs.den c (.cons t ts) (d :: r) ρ h = (t.den c d ρ h).tn (fun ρ1 h1 => ts.den c r ρ1 h1 ) .mk:= rfl
@[simp] theorem tgn_nil : Tgs.n .nil = 0 := rfl
@[simp] theorem tgn_cons (t : Tg) (ts : Tgs) : Tgs.n (.cons t ts) = ts.n + 1 := rfl
/-- statements -/
@[simp] theorem sm_set (i : Nat) (e : Ex) : Sm.den c (.set i e) ρ h = ((e.dt c).1 ρ h).gq ρ (fun d h1 => setS ρ i d h1 ) .mk:= rfl
@[simp] theorem sm_asg (tg : Tg) (e : Ex) : Sm.den c (.asg tg e) ρ h = ((e.dt c).1 ρ h).gq ρ (fun d h1 => tg.den c d ρ h1 ) .mk:= rfl
@[simp] theorem sm_par2 (i j : Nat) (es : Exs) : Sm.den c (.par [i, j] es) ρ h = (es.den c ρ h).gq ρ (fun ds h1 => match ds with
    | [x, y] => if i < ρ.length ∧ j < ρ.length then .nx ((ρ.set i (some x)).set j (some y)) h1 else .stuck
    | _ => .stuck ) .mk := by
  refine Eq.trans (congrArg (fun f => (es.den c ρ h).go ρ f) (funext fun ds => funext fun h1 => ?_)) (rfl : (es.den c ρ h).go ρ _ = _)
  match ds with
  | [] => rfl
  | [x] => rfl
  | [x, y] => rfl
  | x :: y :: z :: r => rfl
@[simp] theorem sm_par3 (i j k : Nat) (es : Exs) : Sm.den c (.par [i, j, k] es) ρ h = (es.den c ρ h).gq ρ (fun ds h1 => match ds with
    | [x, y, z] => if i < ρ.length ∧ j < ρ.length ∧ k < ρ.length then .nx (((ρ.set i (some x)).set j (some y)).set k (some z)) h1 else .stuck
    | _ => .stuck ) .mk := by
  refine Eq.trans (congrArg (fun f => (es.den c ρ h).go ρ f) (funext fun ds => funext fun h1 => ?_)) (rfl : (es.den c ρ h).go ρ _ = _)
  match ds with
  | [] => rfl
  | [x] => rfl
  | [x, y] => rfl
  | [x, y, z] => rfl
  | x :: y :: z :: w :: r => rfl
@[simp] theorem sm_aug (i : Nat) (o : BOp) (e : Ex) : Sm.den c (.aug i o e) ρ h = match ρ[i]? with
    | some (some x) => ((e.dt c).1 ρ h).gq ρ (fun y h1 => match augD o x y with | some z => setS ρ i z h1 | none => .stuck) .mk
    | _ => .stuck := rfl
@[simp] theorem sm_expr (e : Ex) : Sm.den c (.expr e) ρ h = ((e.dt c).1 ρ h).gq ρ (fun _ h1 => .nx ρ h1 ) .mk:= rfl
@[simp] theorem sm_ret (e : Ex) : Sm.den c (.ret e) ρ h = ((e.dt c).1 ρ h).gq ρ (fun d h1 => .ret d h1 ) .mk:= rfl
@[simp] theorem sm_retN : Sm.den c .retN ρ h = .ret .non h := rfl
@[simp] theorem sm_ite (t : Ex) (a b : Sms) : Sm.den c (.ite t a b) ρ h = ((t.dt c).2 ρ h).gq ρ (fun k h1 => if k = true then a.den c ρ h1 else b.den c ρ h1 ) .mk:= rfl
@[simp] theorem sm_while (t : Ex) (b : Sms) : Sm.den c (.while t b) ρ h = whileD (t.dt c).2 (b.den c) c.F ρ h := rfl
@[simp] theorem sm_for (tg : Tg) (it : Itx) (b : Sms) : Sm.den c (.for tg it b) ρ h = (it.den c ρ h).gq ρ (fun xs h1 => forD (tg.den c) (b.den c) xs ρ h1 ) .mk:= rfl
@[simp] theorem sm_pass : Sm.den c .pass ρ h = .nx ρ h := rfl
@[simp] theorem sm_brk : Sm.den c .brk ρ h = .brk ρ h := rfl
@[simp] theorem sm_cnt : Sm.den c .cnt ρ h = .cnt ρ h := rfl
@[simp] theorem sm_raise (x : Str) : Sm.den c (.raise x) ρ h = if c.xs.contains x then .exc x none ρ h else .stuck := rfl
@[simp] theorem sm_tryR (b : Sms) (x : Str) (e : Ex) : Sm.den c (.tryR b x e) ρ h = match b.den c ρ h with
    | .exc k p ρ' h' => if c.xs.contains k && c.xs.contains x then (if supOf k x then ((e.dt c).1 ρ' h').gq ρ' (fun d h1 => .ret d h1) .mk else .exc k p ρ' h') else .stuck
    | o => o := rfl
@[simp] theorem sm_tryA (b : Sms) (x : Str) (i : Nat) (e : Hx) : Sm.den c (.tryA b x i e) ρ h = match b.den c ρ h with
    | .exc k p ρ' h' => if c.xs.contains k && c.xs.contains x && e.xs.all c.xs.contains then (if supOf k x then (match p, e.val k with
      | none, some d => if i < ρ'.length then .ret d h' else .stuck
      | _, _ => .stuck) else .exc k p ρ' h') else .stuck
    | o => o := rfl
@[simp] theorem sm_fz (i : Nat) : Sm.den c (.fz i) ρ h = match ρ[i]? with
    | some (some d) => (match fzD DEEPF d h with
      | some (d', h') => .nx (ρ.set i (some d')) h'
      | none => .stuck)
    | _ => .nx ρ h := rfl
@[simp] theorem sms_nil : Sms.den c .nil ρ h = .nx ρ h := rfl
@[simp] theorem sms_cons (s : Sm) (ss : Sms) : Sms.den c (.cons s ss) ρ h = (s.den c ρ h).tn (fun ρ1 h1 => ss.den c ρ1 h1 ) .mk:= rfl
@[simp] theorem setS_eq (i : Nat) (d : D) : setS ρ i d h = if i < ρ.length then .nx (ρ.set i (some d)) h else .stuck := rfl
end

/-- a loop over items, by a relation that holds ahead of and behind each turn -/
theorem forD_rel {σ : Type} {g : D → Env → Hs → Out} {b : Env → Hs → Out} (R : Nat → Env → Hs → Prop) : ∀ (xs : List D) (i : Nat) (ρ : Env) (h : Hs), R i ρ h →
    (∀ j x ρ h, xs[j]? = some x → R (i + j) ρ h → ∃ ρ1 h1 ρ' h', g x ρ h = .nx ρ1 h1 ∧ (b ρ1 h1 = .nx ρ' h' ∨ b ρ1 h1 = .cnt ρ' h') ∧ R (i + j + 1) ρ' h') →
    ∃ ρ' h', forD g b xs ρ h = .nx ρ' h' ∧ R (i + xs.length) ρ' h'
  | [], i, ρ, h, r, _ => ⟨ρ, h, rfl, r⟩
  | x :: xs, i, ρ, h, r, hs => by
    obtain ⟨ρ1, h1, ρ2, h2, e1, e2, r2⟩ := hs 0 x ρ h rfl r
    obtain ⟨ρ3, h3, e3, r3⟩ := forD_rel (σ := σ) R xs (i + 1) ρ2 h2 r2 fun j y ρ h hy hr => by
      have := hs (j + 1) y ρ h (by simpa using hy) (by rw [show i + (j + 1) = i + 1 + j from by omega]; exact hr)
      rw [show i + (j + 1) = i + 1 + j from by omega] at this
      exact this
    refine ⟨ρ3, h3, ?_, by rw [List.length_cons, show i + (xs.length + 1) = i + 1 + xs.length from by omega]; exact r3⟩
    unfold forD
    rw [e1]
    rcases e2 with e2 | e2
    · simp only [e2]; exact e3
    · simp only [e2]; exact e3
/-- a while loop, by a relation with a measure -/
theorem whileD_rel {c : Env → Hs → R Bool} {b : Env → Hs → Out} (P : Nat → Env → Hs → Prop) : ∀ (F m : Nat) (ρ : Env) (h : Hs), m < F → P m ρ h →
    (∀ m ρ h, P m ρ h → (∃ h1, c ρ h = .ok false h1 ∧ h1 = h ∧ m = 0) ∨ ∃ h1 ρ' h' m', c ρ h = .ok true h1 ∧ (b ρ h1 = .nx ρ' h' ∨ b ρ h1 = .cnt ρ' h') ∧ m' < m ∧ P m' ρ' h') →
    ∃ ρ' h', whileD c b F ρ h = .nx ρ' h' ∧ P 0 ρ' h'
  | 0, m, _, _, hl, _, _ => absurd hl (Nat.not_lt_zero m)
  | F + 1, m, ρ, h, hl, p, hs => by
    rcases hs m ρ h p with ⟨h1, e1, rfl, rfl⟩ | ⟨h1, ρ2, h2, m2, e1, e2, hm, p2⟩
    · exact ⟨ρ, h1, by unfold whileD; rw [e1], p⟩
    · obtain ⟨ρ3, h3, e3, p3⟩ := whileD_rel P F m2 ρ2 h2 (by omega) p2 hs
      refine ⟨ρ3, h3, ?_, p3⟩
      unfold whileD
      rw [e1]
      rcases e2 with e2 | e2
      · simp only [e2]; exact e3
      · simp only [e2]; exact e3
end Ev
set_option maxHeartbeats 1000000
/-! Ev, part R: the numbers that every law draws from its script. -/
namespace Ev
open PySem PySem.Spec PyProof.Rows L2
def rowLoop : Sms :=
 (.cons (.set 4 (.bin .mod true (.prim .intOf true (.cons (.bin .add true (.bin .mul true (.var 4) (.cint 16807)) (.bin .mul true (.cint 271) (.bin .add true (.var 5) (.cint 3)))) .nil)) (.cint 2147483629)))
 (.cons (.ite (.cmp .ge (.prim .abs true (.cons (.var 0) .nil)) (.bin .pow true (.cint 10) (.cint 18)))
 (.cons (.expr (.meth .append (.var 2) (.cons (.bin .mod true (.prim .intOf true (.cons (.var 3) .nil)) (.cint 1009)) .nil)))
 (.cons (.set 3 (.bin .fdiv true (.var 3) (.cint 1009)))
 .nil))
 (.cons (.expr (.meth .append (.var 2) (.cons (.bin .mod true (.prim .intOf true (.cons (.bin .fdiv true (.var 4) (.cint 7)) .nil)) (.cint 1009)) .nil)))
 .nil))
 .nil))
def rowB : Sms := (.cons (.set 2 (.lst false .nil))
 (.cons (.set 3 (.prim .abs true (.cons (.var 0) .nil)))
 (.cons (.set 4 (.bin .mod true (.prim .intOf true (.cons (.bin .add true (.bin .mul true (.var 3) (.cint 48271)) (.cint 69621)) .nil)) (.cint 2147483647)))
 (.cons (.for (.name 5) (.range (.cons (.var 1) .nil))
 rowLoop)
 (.cons (.ret (.freeze (.var 2)))
 .nil)))))
def numIn : Sms :=
 (.cons (.expr (.meth .append (.var 4) (.cons (.var 6) .nil)))
 .nil)
def numOut : Sms :=
 (.cons (.for (.name 6) (.seq (.call 0 (.cons (.var 5) (.cons (.var 3) .nil))))
 numIn)
 .nil)
def numWh : Sms :=
 (.cons (.expr (.meth .append (.var 4) (.cons (.cint 0) .nil)))
 .nil)
def numB : Sms := (.cons (.set 2 (.slice true (.var 0) .nil (.cons (.cint 63) .nil)))
 (.cons (.set 3 (.bin .add true (.cint 1) (.bin .fdiv true (.var 1) (.prim .max2 true (.cons (.cint 1) (.cons (.prim .len true (.cons (.var 2) .nil)) .nil))))))
 (.cons (.set 4 (.lst false .nil))
 (.cons (.for (.name 5) (.seq (.var 2))
 numOut)
 (.cons (.while (.cmp .lt (.prim .len true (.cons (.var 4) .nil)) (.var 1))
 numWh)
 (.cons (.ret (.slice true (.var 4) .nil (.cons (.var 1) .nil)))
 .nil))))))
theorem G_ok {fs : List Fn} {gl : Str → Option D} {xs : List Str} {F n i : Nat} {f : Fn} {ds : List D} {d : D} {h : Hs} (e : fs[i]? = some f) (hl : ds.length = f.ps.length) (hp : D.pures ds = true)
    (hd : ∃ h', f.body.den ⟨G fs gl xs F n, gl, xs, F⟩ (ds.map some ++ List.replicate (f.N.length - ds.length) none) [] = .ret d h') (hq : d.pure = true) (hs : f.sh = false := by rfl) : G fs gl xs F (n + 1) i ds h = .ok d h := by
  obtain ⟨h', hd⟩ := hd
  unfold G
  rw [e]
  have q : runFn ⟨G fs gl xs F n, gl, xs, F⟩ f ds = .ok d [] := by
    unfold runFn
    rw [if_pos ⟨hl, hp⟩, hd]
    exact if_pos hq
  dsimp only
  rw [if_neg (by rw [hs]; exact Bool.false_ne_true), q]
/-- .. with its caller's cells -/
theorem GS_ok {fs : List Fn} {gl : Str → Option D} {xs : List Str} {F n i : Nat} {f : Fn} {ds : List D} {d : D} {h h' : Hs} (e : fs[i]? = some f) (hl : ds.length = f.ps.length) (hs : f.sh = true)
    (hd : f.body.den ⟨G fs gl xs F n, gl, xs, F⟩ (ds.map some ++ List.replicate (f.N.length - ds.length) none) h = .ret d h') : G fs gl xs F (n + 1) i ds h = .ok d h' := by
  unfold G
  rw [e]
  dsimp only
  rw [if_pos hs]
  unfold runSh
  rw [if_pos hl, hd]
theorem pures_ints : ∀ ks : List Int, D.pures (ks.map .int) = true
  | [] => rfl
  | _ :: ks => pures_ints ks
theorem LN_eq : LN = 1000000 := rfl
def Small (ks : List Int) : Prop := ∀ k ∈ ks, 0 ≤ k ∧ k < 1009
theorem Small.snoc {ks : List Int} {k : Int} (s : Small ks) (h : 0 ≤ k ∧ k < 1009) : Small (ks ++ [k]) := fun x hx => by
  rcases List.mem_append.mp hx with q | q
  · exact s x q
  · simp at q; subst q; exact h
structure RowR (cell many : Int) (i : Nat) (ρ : Env) (h : Hs) : Prop where
  ex : ∃ (ks : List Int) (rest mixed : Int) (t : Option D), ρ = [some (.int cell), some (.int many), some (.ref 0), some (.int rest), some (.int mixed), t] ∧ h = [.lst (ks.map .int)] ∧ ks.length = i ∧ Small ks
theorem row_step {c : Cfg} {cell many : Int} {j : Nat} {ρ : Env} {h : Hs} (hj : RowR cell many j ρ h) (hl : (j : Int) < many) (h1 : many ≤ (LN : Int)) :
    ∃ ρ1 h1 ρ' h', Tg.den c (.name 5) (.int j) ρ h = .nx ρ1 h1 ∧ (Sms.den c rowLoop ρ1 h1 = .nx ρ' h' ∨ Sms.den c rowLoop ρ1 h1 = .cnt ρ' h') ∧ RowR cell many (j + 1) ρ' h' := by
  obtain ⟨ks, rest, mixed, t, rfl, rfl, hk, sm⟩ := hj.ex
  have hn : ks.length < LN := by omega
  by_cases hc : (1000000000000000000 : Int) ≤ (if cell < 0 then -cell else cell)
  · refine ⟨_, _, [some (.int cell), some (.int many), some (.ref 0), some (.int (rest / 1009)), some (.int ((mixed * 16807 + 271 * ((j : Int) + 3)) % 2147483629)), some (.int j)], [.lst ((ks ++ [rest % 1009]).map .int)], by simp; exact ⟨rfl, rfl⟩, .inl ?_,
      ⟨⟨ks ++ [rest % 1009], _, _, _, rfl, rfl, by simp [hk], sm.snoc ⟨Int.emod_nonneg _ (by omega), Int.emod_lt_of_pos _ (by omega)⟩⟩⟩⟩
    unfold rowLoop
    simp [bin_mul, bin_mod, bin_fdiv, bin_pow, hc, app_r0, hn]
  · refine ⟨_, _, [some (.int cell), some (.int many), some (.ref 0), some (.int rest), some (.int ((mixed * 16807 + 271 * ((j : Int) + 3)) % 2147483629)), some (.int j)], [.lst ((ks ++ [(mixed * 16807 + 271 * ((j : Int) + 3)) % 2147483629 / 7 % 1009]).map .int)], by simp; exact ⟨rfl, rfl⟩, .inl ?_,
      ⟨⟨ks ++ [(mixed * 16807 + 271 * ((j : Int) + 3)) % 2147483629 / 7 % 1009], _, _, _, rfl, rfl, by simp [hk], sm.snoc ⟨Int.emod_nonneg _ (by omega), Int.emod_lt_of_pos _ (by omega)⟩⟩⟩⟩
    unfold rowLoop
    simp [bin_mul, bin_mod, bin_fdiv, bin_pow, hc, app_r0, hn]
theorem row_body {c : Cfg} (cell many : Int) (h0 : 0 ≤ many) (h1 : many ≤ (LN : Int)) : ∃ ks : List Int, (∃ h', rowB.den c [some (.int cell), some (.int many), none, none, none, none] [] = .ret (.lst (ks.map .int)) h') ∧ ks.length = many.toNat ∧ Small ks := by
  have hm : -(LN : Int) ≤ many ∧ many ≤ (LN : Int) := ⟨by have := LN_eq; omega, h1⟩
  obtain ⟨ρ', h', e, r⟩ := forD_rel (σ := Unit) (g := Tg.den c (.name 5)) (b := Sms.den c rowLoop) (RowR cell many) (List.map (fun k => D.int (k : Nat)) (List.range many.toNat)) 0
    [some (.int cell), some (.int many), some (.ref 0), some (.int (if cell < 0 then -cell else cell)), some (.int (((if cell < 0 then -cell else cell) * 48271 + 69621) % 2147483647)), none] [.lst []] ⟨⟨[], _, _, _, rfl, rfl, rfl, fun x hx => by cases hx⟩⟩
    (fun j x ρ h hx hr => by
      rw [List.getElem?_map] at hx
      have hj : j < many.toNat := by
        cases q : (List.range many.toNat)[j]? with
        | none => rw [q] at hx; cases hx
        | some y => simpa using (List.getElem?_eq_some_iff.mp q).1
      rw [List.getElem?_range hj] at hx
      cases hx
      rw [Nat.zero_add] at hr ⊢
      exact row_step hr (by omega) h1)
  obtain ⟨ks, rest, mixed, t, rfl, rfl, hk, sm⟩ := r.ex
  refine ⟨ks, ⟨[.dead], ?_⟩, by simpa using hk, sm⟩
  unfold rowB
  simp [new_cell, bin_mul, bin_mod, hm]
  rw [e]
  simp [frz_r0, pures_ints]
theorem row_ok {fs : List Fn} {gl : Str → Option D} {xs : List Str} {F n : Nat} {f : Fn} (e : fs[0]? = some f) (hb : f.body = rowB) (hp : f.ps.length = 2) (hN : f.N.length = 6) (cell many : Int) (h0 : 0 ≤ many) (h1 : many ≤ (LN : Int)) (h : Hs) (hsf : f.sh = false := by rfl) :
    ∃ ks : List Int, G fs gl xs F (n + 1) 0 [.int cell, .int many] h = .ok (.lst (ks.map .int)) h ∧ ks.length = many.toNat ∧ Small ks := by
  obtain ⟨ks, hd, hk, sm⟩ := row_body (c := ⟨G fs gl xs F n, gl, xs, F⟩) cell many h0 h1
  exact ⟨ks, G_ok e hp.symm rfl (by rw [hb, hN]; exact hd) (pures_ints ks) hsf, hk, sm⟩
theorem cut_all {α : Type} {xs : List α} {k : Nat} (h : xs.length ≤ k) : cutD xs none (some (k : Int)) = xs := by
  unfold cutD
  rw [HT.sIx_nat, HT.sIx_none, List.drop_zero, Nat.sub_zero, Nat.min_eq_right h, List.take_length]
theorem cut_take {α : Type} (xs : List α) (k : Nat) : cutD xs none (some (k : Int)) = xs.take k := by
  unfold cutD
  rw [HT.sIx_nat, HT.sIx_none, List.drop_zero, Nat.sub_zero]
  by_cases h : k ≤ xs.length
  · rw [Nat.min_eq_left h]
  · rw [Nat.min_eq_right (by omega), List.take_length, List.take_of_length_le (by omega)]
abbrev numE (ns : List Int) (many each : Int) (t5 t6 : Option D) : Env := [some (.vw (ns.map .int)), some (.int many), some (.lst (ns.map .int)), some (.int each), some (.ref 0), t5, t6]
def GotRow (c : Cfg) : Prop := ∀ (cell many : Int) (h : Hs), 0 ≤ many → many ≤ (LN : Int) → ∃ ks : List Int, c.Γ 0 [.int cell, .int many] h = .ok (.lst (ks.map .int)) h ∧ ks.length = many.toNat ∧ Small ks
structure NumR (ns : List Int) (many each : Int) (i : Nat) (ρ : Env) (h : Hs) : Prop where
  ex : ∃ (ks : List Int) (t5 t6 : Option D), ρ = numE ns many each t5 t6 ∧ h = [.lst (ks.map .int)] ∧ (ks.length : Int) = i * each ∧ Small ks
structure NumI (ns : List Int) (many each cell : Int) (k0 rs : List Int) (i : Nat) (ρ : Env) (h : Hs) : Prop where
  ex : ∃ (t6 : Option D), ρ = numE ns many each (some (.int cell)) t6 ∧ h = [.lst ((k0 ++ rs.take i).map .int)]
structure NumW (ns : List Int) (many each : Int) (m : Nat) (ρ : Env) (h : Hs) : Prop where
  ex : ∃ (ks : List Int) (t5 t6 : Option D), ρ = numE ns many each t5 t6 ∧ h = [.lst (ks.map .int)] ∧ m = many.toNat - ks.length ∧ Small ks
theorem num_in {c : Cfg} {ns : List Int} {many each cell : Int} {k0 rs : List Int} (hk : k0.length + rs.length < LN) {t6 : Option D} :
    ∃ ρ' h', forD (Tg.den c (.name 6)) (Sms.den c numIn) (rs.map .int) (numE ns many each (some (.int cell)) t6) [.lst (k0.map .int)] = .nx ρ' h' ∧ NumI ns many each cell k0 rs rs.length ρ' h' := by
  have := forD_rel (σ := Unit) (g := Tg.den c (.name 6)) (b := Sms.den c numIn) (NumI ns many each cell k0 rs) (rs.map .int) 0 (numE ns many each (some (.int cell)) t6) [.lst (k0.map .int)] ⟨⟨t6, rfl, by simp⟩⟩ (fun j x ρ h hx hr => by
    rw [List.getElem?_map] at hx
    cases q : rs[j]? with
    | none => rw [q] at hx; cases hx
    | some y =>
      rw [q] at hx
      cases hx
      rw [Nat.zero_add] at hr ⊢
      obtain ⟨t, rfl, rfl⟩ := hr.ex
      have hj : j < rs.length := (List.getElem?_eq_some_iff.mp q).1
      have hn : k0.length + min j rs.length < LN := by omega
      refine ⟨_, _, numE ns many each (some (.int cell)) (some (.int y)), [.lst ((k0 ++ rs.take (j + 1)).map .int)], by simp [numE]; exact ⟨rfl, rfl⟩, .inl ?_, ⟨⟨_, rfl, rfl⟩⟩⟩
      unfold numIn
      rw [List.take_add_one, q]
      simp [numE, app_r0, hn])
  rw [List.length_map, Nat.zero_add] at this
  exact this
theorem num_step {c : Cfg} (hc : GotRow c) {ns : List Int} {many each : Int} (he : 0 ≤ each) (hz : 63 * each < (LN : Int)) (hns : ns.length ≤ 63) {j : Nat} {ρ : Env} {h : Hs} {x : D} (hx : (ns.map D.int)[j]? = some x) (hr : NumR ns many each j ρ h) :
    ∃ ρ1 h1 ρ' h', Tg.den c (.name 5) x ρ h = .nx ρ1 h1 ∧ (Sms.den c numOut ρ1 h1 = .nx ρ' h' ∨ Sms.den c numOut ρ1 h1 = .cnt ρ' h') ∧ NumR ns many each (j + 1) ρ' h' := by
  rw [List.getElem?_map] at hx
  cases q : ns[j]? with
  | none => rw [q] at hx; cases hx
  | some y =>
    rw [q] at hx
    cases hx
    obtain ⟨ks, t5, t6, rfl, rfl, hk, sm⟩ := hr.ex
    have hj : j < ns.length := (List.getElem?_eq_some_iff.mp q).1
    obtain ⟨rs, e1, hl, sr⟩ := hc y each [.lst (ks.map .int)] he (by omega)
    have hle : (ks.length : Int) + each ≤ 63 * each := by
      rw [hk]
      have : ((j : Int) + 1) * each ≤ 63 * each := Int.mul_le_mul_of_nonneg_right (by omega) he
      rw [Int.add_mul, Int.one_mul] at this
      exact this
    obtain ⟨ρ2, h2, e2, r2⟩ := num_in (c := c) (ns := ns) (many := many) (each := each) (cell := y) (k0 := ks) (rs := rs) (t6 := t6) (by omega)
    obtain ⟨t, rfl, rfl⟩ := r2.ex
    refine ⟨_, _, numE ns many each (some (.int y)) t, [.lst ((ks ++ rs.take rs.length).map .int)], by simp [numE]; exact ⟨rfl, rfl⟩, .inl ?_, ⟨⟨ks ++ rs, some (.int y), t, rfl, by rw [List.take_length], ?_, ?_⟩⟩⟩
    · unfold numOut
      simp only [numE] at e2
      simp [numE, e1]
      rw [e2]
      simp [numE]
    · have e3 : ((rs.length : Nat) : Int) = each := by omega
      rw [List.length_append, Int.natCast_add, hk, e3, Int.natCast_add, Int.add_mul]
      simp
    · intro z hz'
      rcases List.mem_append.mp hz' with q | q
      · exact sm z q
      · exact sr z q
theorem num_while {c : Cfg} {ns : List Int} {many each : Int} (hm : many ≤ 1000) (hF : 1000 < c.F) {ρ : Env} {h : Hs} {m : Nat} (hr : NumW ns many each m ρ h) :
    ∃ ρ' h', whileD (Ex.dt c (.cmp .lt (.prim .len true (.cons (.var 4) .nil)) (.var 1))).2 (Sms.den c numWh) c.F ρ h = .nx ρ' h' ∧ NumW ns many each 0 ρ' h' := by
  have hm' : m < c.F := by
    obtain ⟨ks, _, _, _, _, e, _⟩ := hr.ex
    omega
  refine whileD_rel (NumW ns many each) c.F m ρ h hm' hr fun m ρ h hr => ?_
  obtain ⟨ks, t5, t6, rfl, rfl, e, sm⟩ := hr.ex
  by_cases q : (ks.length : Int) < many
  · refine .inr ⟨[.lst (ks.map .int)], numE ns many each t5 t6, [.lst ((ks ++ [0]).map .int)], many.toNat - (ks.length + 1), ?_, .inl ?_, by omega, ⟨⟨ks ++ [0], t5, t6, rfl, rfl, by simp, sm.snoc (by omega)⟩⟩⟩
    · simp [numE, q]
    · unfold numWh
      have hn : ks.length < LN := by rw [LN_eq]; omega
      simp [numE, app_r0, hn]
  · refine .inl ⟨_, ?_, rfl, by omega⟩
    simp [numE, q]
theorem num_body {c : Cfg} (hc : GotRow c) (hF : 1000 < c.F) {ns : List Int} (hns : ns.length ≤ 63) (many : Int) (h0 : 0 ≤ many) (h1 : many ≤ 1000) :
    ∃ ks : List Int, (∃ h', numB.den c [some (.vw (ns.map .int)), some (.int many), none, none, none, none, none] [] = .ret (.lst (ks.map .int)) h') ∧ ks.length = many.toNat ∧ Small ks := by
  have hl0 : ns.length ≤ LN := by rw [LN_eq]; omega
  generalize hE : 1 + many / (if (ns.length : Int) > 1 then (ns.length : Int) else 1) = each
  have hj : 0 < (if (ns.length : Int) > 1 then (ns.length : Int) else 1) := by split <;> omega
  have hj2 : (if (ns.length : Int) > 1 then (ns.length : Int) else 1) < 1073741824 := by split <;> omega
  have hd : 0 ≤ many / (if (ns.length : Int) > 1 then (ns.length : Int) else 1) := Int.ediv_nonneg h0 (by omega)
  have hd2 : many / (if (ns.length : Int) > 1 then (ns.length : Int) else 1) ≤ many := Int.ediv_le_self _ h0
  have he : 0 ≤ each := by omega
  have he2 : 63 * each < (LN : Int) := by rw [LN_eq]; omega
  obtain ⟨ρ1, s1, e1, r1⟩ := forD_rel (σ := Unit) (g := Tg.den c (.name 5)) (b := Sms.den c numOut) (NumR ns many each) (ns.map .int) 0 (numE ns many each none none) [.lst []] ⟨⟨[], none, none, rfl, rfl, by simp, fun x hx => by cases hx⟩⟩
    (fun j x ρ h hx hr => by
      rw [Nat.zero_add] at hr ⊢
      exact num_step hc he he2 hns hx hr)
  obtain ⟨k1, t5, t6, rfl, rfl, hk1, s1⟩ := r1.ex
  obtain ⟨ρ2, s2, e2, r2⟩ := num_while (c := c) h1 hF (m := many.toNat - k1.length) ⟨⟨k1, t5, t6, rfl, rfl, rfl, s1⟩⟩
  obtain ⟨k2, u5, u6, rfl, rfl, hk2, s2⟩ := r2.ex
  refine ⟨k2.take many.toNat, ⟨[.lst (k2.map .int)], ?_⟩, by rw [List.length_take]; omega, fun x hx => s2 x (List.mem_of_mem_take hx)⟩
  have hcut : cutD (ns.map D.int) none (some 63) = ns.map D.int := cut_all (k := 63) (by rw [List.length_map]; exact hns)
  have hcut2 : cutD (k2.map D.int) none (some many) = (k2.take many.toNat).map D.int := by
    have := cut_take (k2.map D.int) many.toNat
    rw [show ((many.toNat : Nat) : Int) = many from by omega] at this
    rw [this, List.map_take]
  have hsl : ∀ h, sliceD true (.vw (ns.map D.int)) none (some 63) h = .ok (.lst (ns.map D.int)) h := fun h => by
    show newL true (cutD (ns.map D.int) none (some 63)) h = _
    rw [hcut, new_fz (by rw [List.length_map]; exact hl0)]
  have hsl2 : sliceD true (.ref 0) none (some many) [.lst (k2.map D.int)] = .ok (.lst ((k2.take many.toNat).map D.int)) [.lst (k2.map D.int)] := by
    show newL true (cutD (k2.map D.int) none (some many)) _ = _
    rw [hcut2, new_fz (by rw [List.length_map, List.length_take, LN_eq]; omega)]
  unfold numB
  simp only [numE] at e1 e2
  simp [hsl, new_cell, bin_fdiv, hj, hj2, hE]
  rw [e1]
  simp
  rw [e2]
  simp [hsl2]
theorem num_ok {fs : List Fn} {gl : Str → Option D} {xs : List Str} {F n : Nat} {f g : Fn} (e : fs[0]? = some f) (hb : f.body = rowB) (hp : f.ps.length = 2) (hN : f.N.length = 6) (e' : fs[1]? = some g) (hb' : g.body = numB) (hp' : g.ps.length = 2) (hN' : g.N.length = 7) (hF : 1000 < F)
    {ns : List Int} (hns : ns.length ≤ 63) (many : Int) (h0 : 0 ≤ many) (h1 : many ≤ 1000) (h : Hs) (hsf : f.sh = false := by rfl) (hsg : g.sh = false := by rfl) :
    ∃ ks : List Int, G fs gl xs F (n + 2) 1 [.vw (ns.map .int), .int many] h = .ok (.lst (ks.map .int)) h ∧ ks.length = many.toNat ∧ Small ks := by
  obtain ⟨ks, hd, hk, sm⟩ := num_body (c := ⟨G fs gl xs F (n + 1), gl, xs, F⟩) (fun cell m h a b => row_ok e hb hp hN cell m a b h hsf) hF hns many h0 h1
  exact ⟨ks, G_ok e' hp'.symm (by show (D.pures (ns.map D.int) && _) = true; rw [pures_ints]; rfl) (by rw [hb', hN']; exact hd) (pures_ints ks) hsg, hk, sm⟩
end Ev
set_option maxHeartbeats 1000000
/-! Ev, part S: loops with a name, with a pair of names. -/
namespace Ev
open PySem PySem.Spec PyProof.Rows L2
variable {c : Cfg}
theorem for_name {α : Type} {b : Env → Hs → Out} {i : Nat} (f : α → D) (xs : List α) (R : Nat → Env → Hs → Prop) {ρ : Env} {h : Hs} (hr : R 0 ρ h)
    (hs : ∀ j x ρ h, xs[j]? = some x → R j ρ h → i < ρ.length ∧ ∃ ρ' h', b (ρ.set i (some (f x))) h = .nx ρ' h' ∧ R (j + 1) ρ' h') :
    ∃ ρ' h', forD (Tg.den c (.name i)) b (xs.map f) ρ h = .nx ρ' h' ∧ R xs.length ρ' h' := by
  have := forD_rel (σ := Unit) (g := Tg.den c (.name i)) (b := b) R (xs.map f) 0 ρ h hr fun j y ρ h hy r => by
    rw [List.getElem?_map] at hy
    cases q : xs[j]? with
    | none => rw [q] at hy; cases hy
    | some x =>
      rw [q] at hy; cases hy
      rw [Nat.zero_add] at r ⊢
      obtain ⟨hl, ρ', h', e, r'⟩ := hs j x ρ h q r
      exact ⟨_, _, ρ', h', by rw [tg_name, if_pos hl], .inl e, r'⟩
  rw [List.length_map, Nat.zero_add] at this
  exact this
theorem for_rng {b : Env → Hs → Out} {i : Nat} (n : Nat) (R : Nat → Env → Hs → Prop) {ρ : Env} {h : Hs} (hr : R 0 ρ h)
    (hs : ∀ j ρ h, j < n → R j ρ h → i < ρ.length ∧ ∃ ρ' h', b (ρ.set i (some (.int (j : Nat)))) h = .nx ρ' h' ∧ R (j + 1) ρ' h') :
    ∃ ρ' h', forD (Tg.den c (.name i)) b ((List.range n).map fun k => D.int (k : Nat)) ρ h = .nx ρ' h' ∧ R n ρ' h' := by
  have := for_name (c := c) (b := b) (i := i) (fun k : Nat => D.int (k : Nat)) (List.range n) R hr fun j x ρ h hx r => by
    have hj : j < n := by simpa using (List.getElem?_eq_some_iff.mp hx).1
    rw [List.getElem?_range hj] at hx
    cases hx
    exact hs j ρ h hj r
  rw [List.length_range] at this
  exact this
/-- the figures of a number, the least first -/
def figs (p : Int) (n : Nat) (x : Int) : List Int := (List.range n).map fun j => x / p ^ j % p
theorem figs_succ (p : Int) (n : Nat) (x : Int) : figs p (n + 1) x = figs p n x ++ [x / p ^ n % p] := by
  unfold figs; rw [List.range_succ, List.map_append]; rfl
theorem figs_len (p : Int) (n : Nat) (x : Int) : (figs p n x).length = n := by unfold figs; rw [List.length_map, List.length_range]
theorem div_pow {p : Int} (hp : 0 < p) (x : Int) (n : Nat) : x / p ^ n / p = x / p ^ (n + 1) := by
  rw [Int.pow_succ, Int.ediv_ediv_of_nonneg (Int.le_of_lt (Int.pow_pos hp))]
structure Prm (p : Int) : Prop where
  pos : 0 < p
  lt : p < 1000000
def figLoop : Sms := (.cons (.expr (.meth .append (.var 3) (.cons (.bin .mod true (.var 2) (.var 0)) .nil)))
 (.cons (.aug 2 .fdiv (.var 0))
 .nil))
def figB : Sms := (.cons (.set 3 (.lst false .nil))
 (.cons (.for (.name 4) (.range (.cons (.var 1) .nil))
 figLoop)
 (.cons (.ret (.freeze (.var 3)))
 .nil)))
def lfigLoop : Sms := (.cons (.expr (.meth .append (.var 3) (.cons (.bin .mod true (.prim .intOf true (.cons (.var 2) .nil)) (.var 0)) .nil)))
 (.cons (.set 2 (.prim .intOf true (.cons (.bin .fdiv true (.var 2) (.var 0)) .nil)))
 .nil))
def lfigB : Sms := (.cons (.set 3 (.lst false .nil))
 (.cons (.for (.name 4) (.range (.cons (.var 1) .nil))
 lfigLoop)
 (.cons (.ret (.freeze (.var 3)))
 .nil)))
def FigR (p many x : Int) (i : Nat) (ρ : Env) (h : Hs) : Prop := ∃ t : Option D, ρ = [some (.int p), some (.int many), some (.int (x / p ^ i)), some (.ref 0), t] ∧ h = [.lst ((figs p i x).map .int)]
theorem fig_body {p : Int} (hp : Prm p) (n : Nat) (hn : n ≤ 1000) (x : Int) : ∃ h', figB.den c [some (.int p), some (.int n), some (.int x), none, none] [] = .ret (.lst ((figs p n x).map .int)) h' := by
  obtain ⟨hp0, hp1⟩ := hp
  have hp2 : p < 1073741824 := by omega
  obtain ⟨ρ', h', e, t, rfl, rfl⟩ := for_rng (c := c) (b := Sms.den c figLoop) (i := 4) n (FigR p n x) (ρ := [some (.int p), some (.int n), some (.int x), some (.ref 0), none]) (h := [.lst []]) ⟨none, by simp, rfl⟩ (fun j ρ h hj ⟨t, e1, e2⟩ => by
    subst e1 e2
    have hl : (figs p j x).length < LN := by rw [figs_len, LN_eq]; omega
    refine ⟨by simp, _, _, ?_, ⟨some (.int j), rfl, rfl⟩⟩
    unfold figLoop
    rw [figs_succ, ← div_pow hp0]
    simp [bin_mod, hp0, app_r0, hl, aug_fdiv, hp2])
  have hm : -(LN : Int) ≤ n ∧ (n : Int) ≤ LN := by rw [LN_eq]; omega
  refine ⟨[.dead], ?_⟩
  unfold figB
  simp [new_cell, hm]
  rw [e]
  simp [frz_r0, pures_ints]
theorem lfig_body {p : Int} (hp : Prm p) (n : Nat) (hn : n ≤ 1000) (x : Int) : ∃ h', lfigB.den c [some (.int p), some (.int n), some (.int x), none, none] [] = .ret (.lst ((figs p n x).map .int)) h' := by
  obtain ⟨hp0, hp1⟩ := hp
  have hp2 : p < 1073741824 := by omega
  obtain ⟨ρ', h', e, t, rfl, rfl⟩ := for_rng (c := c) (b := Sms.den c lfigLoop) (i := 4) n (FigR p n x) (ρ := [some (.int p), some (.int n), some (.int x), some (.ref 0), none]) (h := [.lst []]) ⟨none, by simp, rfl⟩ (fun j ρ h hj ⟨t, e1, e2⟩ => by
    subst e1 e2
    have hl : (figs p j x).length < LN := by rw [figs_len, LN_eq]; omega
    refine ⟨by simp, _, _, ?_, ⟨some (.int j), rfl, rfl⟩⟩
    unfold lfigLoop
    rw [figs_succ, ← div_pow hp0]
    simp [bin_mod, hp0, app_r0, hl, bin_fdiv, hp2])
  have hm : -(LN : Int) ≤ n ∧ (n : Int) ≤ LN := by rw [LN_eq]; omega
  refine ⟨[.dead], ?_⟩
  unfold lfigB
  simp [new_cell, hm]
  rw [e]
  simp [frz_r0, pures_ints]
/-- the number of its figures -/
def numb (p : Int) : List Int → Int
  | [] => 0
  | x :: xs => numb p xs * p + x
theorem numb_rev (p : Int) : ∀ xs : List Int, xs.reverse.foldl (fun t x => t * p + x) 0 = numb p xs
  | [] => rfl
  | x :: xs => by rw [List.reverse_cons, List.foldl_append, numb_rev p xs]; rfl
def nmbLoop : Sms := (.cons (.set 2 (.bin .add true (.bin .mul true (.var 2) (.var 0)) (.var 3)))
 .nil)
def nmbB : Sms := (.cons (.set 2 (.cint 0))
 (.cons (.for (.name 3) (.seq (.rev true (.var 1)))
 nmbLoop)
 (.cons (.ret (.var 2))
 .nil)))
theorem nmb_body {p : Int} (hp : Prm p) (xs : List Int) (hx : xs.length ≤ 1000) : ∃ h', nmbB.den c [some (.int p), some (.lst (xs.map .int)), none, none] [] = .ret (.int (numb p xs)) h' := by
  obtain ⟨hp0, hp1⟩ := hp
  have q1 : -18446744073709551616 < p := by omega
  have q2 : p < 18446744073709551616 := by omega
  obtain ⟨ρ', h', e, t, rfl, rfl⟩ := for_name (c := c) (b := Sms.den c nmbLoop) (i := 3) D.int xs.reverse (fun i ρ h => ∃ t : Option D, ρ = [some (.int p), some (.lst (xs.map .int)), some (.int ((xs.reverse.take i).foldl (fun t x => t * p + x) 0)), t] ∧ h = [])
    (ρ := [some (.int p), some (.lst (xs.map .int)), some (.int 0), none]) (h := []) ⟨none, rfl, rfl⟩ (fun j x ρ h hx ⟨t, e1, e2⟩ => by
      subst e1 e2
      refine ⟨by simp, _, _, ?_, ⟨some (.int x), rfl, rfl⟩⟩
      unfold nmbLoop
      rw [List.take_add_one, hx, List.foldl_append]
      simp [bin_mul, q1, q2])
  rw [List.take_length, numb_rev] at e
  have hr : ∀ h, revD true (.lst (xs.map D.int)) h = .ok (.lst (xs.reverse.map .int)) h := fun h => by
    show newL true (xs.map D.int).reverse h = _
    rw [← List.map_reverse, new_fz (by rw [List.length_map, List.length_reverse, LN_eq]; omega)]
  refine ⟨[], ?_⟩
  unfold nmbB
  simp [hr]
  simp only [← List.map_reverse] at e ⊢
  rw [e]
  simp
end Ev
set_option maxHeartbeats 1000000
/-! Ev, part T: products of figures. -/
namespace Ev
open PySem PySem.Spec PyProof.Rows L2
variable {c : Cfg}
theorem for_enum {α : Type} {b : Env → Hs → Out} {i k : Nat} (f : α → D) (xs : List α) (R : Nat → Env → Hs → Prop) {ρ : Env} {h : Hs} (hr : R 0 ρ h)
    (hs : ∀ j x ρ h, xs[j]? = some x → R j ρ h → i < ρ.length ∧ k < ρ.length ∧ ∃ ρ' h', b ((ρ.set i (some (.int (j : Nat)))).set k (some (f x))) h = .nx ρ' h' ∧ R (j + 1) ρ' h') :
    ∃ ρ' h', forD (Tg.den c (.tup (.cons (.name i) (.cons (.name k) .nil)))) b (List.zipWith (fun k x => D.tup [D.int (k : Nat), x]) (List.range xs.length) (xs.map f)) ρ h = .nx ρ' h' ∧ R xs.length ρ' h' := by
  have := forD_rel (σ := Unit) (g := Tg.den c (.tup (.cons (.name i) (.cons (.name k) .nil)))) (b := b) R (List.zipWith (fun k x => D.tup [D.int (k : Nat), x]) (List.range xs.length) (xs.map f)) 0 ρ h hr fun j y ρ h hy r => by
    rw [List.getElem?_zipWith, List.getElem?_map] at hy
    cases q : xs[j]? with
    | none =>
      rw [q] at hy
      cases q2 : (List.range xs.length)[j]? with
      | none => rw [q2] at hy; cases hy
      | some _ => rw [q2] at hy; cases hy
    | some x =>
      have hj : j < xs.length := (List.getElem?_eq_some_iff.mp q).1
      rw [q, List.getElem?_range hj] at hy
      cases hy
      rw [Nat.zero_add] at r ⊢
      obtain ⟨hl, hl2, ρ', h', e, r'⟩ := hs j x ρ h q r
      refine ⟨_, _, ρ', h', ?_, .inl e, r'⟩
      simp [hl, hl2]
  rw [List.length_zipWith, List.length_range, List.length_map, Nat.min_self, Nat.zero_add] at this
  exact this
def at0 (xs : List Int) (k : Int) : Int := xs.getD k.toNat 0
def put (xs : List Int) (k : Int) (v : Int) : List Int := xs.set k.toNat v
@[simp] theorem put_len (xs : List Int) (k v : Int) : (put xs k v).length = xs.length := by unfold put; exact List.length_set ..
theorem ix_ok {n : Nat} {k : Int} (h0 : 0 ≤ k) (h1 : k < n) : ixN n k = some k.toNat := by unfold ixN; rw [if_pos h0, if_pos h1]
theorem at_ok {xs : List Int} {k : Int} (h0 : 0 ≤ k) (h1 : k < xs.length) : atI (xs.map D.int) k = some (.int (at0 xs k)) := by
  unfold atI at0
  rw [List.length_map, ix_ok h0 h1]
  show (xs.map D.int)[k.toNat]? = _
  rw [List.getElem?_map, List.getD_eq_getElem?_getD, List.getElem?_eq_getElem (by omega)]
  rfl
theorem idx_l {xs : List Int} {k : Int} {h : Hs} (h0 : 0 ≤ k) (h1 : k < xs.length) : idxD (.lst (xs.map .int)) (.int k) h = .ok (.int (at0 xs k)) h := by
  show (match atI (xs.map D.int) k with | some v => R.ok v h | none => R.stuck) = _
  rw [at_ok h0 h1]
theorem idx_t {xs : List Int} {k : Int} {h : Hs} (h0 : 0 ≤ k) (h1 : k < xs.length) : idxD (.tup (xs.map .int)) (.int k) h = .ok (.int (at0 xs k)) h := by
  show (match atI (xs.map D.int) k with | some v => R.ok v h | none => R.stuck) = _
  rw [at_ok h0 h1]
theorem idx_r0 {xs : List Int} {k : Int} {h : Hs} (h0 : 0 ≤ k) (h1 : k < xs.length) : idxD (.ref 0) (.int k) (.lst (xs.map .int) :: h) = .ok (.int (at0 xs k)) (.lst (xs.map .int) :: h) := by
  show (match atI (xs.map D.int) k with | some v => R.ok v _ | none => R.stuck) = _
  rw [at_ok h0 h1]
theorem set_r0 {xs : List Int} {k v : Int} {h : Hs} (h0 : 0 ≤ k) (h1 : k < xs.length) : setD (.ref 0) (.int k) (.int v) (.lst (xs.map .int) :: h) = some (.lst ((put xs k v).map .int) :: h) := by
  show (ixN (xs.map D.int).length k).map _ = _
  rw [List.length_map, ix_ok h0 h1]
  show some (Cell.lst ((xs.map D.int).set k.toNat (.int v)) :: h) = _
  unfold put
  rw [List.map_set]
/-- a row of a product -/
def mulJ (p x : Int) (i : Nat) (ys : List Int) (row : List Int) : Nat → List Int
  | 0 => row
  | j + 1 => put (mulJ p x i ys row j) ((i : Int) + j) ((at0 (mulJ p x i ys row j) ((i : Int) + j) + x * at0 ys j) % p)
def mulI (p : Int) (xs ys : List Int) : Nat → List Int
  | 0 => List.replicate (xs.length + ys.length - 1) 0
  | i + 1 => mulJ p (at0 xs i) i ys (mulI p xs ys i) ys.length
def mulL (p : Int) (xs ys : List Int) : List Int := mulI p xs ys xs.length
theorem mulJ_len (p x : Int) (i : Nat) (ys row : List Int) : ∀ j, (mulJ p x i ys row j).length = row.length
  | 0 => rfl
  | j + 1 => by rw [mulJ, put_len]; exact mulJ_len p x i ys row j
theorem mulI_len (p : Int) (xs ys : List Int) : ∀ i, (mulI p xs ys i).length = xs.length + ys.length - 1
  | 0 => by rw [mulI, List.length_replicate]
  | i + 1 => by rw [mulI, mulJ_len]; exact mulI_len p xs ys i
def mulIn : Sms := (.cons (.asg (.idx (.var 3) (.bin .add true (.var 4) (.var 6))) (.bin .mod true (.bin .add true (.idx (.var 3) (.bin .add true (.var 4) (.var 6))) (.bin .mul true (.var 5) (.var 7))) (.var 0)))
 .nil)
def mulOut : Sms := (.cons (.for (.tup (.cons (.name 6) (.cons (.name 7) .nil))) (.enum (.var 2))
 mulIn)
 .nil)
def mulB : Sms := (.cons (.set 3 (.bin .mul false (.lst true (.cons (.cint 0) .nil)) (.bin .sub true (.bin .add true (.prim .len true (.cons (.var 1) .nil)) (.prim .len true (.cons (.var 2) .nil))) (.cint 1))))
 (.cons (.for (.tup (.cons (.name 4) (.cons (.name 5) .nil))) (.enum (.var 1))
 mulOut)
 (.cons (.ret (.freeze (.var 3)))
 .nil)))
def Fig (p : Int) (xs : List Int) : Prop := ∀ x ∈ xs, 0 ≤ x ∧ x < p
theorem at0_of {xs : List Int} {j : Nat} {x : Int} (h : xs[j]? = some x) : at0 xs (j : Int) = x := by
  unfold at0; rw [Int.toNat_natCast, List.getD_eq_getElem?_getD, h]; rfl
abbrev mulE (p : Int) (xs ys : List Int) (a b d e : Option D) : Env := [some (.int p), some (.lst (xs.map .int)), some (.lst (ys.map .int)), some (.ref 0), a, b, d, e]
theorem mul_in {p : Int} (hp : Prm p) {xs ys row : List Int} {x : Int} {i : Nat} (hx : 0 ≤ x ∧ x < p) (hl : i + ys.length ≤ row.length) {d e : Option D} :
    ∃ ρ' h', forD (Tg.den c (.tup (.cons (.name 6) (.cons (.name 7) .nil)))) (Sms.den c mulIn) (List.zipWith (fun k x => D.tup [D.int (k : Nat), x]) (List.range ys.length) (ys.map D.int)) (mulE p xs ys (some (.int i)) (some (.int x)) d e) [.lst (row.map .int)] = .nx ρ' h' ∧
      ∃ d' e', ρ' = mulE p xs ys (some (.int i)) (some (.int x)) d' e' ∧ h' = [.lst ((mulJ p x i ys row ys.length).map .int)] := by
  obtain ⟨hp0, hp1⟩ := hp
  refine for_enum (c := c) (b := Sms.den c mulIn) (i := 6) (k := 7) D.int ys (fun j ρ h => ∃ d' e', ρ = mulE p xs ys (some (.int i)) (some (.int x)) d' e' ∧ h = [.lst ((mulJ p x i ys row j).map .int)]) ⟨d, e, rfl, rfl⟩ fun j y ρ h hy ⟨d', e', e1, e2⟩ => ?_
  subst e1 e2
  have hj : j < ys.length := (List.getElem?_eq_some_iff.mp hy).1
  have hlen := mulJ_len p x i ys row j
  refine ⟨by simp, by simp, _, _, ?_, ⟨some (.int j), some (.int y), rfl, rfl⟩⟩
  unfold mulIn
  rw [mulJ, at0_of hy]
  have q1 : (0 : Int) ≤ (i : Int) + j := by omega
  have q2 : (i : Int) + j < (mulJ p x i ys row j).length := by omega
  have q3 : -18446744073709551616 < x := by omega
  have q4 : x < 18446744073709551616 := by omega
  simp [mulE, idx_r0, q1, q2, bin_mul, q3, q4, bin_mod, hp0, set_r0]
theorem flat_rep {α : Type} (a : α) : ∀ n, (List.replicate n [a]).flatten = List.replicate n a
  | 0 => rfl
  | n + 1 => by rw [List.replicate_succ, List.flatten_cons, flat_rep a n]; rfl
theorem rep_zero {fz : Bool} {k : Int} {h : Hs} (h0 : -(LN : Int) ≤ k) (h1 : k ≤ (LN : Int)) : binD .mul fz (.lst [.int 0]) (.int k) h = newL fz ((List.replicate k.toNat (0 : Int)).map .int) h := by
  show (if -(LN : Int) ≤ k ∧ k ≤ (LN : Int) then newL fz (List.replicate k.toNat [D.int 0]).flatten h else .stuck) = _
  rw [if_pos ⟨h0, h1⟩, flat_rep, List.map_replicate]
@[simp] theorem one_fz (a : D) (h : Hs) : newL true [a] h = .ok (.lst [a]) h := new_fz (by rw [LN_eq]; simp)
theorem mul_body {p : Int} (hp : Prm p) {xs ys : List Int} (hx : Fig p xs) (h1 : 1 ≤ xs.length + ys.length) (h2 : xs.length + ys.length ≤ 1000) :
    ∃ h', mulB.den c [some (.int p), some (.lst (xs.map .int)), some (.lst (ys.map .int)), none, none, none, none, none] [] = .ret (.lst ((mulL p xs ys).map .int)) h' := by
  have ha : -(LN : Int) ≤ (xs.length : Int) + ys.length - 1 := by rw [LN_eq]; omega
  have hb : (xs.length : Int) + ys.length - 1 ≤ (LN : Int) := by rw [LN_eq]; omega
  have hn : ((xs.length : Int) + ys.length - 1).toNat = xs.length + ys.length - 1 := by omega
  have hz : xs.length + ys.length - 1 ≤ LN := by rw [LN_eq]; omega
  obtain ⟨ρ', h', e, a', b', d', e', rfl, rfl⟩ := for_enum (c := c) (b := Sms.den c mulOut) (i := 4) (k := 5) D.int xs (fun i ρ h => ∃ a b d e, ρ = mulE p xs ys a b d e ∧ h = [.lst ((mulI p xs ys i).map .int)])
    (ρ := mulE p xs ys none none none none) (h := [.lst ((mulI p xs ys 0).map .int)]) ⟨none, none, none, none, rfl, rfl⟩ (fun i x ρ h hxi ⟨a, b, d, e, e1, e2⟩ => by
      subst e1 e2
      have hi : i < xs.length := (List.getElem?_eq_some_iff.mp hxi).1
      have hlen := mulI_len p xs ys i
      obtain ⟨ρ', h', e1, d', e', rfl, rfl⟩ := mul_in (c := c) hp (xs := xs) (ys := ys) (row := mulI p xs ys i) (x := x) (i := i) (hx x (List.mem_of_getElem? hxi)) (by omega) (d := d) (e := e)
      refine ⟨by simp, by simp, mulE p xs ys (some (.int i)) (some (.int x)) d' e', [.lst ((mulJ p x i ys (mulI p xs ys i) ys.length).map .int)], ?_, ⟨some (.int i), some (.int x), d', e', rfl, by rw [mulI, at0_of hxi]⟩⟩
      unfold mulOut
      simp only [mulE] at e1
      simp [mulE]
      rw [e1]
      rfl)
  refine ⟨[.dead], ?_⟩
  unfold mulB
  simp only [mulE, mulI] at e
  simp [rep_zero, ha, hb, hn, new_cell, hz]
  simp only [List.map_replicate] at e
  rw [e]
  simp [frz_r0, pures_ints, mulL]
end Ev
set_option maxHeartbeats 1000000
/-! Ev, part U: remainders of figures. -/
namespace Ev
open PySem PySem.Spec PyProof.Rows L2
variable {c : Cfg}
/-- one reduction: what the place above the lower ones takes away -/
def redK (p : Int) (lo : List Int) (top off : Int) (row : List Int) : Nat → List Int
  | 0 => row
  | k + 1 => put (redK p lo top off row k) (off + k) ((at0 (redK p lo top off row k) (off + k) - top * at0 lo k) % p)
theorem redK_len (p : Int) (lo : List Int) (top off : Int) (row : List Int) : ∀ k, (redK p lo top off row k).length = row.length
  | 0 => rfl
  | k + 1 => by rw [redK, put_len]; exact redK_len p lo top off row k
/-- all of them, from the top -/
def redS (p : Int) (lo row : List Int) : Nat → List Int
  | 0 => row
  | t + 1 => redK p lo (at0 (redS p lo row t) ((row.length : Int) - 1 - t)) ((row.length : Int) - 1 - t - lo.length) (redS p lo row t) lo.length
theorem redS_len (p : Int) (lo row : List Int) : ∀ t, (redS p lo row t).length = row.length
  | 0 => rfl
  | t + 1 => by rw [redS, redK_len]; exact redS_len p lo row t
def remL (p : Int) (lo row : List Int) : List Int := (redS p lo row (row.length - lo.length)).take lo.length
@[simp] theorem add_ll (fz : Bool) (xs ys : List D) (h : Hs) : binD .add fz (.lst xs) (.lst ys) h = newL fz (xs ++ ys) h := rfl
@[simp] theorem listOf_l (fz : Bool) (xs : List D) (h : Hs) : primD .listOf fz [.lst xs] h = newL fz xs h := rfl
def remIn : Sms := (.cons (.asg (.idx (.var 4) (.bin .add true (.bin .sub true (.var 5) (.var 3)) (.var 7))) (.bin .mod true (.bin .sub true (.idx (.var 4) (.bin .add true (.bin .sub true (.var 5) (.var 3)) (.var 7))) (.bin .mul true (.var 6) (.var 8))) (.var 0)))
 .nil)
def remOut : Sms := (.cons (.set 6 (.idx (.var 4) (.var 5)))
 (.cons (.for (.tup (.cons (.name 7) (.cons (.name 8) .nil))) (.enum (.var 1))
 remIn)
 .nil))
def remB : Sms := (.cons (.set 3 (.prim .len true (.cons (.var 1) .nil)))
 (.cons (.set 4 (.bin .add false (.prim .listOf true (.cons (.var 2) .nil)) (.bin .mul true (.lst true (.cons (.cint 0) .nil)) (.bin .sub true (.var 3) (.prim .len true (.cons (.var 2) .nil))))))
 (.cons (.for (.name 5) (.range (.cons (.bin .sub true (.prim .len true (.cons (.var 4) .nil)) (.cint 1)) (.cons (.bin .sub true (.var 3) (.cint 1)) (.cons (.neg (.cint 1)) .nil))))
 remOut)
 (.cons (.ret (.slice true (.var 4) .nil (.cons (.var 3) .nil)))
 .nil))))
abbrev remE (p : Int) (lo fg : List Int) (a b d e : Option D) : Env := [some (.int p), some (.tup (lo.map .int)), some (.lst (fg.map .int)), some (.int lo.length), some (.ref 0), a, b, d, e]
theorem rem_in {p : Int} (hp : Prm p) {lo fg row : List Int} (hlo : Fig p lo) {top at' : Int} (h0 : 0 ≤ at' - lo.length) (h1 : at' ≤ row.length) {d e : Option D} :
    ∃ ρ' h', forD (Tg.den c (.tup (.cons (.name 7) (.cons (.name 8) .nil)))) (Sms.den c remIn) (List.zipWith (fun k x => D.tup [D.int (k : Nat), x]) (List.range lo.length) (lo.map D.int)) (remE p lo fg (some (.int at')) (some (.int top)) d e) [.lst (row.map .int)] = .nx ρ' h' ∧
      ∃ d' e', ρ' = remE p lo fg (some (.int at')) (some (.int top)) d' e' ∧ h' = [.lst ((redK p lo top (at' - lo.length) row lo.length).map .int)] := by
  obtain ⟨hp0, hp1⟩ := hp
  refine for_enum (c := c) (b := Sms.den c remIn) (i := 7) (k := 8) D.int lo (fun j ρ h => ∃ d' e', ρ = remE p lo fg (some (.int at')) (some (.int top)) d' e' ∧ h = [.lst ((redK p lo top (at' - lo.length) row j).map .int)]) ⟨d, e, rfl, rfl⟩ fun j y ρ h hy ⟨d', e', e1, e2⟩ => ?_
  subst e1 e2
  have hj : j < lo.length := (List.getElem?_eq_some_iff.mp hy).1
  have hlen := redK_len p lo top (at' - lo.length) row j
  obtain ⟨y0, y1⟩ := hlo y (List.mem_of_getElem? hy)
  refine ⟨by simp, by simp, _, _, ?_, ⟨some (.int j), some (.int y), rfl, rfl⟩⟩
  unfold remIn
  rw [redK, at0_of hy]
  have q1 : (0 : Int) ≤ at' - lo.length + j := by omega
  have q2 : at' - lo.length + j < (redK p lo top (at' - lo.length) row j).length := by omega
  have q3 : -18446744073709551616 < y := by omega
  have q4 : y < 18446744073709551616 := by omega
  simp [remE, idx_r0, q1, q2, bin_mul, q3, q4, bin_mod, hp0, set_r0]
theorem rem_body {p : Int} (hp : Prm p) {lo fg : List Int} (hlo : Fig p lo) (h1 : lo.length ≤ fg.length) (h2 : fg.length ≤ 1000) :
    ∃ h', remB.den c [some (.int p), some (.tup (lo.map .int)), some (.lst (fg.map .int)), none, none, none, none, none, none] [] = .ret (.lst ((remL p lo fg).map .int)) h' := by
  have hN := LN_eq
  obtain ⟨ρ', h', e, a, b, d, e', rfl, rfl⟩ := for_name (c := c) (b := Sms.den c remOut) (i := 5) (fun k : Nat => D.int ((fg.length : Int) - 1 - k)) (List.range (fg.length - lo.length)) (fun t ρ h => ∃ a b d e, ρ = remE p lo fg a b d e ∧ h = [.lst ((redS p lo fg t).map .int)])
    (ρ := remE p lo fg none none none none) (h := [.lst (fg.map .int)]) ⟨none, none, none, none, rfl, rfl⟩ (fun t x ρ h hx ⟨a, b, d, e, e1, e2⟩ => by
      subst e1 e2
      have ht : t < fg.length - lo.length := by simpa using (List.getElem?_eq_some_iff.mp hx).1
      rw [List.getElem?_range ht] at hx
      cases hx
      have hlen := redS_len p lo fg t
      obtain ⟨ρ', h', e1, d', e', rfl, rfl⟩ := rem_in (c := c) hp (fg := fg) hlo (row := redS p lo fg t) (top := at0 (redS p lo fg t) ((fg.length : Int) - 1 - t)) (at' := (fg.length : Int) - 1 - t) (by omega) (by omega) (d := d) (e := e)
      refine ⟨by simp, remE p lo fg (some (.int ((fg.length : Int) - 1 - t))) (some (.int (at0 (redS p lo fg t) ((fg.length : Int) - 1 - t)))) d' e', _, ?_, ⟨_, _, d', e', rfl, rfl⟩⟩
      unfold remOut
      simp only [remE] at e1
      have q1 : (0 : Int) ≤ (fg.length : Int) - 1 - t := by omega
      have q2 : (fg.length : Int) - 1 - t < (redS p lo fg t).length := by omega
      have q3 := idx_r0 (h := []) q1 q2
      simp [remE, q3]
      rw [e1]
      rfl)
  rw [List.length_range] at e
  refine ⟨[.lst ((redS p lo fg (fg.length - lo.length)).map .int)], ?_⟩
  have a1 : -(LN : Int) ≤ (lo.length : Int) - fg.length := by omega
  have a2 : (lo.length : Int) - fg.length ≤ (LN : Int) := by omega
  have a3 : ((lo.length : Int) - fg.length).toNat = 0 := by omega
  have a4 : fg.length ≤ LN := by omega
  have a5 : -(LN : Int) ≤ (fg.length : Int) - 1 ∧ (fg.length : Int) - 1 ≤ (LN : Int) ∧ -(LN : Int) ≤ (lo.length : Int) - 1 ∧ (lo.length : Int) - 1 ≤ (LN : Int) := by omega
  have a6 : ((fg.length : Int) - 1 - ((lo.length : Int) - 1)).toNat = fg.length - lo.length := by omega
  have hsl : sliceD true (.ref 0) none (some (lo.length : Int)) [.lst ((redS p lo fg (fg.length - lo.length)).map D.int)] = .ok (.lst ((remL p lo fg).map .int)) [.lst ((redS p lo fg (fg.length - lo.length)).map D.int)] := by
    show newL true (cutD ((redS p lo fg (fg.length - lo.length)).map D.int) none (some (lo.length : Int))) _ = _
    rw [cut_take, new_fz (by rw [List.length_take, List.length_map, redS_len]; omega), ← List.map_take]
    rfl
  unfold remB
  simp only [remE] at e
  simp [new_fz, new_cell, rep_zero, a1, a2, a3, a4, a5, a6]
  rw [e]
  simp [hsl]
theorem put_take (row : List Int) (k v : Int) (m : Nat) (h0 : 0 ≤ k) (h : k < m) : (put row k v).take m = put (row.take m) k v := by
  unfold put
  rw [List.take_set]
theorem at0_take (row : List Int) (k : Int) (m : Nat) (h0 : 0 ≤ k) (h : k < m) : at0 (row.take m) k = at0 row k := by
  unfold at0
  rw [List.getD_eq_getElem?_getD, List.getD_eq_getElem?_getD, List.getElem?_take, if_pos (by omega)]
theorem redK_take (p : Int) (lo : List Int) (top off : Int) (row : List Int) (m : Nat) (h0 : 0 ≤ off) : ∀ k : Nat, off + k ≤ m → (redK p lo top off row k).take m = redK p lo top off (row.take m) k
  | 0, _ => rfl
  | k + 1, h => by
    have ih := redK_take p lo top off row m h0 k (by omega)
    rw [redK, redK, put_take _ _ _ _ (by omega) (by omega), ← ih, at0_take _ _ _ (by omega) (by omega)]
theorem drop_take (row : List Int) (m : Nat) (h : m + 1 ≤ row.length) : (row.take (m + 1)).dropLast = row.take m := by
  rw [List.dropLast_eq_take, List.take_take, List.length_take, Nat.min_eq_left h]
  congr 1
  omega
theorem pop_r0 {xs : List Int} {h : Hs} (hn : 0 < xs.length) : methD .pop (.ref 0) [] (.lst (xs.map .int) :: h) = .ok (.int (at0 xs ((xs.length : Int) - 1))) (.lst (xs.dropLast.map .int) :: h) := by
  show (match (xs.map D.int)[(xs.map D.int).length - 1]? with
    | some y => R.ok y ((Cell.lst (xs.map D.int) :: h).set 0 (.lst (xs.map D.int).dropLast))
    | none => .stuck) = _
  rw [List.length_map, List.getElem?_map, List.getElem?_eq_getElem (by omega)]
  unfold at0
  rw [show ((xs.length : Int) - 1).toNat = xs.length - 1 from by omega, List.getD_eq_getElem?_getD, List.getElem?_eq_getElem (by omega), List.map_dropLast]
  rfl
def lreIn : Sms := (.cons (.asg (.idx (.var 3) (.bin .add true (.bin .sub true (.prim .len true (.cons (.var 3) .nil)) (.var 4)) (.var 7))) (.bin .mod true (.prim .intOf true (.cons (.bin .sub true (.idx (.var 3) (.bin .add true (.bin .sub true (.prim .len true (.cons (.var 3) .nil)) (.var 4)) (.var 7))) (.bin .mul true (.var 6) (.idx (.var 2) (.var 7)))) .nil)) (.var 0)))
 .nil)
def lreOut : Sms := (.cons (.ite (.cmp .gt (.prim .len true (.cons (.var 3) .nil)) (.var 4))
 (.cons (.set 6 (.meth .pop (.var 3) .nil))
 (.cons (.for (.name 7) (.range (.cons (.var 4) .nil))
 lreIn)
 .nil))
 .nil)
 .nil)
def lreB : Sms := (.cons (.set 3 (.prim .listOf false (.cons (.var 1) .nil)))
 (.cons (.set 4 (.prim .len true (.cons (.var 2) .nil)))
 (.cons (.for (.name 5) (.range (.cons (.prim .len true (.cons (.var 1) .nil)) .nil))
 lreOut)
 (.cons (.ret (.bin .add true (.var 3) (.bin .mul true (.lst true (.cons (.cint 0) .nil)) (.bin .sub true (.var 4) (.prim .len true (.cons (.var 3) .nil))))))
 .nil))))
abbrev lreE (p : Int) (lo fg : List Int) (a b d : Option D) : Env := [some (.int p), some (.lst (fg.map .int)), some (.lst (lo.map .int)), some (.ref 0), some (.int lo.length), a, b, d]
theorem lre_in {p : Int} (hp : Prm p) {lo fg row : List Int} (hlo : Fig p lo) {top : Int} (h0 : lo.length ≤ row.length) (h2 : row.length ≤ 1000) {a d : Option D} :
    ∃ ρ' h', forD (Tg.den c (.name 7)) (Sms.den c lreIn) ((List.range lo.length).map fun k => D.int (k : Nat)) (lreE p lo fg a (some (.int top)) d) [.lst (row.map .int)] = .nx ρ' h' ∧
      ∃ d', ρ' = lreE p lo fg a (some (.int top)) d' ∧ h' = [.lst ((redK p lo top ((row.length : Int) - lo.length) row lo.length).map .int)] := by
  obtain ⟨hp0, hp1⟩ := hp
  refine for_rng (c := c) (b := Sms.den c lreIn) (i := 7) lo.length (fun j ρ h => ∃ d', ρ = lreE p lo fg a (some (.int top)) d' ∧ h = [.lst ((redK p lo top ((row.length : Int) - lo.length) row j).map .int)]) ⟨d, rfl, rfl⟩ fun j ρ h hj ⟨d', e1, e2⟩ => ?_
  subst e1 e2
  have hlen := redK_len p lo top ((row.length : Int) - lo.length) row j
  obtain ⟨y0, y1⟩ := hlo lo[j] (List.getElem_mem hj)
  have ey : at0 lo j = lo[j] := at0_of (List.getElem?_eq_getElem hj)
  refine ⟨by simp, _, _, ?_, ⟨some (.int j), rfl, rfl⟩⟩
  unfold lreIn
  have q1 : (0 : Int) ≤ (row.length : Int) - lo.length + j := by omega
  have q2 : (row.length : Int) - lo.length + j < (redK p lo top ((row.length : Int) - lo.length) row j).length := by omega
  have q3 : -18446744073709551616 < at0 lo j := by omega
  have q4 : at0 lo j < 18446744073709551616 := by omega
  have q5 := idx_r0 (h := []) q1 q2
  have q6 : ∀ h, idxD (.lst (lo.map D.int)) (.int (j : Nat)) h = .ok (.int (at0 lo j)) h := fun h => idx_l (by omega) (by omega)
  have q7 := fun v => set_r0 (v := v) (h := []) q1 q2
  rw [redK]
  simp [lreE, hlen, q5, q6, bin_mul, q3, q4, bin_mod, hp0, q7]
/-- what the law's row holds behind t turns -/
def lreT (p : Int) (lo fg : List Int) (t : Nat) : List Int := (redS p lo fg (min t (fg.length - lo.length))).take (fg.length - min t (fg.length - lo.length))
theorem lreT_len (p : Int) (lo fg : List Int) (t : Nat) : (lreT p lo fg t).length = fg.length - min t (fg.length - lo.length) := by
  unfold lreT; rw [List.length_take, redS_len]; omega
@[simp] theorem add_rl (fz : Bool) (xs ys : List D) (h : Hs) : binD .add fz (.ref 0) (.lst ys) (.lst xs :: h) = newL fz (xs ++ ys) (.lst xs :: h) := rfl
theorem lreT_step (p : Int) (lo fg : List Int) {t : Nat} (ht : t < fg.length - lo.length) :
    lreT p lo fg (t + 1) = redK p lo (at0 (lreT p lo fg t) (((lreT p lo fg t).length : Int) - 1)) (((lreT p lo fg t).dropLast.length : Int) - lo.length) (lreT p lo fg t).dropLast lo.length := by
  have hl := lreT_len p lo fg t
  have hs := redS_len p lo fg t
  have m1 : min t (fg.length - lo.length) = t := by omega
  have m2 : min (t + 1) (fg.length - lo.length) = t + 1 := by omega
  rw [m1] at hl
  have e1 : lreT p lo fg t = (redS p lo fg t).take (fg.length - (t + 1) + 1) := by
    unfold lreT; rw [m1, show fg.length - (t + 1) + 1 = fg.length - t from by omega]
  have e2 : (lreT p lo fg t).dropLast = (redS p lo fg t).take (fg.length - (t + 1)) := by
    rw [e1, drop_take _ _ (by omega)]
  have e3 : at0 (lreT p lo fg t) (((lreT p lo fg t).length : Int) - 1) = at0 (redS p lo fg t) ((fg.length : Int) - 1 - t) := by
    rw [hl, e1, at0_take _ _ _ (by omega) (by omega)]
    congr 1
    omega
  have e4 : (((lreT p lo fg t).dropLast.length : Nat) : Int) = (fg.length : Int) - 1 - t := by
    rw [e2, List.length_take]; omega
  rw [e3, e4, e2]
  unfold lreT
  rw [m2, redS]
  exact redK_take p lo _ _ _ _ (by omega) _ (by omega)
theorem lre_body {p : Int} (hp : Prm p) {lo fg : List Int} (hlo : Fig p lo) (h1 : lo.length ≤ fg.length) (h2 : fg.length ≤ 1000) :
    ∃ h', lreB.den c [some (.int p), some (.lst (fg.map .int)), some (.lst (lo.map .int)), none, none, none, none, none] [] = .ret (.lst ((remL p lo fg).map .int)) h' := by
  have hN := LN_eq
  have z : lreT p lo fg 0 = fg := by
    unfold lreT
    rw [Nat.zero_min, Nat.sub_zero]
    exact List.take_of_length_le (by rw [redS_len]; exact Nat.le_refl _)
  obtain ⟨ρ', h', e, a, b, d, rfl, rfl⟩ := for_rng (c := c) (b := Sms.den c lreOut) (i := 5) fg.length (fun t ρ h => ∃ a b d, ρ = lreE p lo fg a b d ∧ h = [.lst ((lreT p lo fg t).map .int)])
    (ρ := lreE p lo fg none none none) (h := [.lst (fg.map .int)]) ⟨none, none, none, rfl, by rw [z]⟩ (fun t ρ h ht ⟨a, b, d, e1, e2⟩ => by
      subst e1 e2
      have hl := lreT_len p lo fg t
      by_cases hc : t < fg.length - lo.length
      · have st := lreT_step p lo fg hc
        have hd : (lreT p lo fg t).dropLast.length = fg.length - t - 1 := by rw [List.length_dropLast]; omega
        obtain ⟨ρ', h', e1, d', rfl, rfl⟩ := lre_in (c := c) hp (fg := fg) hlo (row := (lreT p lo fg t).dropLast) (top := at0 (lreT p lo fg t) (((lreT p lo fg t).length : Int) - 1)) (by omega) (by omega) (a := some (.int t)) (d := d)
        rw [← st] at e1
        refine ⟨by simp, lreE p lo fg (some (.int t)) (some (.int (at0 (lreT p lo fg t) (((lreT p lo fg t).length : Int) - 1)))) d', [.lst ((lreT p lo fg (t + 1)).map .int)], ?_, ⟨_, _, d', rfl, rfl⟩⟩
        unfold lreOut
        simp only [lreE, List.map_dropLast] at e1
        have q1 : lo.length < (lreT p lo fg t).length := by omega
        have q2 := pop_r0 (xs := lreT p lo fg t) (h := []) (by omega)
        have q3 : -(LN : Int) ≤ (lo.length : Int) ∧ (lo.length : Int) ≤ (LN : Int) := by omega
        simp [lreE, q1, q2, q3]
        rw [e1]
        rfl
      · have st : lreT p lo fg (t + 1) = lreT p lo fg t := by
          unfold lreT
          rw [show min (t + 1) (fg.length - lo.length) = min t (fg.length - lo.length) from by omega]
        refine ⟨by simp, lreE p lo fg (some (.int t)) b d, _, ?_, ⟨_, _, _, rfl, by rw [st]⟩⟩
        unfold lreOut
        have q1 : ¬ lo.length < (lreT p lo fg t).length := by omega
        simp [lreE, q1])
  have fin : lreT p lo fg fg.length = remL p lo fg := by
    unfold lreT remL
    rw [show min fg.length (fg.length - lo.length) = fg.length - lo.length from by omega, show fg.length - (fg.length - lo.length) = lo.length from by omega]
  rw [fin] at e
  have hr : (remL p lo fg).length = lo.length := by unfold remL; rw [List.length_take, redS_len]; omega
  refine ⟨[.lst ((remL p lo fg).map .int)], ?_⟩
  have a1 : -(LN : Int) ≤ (fg.length : Int) ∧ (fg.length : Int) ≤ (LN : Int) := by omega
  have a2 : fg.length ≤ LN := by omega
  have a3 : (remL p lo fg).length ≤ LN := by omega
  have a4 : -(LN : Int) ≤ 0 := by omega
  have a5 : (0 : Int) ≤ (LN : Int) := by omega
  unfold lreB
  simp only [lreE] at e
  simp [new_cell, a1, a2]
  rw [e]
  have a6 : lo.length ≤ LN := by omega
  simp [hr, rep_zero, a4, a5, new_fz, a6]
end Ev
set_option maxHeartbeats 1000000
/-! Ev, part Y: the law's product. -/
namespace Ev
open PySem PySem.Spec PyProof.Rows L2
variable {c : Cfg}
theorem figs_fig {p : Int} (hp : Prm p) (n : Nat) (x : Int) : Fig p (figs p n x) := fun y hy => by
  unfold figs at hy
  obtain ⟨j, _, rfl⟩ := List.mem_map.mp hy
  have := hp.pos
  exact ⟨Int.emod_nonneg _ (by omega), Int.emod_lt_of_pos _ hp.pos⟩
def ltmIn : Sms := (.cons (.asg (.idx (.var 7) (.bin .add true (.var 8) (.var 9))) (.bin .mod true (.prim .intOf true (.cons (.bin .add true (.idx (.var 7) (.bin .add true (.var 8) (.var 9))) (.bin .mul true (.idx (.var 5) (.var 8)) (.idx (.var 6) (.var 9)))) .nil)) (.var 0)))
 .nil)
def ltmOut : Sms := (.cons (.for (.name 9) (.range (.cons (.var 4) .nil))
 ltmIn)
 .nil)
def ltmB (iF iN iR : Nat) : Sms := (.cons (.set 4 (.prim .len true (.cons (.var 1) .nil)))
 (.cons (.set 5 (.call iF (.cons (.var 0) (.cons (.var 4) (.cons (.var 2) .nil)))))
 (.cons (.set 6 (.call iF (.cons (.var 0) (.cons (.var 4) (.cons (.var 3) .nil)))))
 (.cons (.set 7 (.bin .mul false (.lst true (.cons (.cint 0) .nil)) (.bin .sub true (.bin .mul true (.cint 2) (.var 4)) (.cint 1))))
 (.cons (.for (.name 8) (.range (.cons (.var 4) .nil))
 ltmOut)
 (.cons (.ret (.call iN (.cons (.var 0) (.cons (.call iR (.cons (.var 0) (.cons (.freeze (.var 7)) (.cons (.var 1) .nil)))) .nil))))
 .nil))))))
abbrev ltmE (p x y : Int) (lo xs ys : List Int) (a b : Option D) : Env := [some (.int p), some (.lst (lo.map .int)), some (.int x), some (.int y), some (.int lo.length), some (.lst (xs.map .int)), some (.lst (ys.map .int)), some (.ref 0), a, b]
theorem ltm_in {p u v : Int} (hp : Prm p) {lo xs ys row : List Int} (hx : Fig p xs) {i : Nat} (hi : i < xs.length) (hy : ys.length = lo.length) (hl : i + ys.length ≤ row.length) {b : Option D} :
    ∃ ρ' h', forD (Tg.den c (.name 9)) (Sms.den c ltmIn) ((List.range lo.length).map fun k => D.int (k : Nat)) (ltmE p u v lo xs ys (some (.int i)) b) [.lst (row.map .int)] = .nx ρ' h' ∧
      ∃ b', ρ' = ltmE p u v lo xs ys (some (.int i)) b' ∧ h' = [.lst ((mulJ p (at0 xs i) i ys row lo.length).map .int)] := by
  obtain ⟨hp0, hp1⟩ := hp
  obtain ⟨x0, x1⟩ := hx xs[i] (List.getElem_mem hi)
  have ex : at0 xs i = xs[i] := at0_of (List.getElem?_eq_getElem hi)
  refine for_rng (c := c) (b := Sms.den c ltmIn) (i := 9) lo.length (fun j ρ h => ∃ b', ρ = ltmE p u v lo xs ys (some (.int i)) b' ∧ h = [.lst ((mulJ p (at0 xs i) i ys row j).map .int)]) ⟨b, rfl, rfl⟩ fun j ρ h hj ⟨b', e1, e2⟩ => ?_
  subst e1 e2
  have hlen := mulJ_len p (at0 xs i) i ys row j
  refine ⟨by simp, _, _, ?_, ⟨some (.int j), rfl, rfl⟩⟩
  unfold ltmIn
  have q1 : (0 : Int) ≤ (i : Int) + j := by omega
  have q2 : (i : Int) + j < (mulJ p (at0 xs i) i ys row j).length := by omega
  have q3 : -18446744073709551616 < at0 xs i := by omega
  have q4 : at0 xs i < 18446744073709551616 := by omega
  have q5 := idx_r0 (h := []) q1 q2
  have q6 : ∀ h, idxD (.lst (xs.map D.int)) (.int (i : Nat)) h = .ok (.int (at0 xs (i : Nat))) h := fun h => idx_l (by omega) (by omega)
  have q8 : ∀ h, idxD (.lst (ys.map D.int)) (.int (j : Nat)) h = .ok (.int (at0 ys (j : Nat))) h := fun h => idx_l (by omega) (by omega)
  have q7 := fun v => set_r0 (v := v) (h := []) q1 q2
  rw [mulJ]
  simp [ltmE, q5, q6, q8, bin_mul, q3, q4, bin_mod, hp0, q7]
theorem ltm_body {p : Int} (hp : Prm p) {lo : List Int} (hd : 1 ≤ lo.length) (hd2 : lo.length ≤ 400) (a b : Int) {iF iN iR : Nat}
    (gF : ∀ x h, c.Γ iF [.int p, .int lo.length, .int x] h = .ok (.lst ((figs p lo.length x).map .int)) h)
    (gR : ∀ fg : List Int, lo.length ≤ fg.length → fg.length ≤ 1000 → ∀ h, c.Γ iR [.int p, .lst (fg.map .int), .lst (lo.map .int)] h = .ok (.lst ((remL p lo fg).map .int)) h)
    (gN : ∀ xs : List Int, xs.length ≤ 1000 → ∀ h, c.Γ iN [.int p, .lst (xs.map .int)] h = .ok (.int (numb p xs)) h) :
    ∃ h', (ltmB iF iN iR).den c [some (.int p), some (.lst (lo.map .int)), some (.int a), some (.int b), none, none, none, none, none, none] [] = .ret (.int (numb p (remL p lo (mulL p (figs p lo.length a) (figs p lo.length b))))) h' := by
  have hN := LN_eq
  generalize hxs : figs p lo.length a = xs at *
  generalize hys : figs p lo.length b = ys at *
  have lx : xs.length = lo.length := by rw [← hxs, figs_len]
  have ly : ys.length = lo.length := by rw [← hys, figs_len]
  have fx : Fig p xs := by rw [← hxs]; exact figs_fig hp _ _
  obtain ⟨ρ', h', e, u, v, rfl, rfl⟩ := for_rng (c := c) (b := Sms.den c ltmOut) (i := 8) lo.length (fun i ρ h => ∃ u v, ρ = ltmE p a b lo xs ys u v ∧ h = [.lst ((mulI p xs ys i).map .int)])
    (ρ := ltmE p a b lo xs ys none none) (h := [.lst ((mulI p xs ys 0).map .int)]) ⟨none, none, rfl, rfl⟩ (fun i ρ h hi ⟨u, v, e1, e2⟩ => by
      subst e1 e2
      have hlen := mulI_len p xs ys i
      obtain ⟨ρ', h', e1, b', rfl, rfl⟩ := ltm_in (c := c) hp (u := a) (v := b) (lo := lo) (xs := xs) (ys := ys) (row := mulI p xs ys i) fx (i := i) (by omega) ly (by omega) (b := v)
      refine ⟨by simp, ltmE p a b lo xs ys (some (.int i)) b', [.lst ((mulJ p (at0 xs i) i ys (mulI p xs ys i) lo.length).map .int)], ?_, ⟨some (.int i), b', rfl, by rw [mulI, ly]⟩⟩
      unfold ltmOut
      simp only [ltmE] at e1
      have q3 : -(LN : Int) ≤ (lo.length : Int) ∧ (lo.length : Int) ≤ (LN : Int) := by omega
      simp [ltmE, q3]
      rw [e1]
      rfl)
  rw [← lx] at e
  have hml : (mulL p xs ys).length = xs.length + ys.length - 1 := mulI_len p xs ys xs.length
  have a1 : -(LN : Int) ≤ 2 * (lo.length : Int) - 1 := by omega
  have a2 : 2 * (lo.length : Int) - 1 ≤ (LN : Int) := by omega
  have a3 : (2 * (lo.length : Int) - 1).toNat = xs.length + ys.length - 1 := by omega
  have a4 : xs.length + ys.length - 1 ≤ LN := by omega
  have a5 : -(LN : Int) ≤ (lo.length : Int) ∧ (lo.length : Int) ≤ (LN : Int) := by omega
  have g1 := gR (mulL p xs ys) (by omega) (by omega)
  have g2 := gN (remL p lo (mulL p xs ys)) (by unfold remL; rw [List.length_take]; omega)
  refine ⟨[.dead], ?_⟩
  unfold ltmB
  have e' : forD (Tg.den c (.name 8)) (Sms.den c ltmOut) ((List.range lo.length).map fun k => D.int (k : Nat)) (ltmE p a b lo xs ys none none) [.lst ((List.replicate (xs.length + ys.length - 1) (0 : Int)).map .int)] = .nx (ltmE p a b lo xs ys u v) [.lst ((mulL p xs ys).map .int)] := by
    rw [← lx]; exact e
  simp only [ltmE, List.map_replicate] at e'
  simp [gF, hxs, hys, bin_mul, rep_zero, a1, a2, a3, new_cell, a4, a5]
  rw [e']
  simp [frz_r0, pures_ints, g1, g2]
end Ev
set_option maxHeartbeats 1000000
/-! Ev, part Z: products commute. -/
namespace Ev
/-- a sum over 0 .. n - 1 -/
def sm (f : Nat → Int) : Nat → Int
  | 0 => 0
  | n + 1 => sm f n + f n
theorem sm_congr {f g : Nat → Int} : ∀ {n : Nat}, (∀ i, i < n → f i = g i) → sm f n = sm g n
  | 0, _ => rfl
  | n + 1, h => by rw [sm, sm, sm_congr (n := n) fun i hi => h i (by omega), h n (by omega)]
theorem sm_add (f g : Nat → Int) : ∀ n, sm (fun i => f i + g i) n = sm f n + sm g n
  | 0 => rfl
  | n + 1 => by rw [sm, sm, sm, sm_add f g n]; omega
theorem sm_zero : ∀ n, sm (fun _ => 0) n = 0
  | 0 => rfl
  | n + 1 => by rw [sm, sm_zero n]; rfl
theorem sm_swap (f : Nat → Nat → Int) (m : Nat) : ∀ n, sm (fun i => sm (f i) m) n = sm (fun j => sm (fun i => f i j) n) m
  | 0 => (sm_zero m).symm
  | n + 1 => by
    rw [sm, sm_swap f m n]
    show _ = sm (fun j => sm (fun i => f i j) n + f n j) m
    rw [sm_add]
theorem at0_put (row : List Int) (k t : Nat) (v : Int) (hk : k < row.length) : at0 (put row (k : Int) v) (t : Int) = if t = k then v else at0 row (t : Int) := by
  unfold at0 put
  rw [Int.toNat_natCast, Int.toNat_natCast, List.getD_eq_getElem?_getD, List.getD_eq_getElem?_getD]
  by_cases h : t = k
  · subst h
    rw [if_pos rfl, List.getElem?_set_self hk]; rfl
  · rw [if_neg h, List.getElem?_set_ne (Ne.symm h)]
def tm (x : Int) (ys : List Int) (i t j : Nat) : Int := if i + j = t then x * at0 ys (j : Int) else 0
theorem mulJ_at {p : Int} (hp : Prm p) (x : Int) (i : Nat) (ys row : List Int) (S : Nat → Int) (hS : ∀ t : Nat, at0 row (t : Int) = S t % p) : ∀ j, i + j ≤ row.length → ∀ t : Nat, at0 (mulJ p x i ys row j) (t : Int) = (S t + sm (tm x ys i t) j) % p
  | 0, _, t => by rw [mulJ, sm, Int.add_zero]; exact hS t
  | j + 1, hj, t => by
    have ih := mulJ_at hp x i ys row S hS j (by omega)
    rw [mulJ, show (i : Int) + (j : Int) = ((i + j : Nat) : Int) from by omega, at0_put _ _ _ _ (by rw [mulJ_len]; omega), ih (i + j), ih t, sm]
    by_cases h : t = i + j
    · subst h
      rw [if_pos rfl, show tm x ys i (i + j) j = x * at0 ys (j : Int) from if_pos rfl, Int.emod_add_emod, Int.add_assoc]
    · rw [if_neg h, show tm x ys i t j = 0 from if_neg (fun e => h e.symm), Int.add_zero]
def cf (xs ys : List Int) (t i j : Nat) : Int := if i + j = t then at0 xs (i : Int) * at0 ys (j : Int) else 0
theorem mulI_at {p : Int} (hp : Prm p) (xs ys : List Int) : ∀ i, i ≤ xs.length → ∀ t : Nat, at0 (mulI p xs ys i) (t : Int) = sm (fun i => sm (cf xs ys t i) ys.length) i % p
  | 0, _, t => by
    rw [mulI, sm]
    unfold at0
    rw [List.getD_eq_getElem?_getD, List.getElem?_replicate]
    split <;> simp
  | i + 1, hi, t => by
    have ih := mulI_at hp xs ys i (by omega)
    rw [mulI, mulJ_at hp _ i ys _ _ ih ys.length (by rw [mulI_len]; omega) t, sm]
    rfl
theorem ext_at {xs ys : List Int} (hl : xs.length = ys.length) (h : ∀ t : Nat, t < xs.length → at0 xs (t : Int) = at0 ys (t : Int)) : xs = ys := by
  apply List.ext_getElem hl
  intro i h1 h2
  have := h i h1
  unfold at0 at this
  rw [Int.toNat_natCast, List.getD_eq_getElem?_getD, List.getD_eq_getElem?_getD, List.getElem?_eq_getElem h1, List.getElem?_eq_getElem h2] at this
  exact this
theorem mulL_comm {p : Int} (hp : Prm p) (xs ys : List Int) : mulL p xs ys = mulL p ys xs := by
  refine ext_at (by unfold mulL; rw [mulI_len, mulI_len, Nat.add_comm]) fun t _ => ?_
  unfold mulL
  rw [mulI_at hp xs ys _ (Nat.le_refl _) t, mulI_at hp ys xs _ (Nat.le_refl _) t, sm_swap]
  congr 1
  refine sm_congr fun j _ => sm_congr fun i _ => ?_
  unfold cf
  rw [Nat.add_comm i j, Int.mul_comm]
end Ev
set_option maxHeartbeats 1000000
/-! Ev, part AA: sums figure by figure. -/
namespace Ev
open PySem PySem.Spec PyProof.Rows L2
variable {c : Cfg}
theorem sm_shift (f : Nat → Int) : ∀ n, sm f (n + 1) = f 0 + sm (fun i => f (i + 1)) n
  | 0 => by simp [sm]
  | n + 1 => by rw [sm, sm_shift f n, sm]; omega
theorem sm_mul (f : Nat → Int) (k : Int) : ∀ n, sm f n * k = sm (fun i => f i * k) n
  | 0 => by simp [sm]
  | n + 1 => by rw [sm, sm, Int.add_mul, sm_mul f k n]
theorem numb_sm (p : Int) : ∀ (n : Nat) (g : Nat → Int), numb p ((List.range n).map g) = sm (fun j => g j * p ^ j) n
  | 0, g => rfl
  | n + 1, g => by
    rw [List.range_succ_eq_map, List.map_cons, List.map_map, sm_shift, numb]
    show numb p ((List.range n).map (g ∘ Nat.succ)) * p + g 0 = _
    rw [numb_sm p n (g ∘ Nat.succ), sm_mul]
    rw [Int.pow_zero, Int.mul_one, Int.add_comm]
    congr 1
    refine sm_congr fun j _ => ?_
    show g (j + 1) * p ^ j * p = g (j + 1) * p ^ (j + 1)
    rw [Int.pow_succ, Int.mul_assoc]
def dg (f : Int → Int → Int) (p a b : Int) (j : Nat) : Int := f (a / p ^ j) (b / p ^ j) % p
def sumIn (o : BOp) : Sms := (.cons (.aug 3 .add (.bin .mul true (.bin .mod true (.bin o true (.var 1) (.var 2)) (.var 0)) (.var 4)))
 (.cons (.par [1, 2, 4] (.cons (.bin .fdiv true (.var 1) (.var 0)) (.cons (.bin .fdiv true (.var 2) (.var 0)) (.cons (.bin .mul true (.var 4) (.var 0)) .nil))))
 .nil))
def sumT : Ex := (.or (.cmp .gt (.var 1) (.cint 0)) (.cmp .gt (.var 2) (.cint 0)))
def sumB (o : BOp) : Sms := (.cons (.set 3 (.cint 0))
 (.cons (.set 4 (.cint 1))
 (.cons (.while sumT
 (sumIn o))
 (.cons (.ret (.var 3))
 .nil))))
abbrev sumE (f : Int → Int → Int) (p a b : Int) (i : Nat) : Env := [some (.int p), some (.int (a / p ^ i)), some (.int (b / p ^ i)), some (.int (sm (fun j => dg f p a b j * p ^ j) i)), some (.int (p ^ i))]
theorem div_zero_of {p a : Int} (hp : 0 < p) {n : Nat} (h0 : 0 ≤ a) (h : a < p ^ n) : a / p ^ n = 0 := Int.ediv_eq_zero_of_lt h0 h
theorem div_zero_ge {p a : Int} (hp : 0 < p) {i j : Nat} (h : a / p ^ i = 0) (hij : i ≤ j) : a / p ^ j = 0 := by
  induction hij with
  | refl => exact h
  | step _ ih => rw [← div_pow hp, ih, Int.zero_ediv]
theorem sum_body {o : BOp} {f : Int → Int → Int} (hb : ∀ x y fz h, binD o fz (.int x) (.int y) h = .ok (.int (f x y)) h) (f0 : f 0 0 = 0) {p : Int} (hp : Prm p) {n : Nat} {a b : Int} (ha : 0 ≤ a ∧ a < p ^ n) (hb' : 0 ≤ b ∧ b < p ^ n) (hF : n < c.F) :
    ∃ h', (sumB o).den c [some (.int p), some (.int a), some (.int b), none, none] [] = .ret (.int (numb p ((List.range n).map (dg f p a b)))) h' := by
  obtain ⟨hp0, hp1⟩ := hp
  have za := div_zero_of hp0 ha.1 ha.2
  have zb := div_zero_of hp0 hb'.1 hb'.2
  have na : ∀ i : Nat, 0 ≤ a / p ^ i := fun i => Int.ediv_nonneg ha.1 (Int.le_of_lt (Int.pow_pos hp0))
  have nb : ∀ i : Nat, 0 ≤ b / p ^ i := fun i => Int.ediv_nonneg hb'.1 (Int.le_of_lt (Int.pow_pos hp0))
  obtain ⟨ρ', h', e, i, hi, rfl, rfl, hm⟩ := whileD_rel (c := sumT.tst c) (b := (sumIn o).den c) (fun m ρ h => ∃ i, i ≤ n ∧ ρ = sumE f p a b i ∧ h = [] ∧ m = (if 0 < a / p ^ i ∨ 0 < b / p ^ i then n - i else 0)) c.F (if 0 < a / p ^ 0 ∨ 0 < b / p ^ 0 then n - 0 else 0) (sumE f p a b 0) [] (by split <;> omega) ⟨0, Nat.zero_le _, rfl, rfl, rfl⟩
    (fun m ρ h ⟨i, hi, e1, e2, em⟩ => by
      subst e1 e2 em
      by_cases q : 0 < a / p ^ i ∨ 0 < b / p ^ i
      · have hlt : i < n := by
          rcases Nat.lt_or_ge i n with h | h
          · exact h
          · have : i = n := by omega
            subst this
            rw [za, zb] at q
            omega
        refine .inr ⟨[], sumE f p a b (i + 1), [], _, ?_, .inl ?_, ?_, ⟨i + 1, hlt, rfl, rfl, rfl⟩⟩
        · unfold sumT
          by_cases q1 : 0 < a / p ^ i
          · simp [Ex.tst, sumE, q1]
          · have q2 := q.resolve_left q1
            simp [Ex.tst, sumE, q1, q2]
        · unfold sumIn
          have r0 := Int.emod_nonneg (f (a / p ^ i) (b / p ^ i)) (show p ≠ 0 by omega)
          have r1 := Int.emod_lt_of_pos (f (a / p ^ i) (b / p ^ i)) hp0
          have s1 : -18446744073709551616 < f (a / p ^ i) (b / p ^ i) % p := by omega
          have s2 : f (a / p ^ i) (b / p ^ i) % p < 18446744073709551616 := by omega
          have s3 : -18446744073709551616 < p := by omega
          have s4 : p < 18446744073709551616 := by omega
          have s5 : p < 1073741824 := by omega
          simp [sumE, hb, bin_mod, hp0, bin_mul, s1, s2, s3, s4, bin_fdiv, s5, div_pow hp0, ← Int.pow_succ, sm, dg]
        · rw [if_pos q]; split <;> omega
      · refine .inl ⟨[], ?_, rfl, if_neg q⟩
        have q1 : ¬ 0 < a / p ^ i := fun z => q (.inl z)
        have q2 : ¬ 0 < b / p ^ i := fun z => q (.inr z)
        unfold sumT
        simp [Ex.tst, sumE, q1, q2])
  have z : a / p ^ i = 0 ∧ b / p ^ i = 0 := by
    have h1 := na i
    have h2 := nb i
    by_cases q : 0 < a / p ^ i ∨ 0 < b / p ^ i
    · rw [if_pos q] at hm
      have : i = n := by omega
      subst this
      exact ⟨za, zb⟩
    · omega
  have tail : ∀ k, sm (fun j => dg f p a b j * p ^ j) (i + k) = sm (fun j => dg f p a b j * p ^ j) i := fun k => by
    induction k with
    | zero => rfl
    | succ k ih =>
      rw [show i + (k + 1) = (i + k) + 1 from rfl, sm, ih]
      unfold dg
      rw [div_zero_ge hp0 z.1 (by omega), div_zero_ge hp0 z.2 (by omega), f0]
      simp
  have fin : sm (fun j => dg f p a b j * p ^ j) i = numb p ((List.range n).map (dg f p a b)) := by
    rw [numb_sm, ← tail (n - i), show i + (n - i) = n from by omega]
  refine ⟨[], ?_⟩
  unfold sumB
  simp only [sumE, Int.pow_zero, Int.ediv_one, sm, fin] at e
  simp
  rw [e]
  simp
end Ev
set_option maxHeartbeats 1000000
/-! Ev, part AB: numbers and their figures. -/
namespace Ev
open PySem PySem.Spec PyProof.Rows L2
theorem numb_pos {p : Int} (hp : 0 < p) : ∀ {xs : List Int}, Fig p xs → 0 ≤ numb p xs ∧ numb p xs < p ^ xs.length
  | [], _ => ⟨Int.le_refl _, by show (0 : Int) < p ^ 0; rw [Int.pow_zero]; decide⟩
  | x :: xs, h => by
    obtain ⟨a, b⟩ := numb_pos hp (xs := xs) fun y hy => h y (List.mem_cons_of_mem _ hy)
    obtain ⟨c, d⟩ := h x List.mem_cons_self
    refine ⟨Int.add_nonneg (Int.mul_nonneg a (Int.le_of_lt hp)) c, ?_⟩
    show numb p xs * p + x < p ^ (xs.length + 1)
    rw [Int.pow_succ]
    have h2 : (numb p xs + 1) * p ≤ p ^ xs.length * p := Int.mul_le_mul_of_nonneg_right (by omega) (Int.le_of_lt hp)
    rw [Int.add_mul, Int.one_mul] at h2
    omega
theorem numb_dig {p : Int} (hp : 0 < p) : ∀ {xs : List Int}, Fig p xs → ∀ j, j < xs.length → numb p xs / p ^ j % p = at0 xs (j : Int)
  | [], _, j, hj => absurd hj (Nat.not_lt_zero j)
  | x :: xs, h, 0, _ => by
    obtain ⟨c, d⟩ := h x List.mem_cons_self
    show (numb p xs * p + x) / p ^ 0 % p = x
    rw [Int.pow_zero, Int.ediv_one, Int.add_comm, Int.add_mul_emod_self_right]
    exact Int.emod_eq_of_lt c d
  | x :: xs, h, j + 1, hj => by
    obtain ⟨c, d⟩ := h x List.mem_cons_self
    have ih := numb_dig hp (xs := xs) (fun y hy => h y (List.mem_cons_of_mem _ hy)) j (by simpa using hj)
    have e : (numb p xs * p + x) / p ^ (j + 1) = numb p xs / p ^ j := by
      rw [Int.pow_succ, Int.mul_comm (p ^ j) p, ← Int.ediv_ediv_of_nonneg (Int.le_of_lt hp), Int.add_comm, Int.add_mul_ediv_right _ _ (by omega), Int.ediv_eq_zero_of_lt c d, Int.zero_add]
    show (numb p xs * p + x) / p ^ (j + 1) % p = _
    rw [e, ih]
    unfold at0
    rw [Int.toNat_natCast, Int.toNat_natCast]
    rfl
theorem numb_figs {p : Int} (hp : Prm p) : ∀ (k : Nat) (a : Int), 0 ≤ a → a < p ^ k → numb p (figs p k a) = a
  | 0, a, h0, h1 => by
    rw [Int.pow_zero] at h1
    show (0 : Int) = a
    omega
  | k + 1, a, h0, h1 => by
    have ih := numb_figs hp k (a / p) (Int.ediv_nonneg h0 (Int.le_of_lt hp.pos)) (by
      rw [Int.pow_succ] at h1
      exact Int.ediv_lt_of_lt_mul hp.pos h1)
    have e : figs p (k + 1) a = a % p :: figs p k (a / p) := by
      unfold figs
      rw [List.range_succ_eq_map, List.map_cons, List.map_map, Int.pow_zero, Int.ediv_one]
      congr 1
      refine List.map_congr_left fun j _ => ?_
      show a / p ^ (j + 1) % p = a / p / p ^ j % p
      rw [Int.pow_succ, Int.mul_comm (p ^ j) p, Int.ediv_ediv_of_nonneg (Int.le_of_lt hp.pos)]
    rw [e]
    show numb p (figs p k (a / p)) * p + a % p = a
    rw [ih, Int.mul_comm]
    exact Int.mul_ediv_add_emod a p
theorem dg_fig {p : Int} (hp : Prm p) (f : Int → Int → Int) (a b : Int) (k : Nat) : Fig p ((List.range k).map (dg f p a b)) := fun y hy => by
  obtain ⟨j, _, rfl⟩ := List.mem_map.mp hy
  have := hp.pos
  exact ⟨Int.emod_nonneg _ (by omega), Int.emod_lt_of_pos _ hp.pos⟩
/-- taken off, put on again -/
theorem less_plus {p : Int} (hp : Prm p) {k : Nat} {a b : Int} (h0 : 0 ≤ a) (h1 : a < p ^ k) : numb p ((List.range k).map (dg (· + ·) p (numb p ((List.range k).map (dg (· - ·) p a b))) b)) = a := by
  have hf := dg_fig hp (· - ·) a b k
  rw [show (List.range k).map (dg (· + ·) p (numb p ((List.range k).map (dg (· - ·) p a b))) b) = figs p k a from ?_]
  · exact numb_figs hp k a h0 h1
  · unfold figs
    refine List.map_congr_left fun j hj => ?_
    have hj' : j < k := List.mem_range.mp hj
    have d := numb_dig hp.pos hf j (by rw [List.length_map, List.length_range]; exact hj')
    have e : at0 ((List.range k).map (dg (· - ·) p a b)) (j : Int) = dg (· - ·) p a b j := at0_of (by rw [List.getElem?_map, List.getElem?_range hj']; rfl)
    rw [e] at d
    show (numb p ((List.range k).map (dg (· - ·) p a b)) / p ^ j + b / p ^ j) % p = a / p ^ j % p
    rw [Int.add_emod, d]
    unfold dg
    show ((a / p ^ j - b / p ^ j) % p + b / p ^ j % p) % p = _
    rw [← Int.add_emod, Int.sub_add_cancel]
end Ev
set_option maxHeartbeats 1000000
/-! Ev, part AC: figures modulo a polynomial are a ring. -/
namespace Ev
/-! ### sums -/
theorem sm_neg (f : Nat → Int) : ∀ n, sm (fun i => -f i) n = -sm f n
  | 0 => rfl
  | n + 1 => by rw [sm, sm, sm_neg f n]; omega
theorem sm_sub (f g : Nat → Int) (n : Nat) : sm (fun i => f i - g i) n = sm f n - sm g n := by
  rw [show (fun i => f i - g i) = fun i => f i + (fun i => -g i) i from funext fun i => Int.sub_eq_add_neg, sm_add, sm_neg, Int.sub_eq_add_neg]
theorem mul_sm (k : Int) (f : Nat → Int) (n : Nat) : k * sm f n = sm (fun i => k * f i) n := by
  rw [Int.mul_comm, sm_mul]
  exact sm_congr fun i _ => Int.mul_comm _ _
theorem sm_split (f : Nat → Int) (a : Nat) : ∀ b, sm f (a + b) = sm f a + sm (fun j => f (a + j)) b
  | 0 => by rw [sm]; show sm f a = _; omega
  | b + 1 => by rw [← Nat.add_assoc, sm, sm_split f a b, sm]; omega
/-- one summand alone -/
theorem sm_one (f : Nat → Int) (i : Nat) : ∀ n, sm (fun j => if i = j then f j else 0) n = if i < n then f i else 0
  | 0 => by rw [sm, if_neg (Nat.not_lt_zero i)]
  | n + 1 => by
    rw [sm, sm_one f i n]
    by_cases h : i = n
    · subst h; rw [if_neg (Nat.lt_irrefl i), if_pos rfl, if_pos (Nat.lt_succ_self i), Int.zero_add]
    · rw [if_neg h, Int.add_zero]
      by_cases h2 : i < n
      · rw [if_pos h2, if_pos (by omega)]
      · rw [if_neg h2, if_neg (by omega)]
/-! ### congruences -/
def Cg (p a b : Int) : Prop := p ∣ a - b
theorem Cg.rfl {p a : Int} : Cg p a a := by unfold Cg; rw [Int.sub_self]; exact Int.dvd_zero p
theorem Cg.of {p a b : Int} (h : a = b) : Cg p a b := h ▸ Cg.rfl
theorem Cg.symm {p a b : Int} (h : Cg p a b) : Cg p b a := by
  unfold Cg at *
  rw [show b - a = -(a - b) from by omega]
  exact Int.dvd_neg.mpr h
theorem Cg.trans {p a b c : Int} (h : Cg p a b) (g : Cg p b c) : Cg p a c := by
  unfold Cg at *
  rw [show a - c = (a - b) + (b - c) from by omega]
  exact Int.dvd_add h g
theorem Cg.add {p a b c d : Int} (h : Cg p a b) (g : Cg p c d) : Cg p (a + c) (b + d) := by
  unfold Cg at *
  rw [show a + c - (b + d) = (a - b) + (c - d) from by omega]
  exact Int.dvd_add h g
theorem Cg.neg {p a b : Int} (h : Cg p a b) : Cg p (-a) (-b) := by
  unfold Cg at *
  rw [show -a - -b = -(a - b) from by omega]
  exact Int.dvd_neg.mpr h
theorem Cg.sub {p a b c d : Int} (h : Cg p a b) (g : Cg p c d) : Cg p (a - c) (b - d) := by
  rw [Int.sub_eq_add_neg, Int.sub_eq_add_neg]; exact h.add g.neg
theorem Cg.mul {p a b c d : Int} (h : Cg p a b) (g : Cg p c d) : Cg p (a * c) (b * d) := by
  unfold Cg at *
  rw [show a * c - b * d = a * (c - d) + (a - b) * d from by rw [Int.mul_sub, Int.sub_mul]; omega]
  exact Int.dvd_add (Int.dvd_trans g (Int.dvd_mul_left _ _)) (Int.dvd_trans h (Int.dvd_mul_right _ _))
theorem Cg.mod (p a : Int) : Cg p (a % p) a := by
  unfold Cg
  rw [show a % p - a = p * -(a / p) from by rw [Int.mul_neg]; have := Int.mul_ediv_add_emod a p; omega]
  exact Int.dvd_mul_right _ _
theorem Cg.sm {p : Int} {f g : Nat → Int} : ∀ {n : Nat}, (∀ i, i < n → Cg p (f i) (g i)) → Cg p (Ev.sm f n) (Ev.sm g n)
  | 0, _ => .rfl
  | n + 1, h => (Cg.sm (n := n) fun i hi => h i (by omega)).add (h n (by omega))
theorem Cg.emod {p a b : Int} (h : Cg p a b) : a % p = b % p := by
  unfold Cg at h
  exact (Int.emod_eq_emod_iff_emod_sub_eq_zero).mpr (Int.emod_eq_zero_of_dvd h)
theorem Cg.eq {p a b : Int} (h : Cg p a b) (a0 : 0 ≤ a) (a1 : a < p) (b0 : 0 ≤ b) (b1 : b < p) : a = b := by
  have := h.emod
  rwa [Int.emod_eq_of_lt a0 a1, Int.emod_eq_of_lt b0 b1] at this
/-! ### the powers of X, over whole numbers -/
def XE (lo : List Int) : Nat → Nat → Int
  | 0, i => if 0 = i then 1 else 0
  | t + 1, i => (if i = 0 then 0 else XE lo t (i - 1)) - XE lo t (lo.length - 1) * at0 lo (i : Nat)
theorem XE_low {lo : List Int} : ∀ {t i : Nat}, t < lo.length → i < lo.length → XE lo t i = if t = i then 1 else 0
  | 0, i, _, _ => rfl
  | t + 1, i, ht, hi => by
    rw [XE, XE_low (t := t) (i := lo.length - 1) (by omega) (by omega), if_neg (show ¬t = lo.length - 1 by omega), Int.zero_mul, Int.sub_zero]
    by_cases h : i = 0
    · rw [if_pos h, if_neg (by omega)]
    · rw [if_neg h, XE_low (t := t) (i := i - 1) (by omega) (by omega)]
      by_cases h2 : t = i - 1
      · rw [if_pos h2, if_pos (by omega)]
      · rw [if_neg h2, if_neg (by omega)]
theorem XE_rec {lo : List Int} : ∀ {t i : Nat}, i < lo.length → XE lo (t + lo.length) i = -sm (fun j => at0 lo (j : Nat) * XE lo (t + j) i) lo.length
  | 0, i, hi => by
    obtain ⟨k, hk⟩ : ∃ k, lo.length = k + 1 := ⟨lo.length - 1, by omega⟩
    have e : sm (fun j => at0 lo (j : Nat) * XE lo (0 + j) i) lo.length = at0 lo (i : Nat) := by
      rw [sm_congr (g := fun j => if i = j then at0 lo (j : Nat) else 0) fun j hj => ?_, sm_one, if_pos hi]
      rw [Nat.zero_add, XE_low hj hi]
      by_cases h : i = j
      · rw [if_pos h, if_pos h.symm, Int.mul_one]
      · rw [if_neg h, if_neg (Ne.symm h), Int.mul_zero]
    rw [e, Nat.zero_add, hk, XE, show lo.length - 1 = k from by omega, XE_low (t := k) (i := k) (by omega) (by omega), if_pos rfl, Int.one_mul]
    by_cases h : i = 0
    · rw [if_pos h]; omega
    · rw [if_neg h, XE_low (by omega) (by omega), if_neg (by omega)]; omega
  | t + 1, i, hi => by
    rw [show t + 1 + lo.length = (t + lo.length) + 1 from by omega, XE, XE_rec (t := t) (i := lo.length - 1) (by omega)]
    have e : sm (fun j => at0 lo (j : Nat) * XE lo (t + 1 + j) i) lo.length = sm (fun j => at0 lo (j : Nat) * (if i = 0 then 0 else XE lo (t + j) (i - 1))) lo.length - sm (fun j => at0 lo (j : Nat) * XE lo (t + j) (lo.length - 1)) lo.length * at0 lo (i : Nat) := by
      rw [sm_mul, ← sm_sub]
      refine sm_congr fun j _ => ?_
      rw [show t + 1 + j = (t + j) + 1 from by omega, XE, Int.mul_sub, Int.mul_assoc]
    rw [e, Int.neg_mul]
    by_cases h : i = 0
    · simp only [if_pos h, Int.mul_zero]
      rw [sm_zero]; omega
    · simp only [if_neg h]
      rw [XE_rec (t := t) (i := i - 1) (by omega)]; omega
theorem XE_comp {lo : List Int} (h1 : 1 ≤ lo.length) : ∀ {s d i : Nat}, i < lo.length → sm (fun c => XE lo s c * XE lo (c + d) i) lo.length = XE lo (s + d) i
  | 0, d, i, hi => by
    rw [sm_congr (g := fun c => if 0 = c then XE lo (c + d) i else 0) fun c _ => ?_, sm_one, if_pos (by omega)]
    show (if 0 = c then (1 : Int) else 0) * _ = _
    by_cases h : 0 = c
    · rw [if_pos h, if_pos h, Int.one_mul]
    · rw [if_neg h, if_neg h, Int.zero_mul]
  | s + 1, d, i, hi => by
    obtain ⟨k, hk⟩ : ∃ k, lo.length = k + 1 := ⟨lo.length - 1, by omega⟩
    have e : sm (fun c => XE lo (s + 1) c * XE lo (c + d) i) lo.length = sm (fun c => (if c = 0 then 0 else XE lo s (c - 1)) * XE lo (c + d) i) lo.length - XE lo s (lo.length - 1) * sm (fun c => at0 lo (c : Nat) * XE lo (d + c) i) lo.length := by
      rw [mul_sm, ← sm_sub]
      refine sm_congr fun c _ => ?_
      rw [XE, Int.sub_mul, Int.mul_assoc, Nat.add_comm c d]
    have r := XE_rec (lo := lo) (t := d) hi
    have e2 : XE lo s (lo.length - 1) * sm (fun c => at0 lo (c : Nat) * XE lo (d + c) i) lo.length = -(XE lo s k * XE lo (k + (d + 1)) i) := by
      rw [show k + (d + 1) = d + lo.length from by omega, r, Int.mul_neg, Int.neg_neg, show lo.length - 1 = k from by omega]
    have ih := XE_comp h1 (s := s) (d := d + 1) hi
    rw [hk, sm] at ih
    rw [e, e2, show s + 1 + d = s + (d + 1) from by omega, ← ih, hk, sm_shift]
    have e3 : sm (fun c => (if c + 1 = 0 then 0 else XE lo s (c + 1 - 1)) * XE lo (c + 1 + d) i) k = sm (fun c => XE lo s c * XE lo (c + (d + 1)) i) k := by
      refine sm_congr fun c _ => ?_
      rw [if_neg (by omega), show c + 1 - 1 = c from rfl, show c + 1 + d = c + (d + 1) from by omega]
    rw [e3]
    show (0 : Int) * _ + _ - _ = _
    omega
/-! ### reductions keep the value -/
/-- the value of a row, at place i -/
def hv (lo row : List Int) (n i : Nat) : Int := sm (fun t => at0 row (t : Nat) * XE lo t i) n
theorem redK_at {p : Int} (lo : List Int) (top : Int) (off : Nat) (row : List Int) : ∀ k, off + k ≤ row.length → ∀ u : Nat, at0 (redK p lo top off row k) (u : Nat) = if off ≤ u ∧ u < off + k then (at0 row (u : Nat) - top * at0 lo ((u - off : Nat) : Int)) % p else at0 row (u : Nat)
  | 0, _, u => by rw [redK, if_neg (by omega)]
  | k + 1, hk, u => by
    have ih := redK_at (p := p) lo top off row k (by omega)
    rw [redK, show (off : Int) + (k : Int) = ((off + k : Nat) : Int) from by omega, at0_put _ _ _ _ (by rw [redK_len]; omega), ih (off + k), ih u, if_neg (show ¬(off ≤ off + k ∧ off + k < off + k) by omega)]
    by_cases h : u = off + k
    · rw [if_pos h, if_pos (by omega), h, show off + k - off = k from by omega]
    · rw [if_neg h]
      by_cases h2 : off ≤ u ∧ u < off + k
      · rw [if_pos h2, if_pos (by omega)]
      · rw [if_neg h2, if_neg (by omega)]
theorem redS_hv {p : Int} (lo fg : List Int) (h1 : lo.length ≤ fg.length) {i : Nat} (hi : i < lo.length) : ∀ t, t ≤ fg.length - lo.length → Cg p (hv lo (redS p lo fg t) (fg.length - t) i) (hv lo fg fg.length i)
  | 0, _ => .rfl
  | t + 1, ht => by
    refine Cg.trans ?_ (redS_hv lo fg h1 hi t (by omega))
    generalize hr : redS p lo fg t = row
    have hl : row.length = fg.length := by rw [← hr, redS_len]
    obtain ⟨off, ho⟩ : ∃ off, fg.length - t = off + lo.length + 1 := ⟨fg.length - t - lo.length - 1, by omega⟩
    have e1 : redS p lo fg (t + 1) = redK p lo (at0 row ((off + lo.length : Nat) : Int)) off row lo.length := by
      rw [redS, hr, show (fg.length : Int) - 1 - t = ((off + lo.length : Nat) : Int) from by omega, show ((off + lo.length : Nat) : Int) - lo.length = off from by omega]
    generalize ht' : at0 row ((off + lo.length : Nat) : Int) = top at e1
    rw [show fg.length - (t + 1) = off + lo.length from by omega, ho, e1]
    unfold hv
    rw [sm_split _ off lo.length, sm, sm_split _ off lo.length, ht']
    have r := XE_rec (lo := lo) (t := off) hi
    have a1 : sm (fun u => at0 (redK p lo top off row lo.length) (u : Nat) * XE lo u i) off = sm (fun u => at0 row (u : Nat) * XE lo u i) off := sm_congr fun u hu => by
      rw [redK_at lo top off row _ (by omega), if_neg (by omega)]
    have a2 : Cg p (sm (fun j => at0 (redK p lo top off row lo.length) ((off + j : Nat) : Int) * XE lo (off + j) i) lo.length) (sm (fun j => (at0 row ((off + j : Nat) : Int) - top * at0 lo (j : Nat)) * XE lo (off + j) i) lo.length) := by
      refine Cg.sm fun j hj => Cg.mul ?_ .rfl
      rw [redK_at lo top off row _ (by omega), if_pos (by omega), show off + j - off = j from by omega]
      exact Cg.mod _ _
    have a3 : sm (fun j => (at0 row ((off + j : Nat) : Int) - top * at0 lo (j : Nat)) * XE lo (off + j) i) lo.length = sm (fun j => at0 row ((off + j : Nat) : Int) * XE lo (off + j) i) lo.length + top * XE lo (off + lo.length) i := by
      rw [r, Int.mul_neg, mul_sm, ← Int.sub_eq_add_neg, ← sm_sub]
      refine sm_congr fun j _ => ?_
      rw [Int.sub_mul, Int.mul_assoc]
    rw [a3] at a2
    rw [a1, Int.add_assoc]
    exact Cg.add .rfl a2
theorem remL_at {p : Int} {lo fg : List Int} (h1 : lo.length ≤ fg.length) {i : Nat} (hi : i < lo.length) : Cg p (at0 (remL p lo fg) (i : Nat)) (hv lo fg fg.length i) := by
  have e := redS_hv (p := p) lo fg h1 hi (fg.length - lo.length) (Nat.le_refl _)
  rw [show fg.length - (fg.length - lo.length) = lo.length from by omega] at e
  refine Cg.trans (Cg.of ?_) e
  unfold remL hv
  rw [at0_take _ _ _ (by omega) (by omega), sm_congr (g := fun t => if i = t then at0 (redS p lo fg (fg.length - lo.length)) (t : Nat) else 0) fun t ht => ?_, sm_one, if_pos hi]
  rw [XE_low ht hi]
  by_cases h : i = t
  · rw [if_pos h, if_pos h.symm, Int.mul_one]
  · rw [if_neg h, if_neg (Ne.symm h), Int.mul_zero]
end Ev
set_option maxHeartbeats 1000000
/-! Ev, part AD: the ring of figures, its powers. -/
namespace Ev
/-- k figures -/
structure Vc (p : Int) (k : Nat) (x : List Int) : Prop where
  len : x.length = k
  fig : Fig p x
def vmk (p : Int) (k : Nat) (f : Nat → Int) : List Int := (List.range k).map fun i => f i % p
theorem vmk_V {p : Int} (hp : 0 < p) (k : Nat) (f : Nat → Int) : Vc p k (vmk p k f) := ⟨by unfold vmk; rw [List.length_map, List.length_range], fun y hy => by
  obtain ⟨j, _, rfl⟩ := List.mem_map.mp hy
  exact ⟨Int.emod_nonneg _ (by omega), Int.emod_lt_of_pos _ hp⟩⟩
theorem vmk_at {p : Int} {k : Nat} (f : Nat → Int) {i : Nat} (hi : i < k) : at0 (vmk p k f) (i : Nat) = f i % p := by
  refine at0_of ?_
  unfold vmk
  rw [List.getElem?_map, List.getElem?_range hi]; rfl
theorem Vc.at {p : Int} {k : Nat} {x : List Int} (h : Vc p k x) {i : Nat} (hi : i < k) : 0 ≤ at0 x (i : Nat) ∧ at0 x (i : Nat) < p := by
  have hl : i < x.length := by rw [h.len]; exact hi
  rw [at0_of (List.getElem?_eq_getElem hl)]
  exact h.fig _ (List.getElem_mem hl)
theorem Vc.ext {p : Int} {k : Nat} {x y : List Int} (h : Vc p k x) (g : Vc p k y) (e : ∀ i, i < k → Cg p (at0 x (i : Nat)) (at0 y (i : Nat))) : x = y := by
  refine ext_at (by rw [h.len, g.len]) fun t ht => ?_
  rw [h.len] at ht
  exact (e t ht).eq (h.at ht).1 (h.at ht).2 (g.at ht).1 (g.at ht).2
theorem put_fig {p : Int} {xs : List Int} (h : Fig p xs) (k : Int) {v : Int} (hv : 0 ≤ v ∧ v < p) : Fig p (put xs k v) := fun y hy => by
  rcases List.mem_or_eq_of_mem_set hy with q | q
  · exact h y q
  · rw [q]; exact hv
theorem mod_in {p : Int} (hp : 0 < p) (a : Int) : 0 ≤ a % p ∧ a % p < p := ⟨Int.emod_nonneg _ (by omega), Int.emod_lt_of_pos _ hp⟩
theorem mulJ_fig {p : Int} (hp : 0 < p) (x : Int) (i : Nat) (ys : List Int) {row : List Int} (h : Fig p row) : ∀ j, Fig p (mulJ p x i ys row j)
  | 0 => h
  | j + 1 => put_fig (mulJ_fig hp x i ys h j) _ (mod_in hp _)
theorem mulI_fig {p : Int} (hp : 0 < p) (xs ys : List Int) : ∀ i, Fig p (mulI p xs ys i)
  | 0 => fun y hy => by rw [(List.mem_replicate.mp hy).2]; exact ⟨Int.le_refl _, hp⟩
  | i + 1 => mulJ_fig hp _ i ys (mulI_fig hp xs ys i) _
theorem redK_fig {p : Int} (hp : 0 < p) (lo : List Int) (top off : Int) {row : List Int} (h : Fig p row) : ∀ k, Fig p (redK p lo top off row k)
  | 0 => h
  | k + 1 => put_fig (redK_fig hp lo top off h k) _ (mod_in hp _)
theorem redS_fig {p : Int} (hp : 0 < p) (lo : List Int) {row : List Int} (h : Fig p row) : ∀ t, Fig p (redS p lo row t)
  | 0 => h
  | t + 1 => redK_fig hp lo _ _ (redS_fig hp lo h t) _
theorem remL_V {p : Int} (hp : 0 < p) {lo fg : List Int} (h : Fig p fg) (hl : lo.length ≤ fg.length) : Vc p lo.length (remL p lo fg) :=
  ⟨by unfold remL; rw [List.length_take, redS_len]; omega, fun y hy => redS_fig hp lo h _ y (List.mem_of_mem_take hy)⟩
/-- what a field's numbers are -/
structure Fld (p : Int) (lo : List Int) : Prop where
  prm : Prm p
  two : 1 < p
  fig : Fig p lo
  one : 1 ≤ lo.length
  few : lo.length ≤ 400
def Mu (p : Int) (lo x y : List Int) : List Int := remL p lo (mulL p x y)
section
variable {p : Int} {lo : List Int} (A : Fld p lo)
theorem mulL_len (p : Int) (x y : List Int) : (mulL p x y).length = x.length + y.length - 1 := mulI_len p x y x.length
include A
theorem Mu_V {x y : List Int} (hx : Vc p lo.length x) (hy : Vc p lo.length y) : Vc p lo.length (Mu p lo x y) :=
  remL_V A.prm.pos (mulI_fig A.prm.pos x y _) (by have := A.one; rw [mulL_len, hx.len, hy.len]; omega)
/-- the entries of a product -/
theorem Mu_at {x y : List Int} (hx : Vc p lo.length x) (hy : Vc p lo.length y) {i : Nat} (hi : i < lo.length) :
    Cg p (at0 (Mu p lo x y) (i : Nat)) (sm (fun a => sm (fun b => at0 x (a : Nat) * at0 y (b : Nat) * XE lo (a + b) i) lo.length) lo.length) := by
  have h1 := A.one
  have hl : (mulL p x y).length = lo.length + lo.length - 1 := by rw [mulL_len, hx.len, hy.len]
  refine (remL_at (by omega) hi).trans ?_
  rw [hl]
  unfold hv
  have e1 : Cg p (sm (fun t => at0 (mulL p x y) (t : Nat) * XE lo t i) (lo.length + lo.length - 1)) (sm (fun t => sm (fun a => sm (fun b => cf x y t a b * XE lo t i) lo.length) lo.length) (lo.length + lo.length - 1)) := by
    refine Cg.sm fun t ht => ?_
    have e := mulI_at A.prm x y x.length (Nat.le_refl _) t
    rw [hx.len, hy.len] at e
    have e2 : sm (fun a => sm (fun b => cf x y t a b * XE lo t i) lo.length) lo.length = sm (fun a => sm (cf x y t a) lo.length) lo.length * XE lo t i := by
      rw [sm_mul]
      exact sm_congr fun a _ => (sm_mul _ _ _).symm
    rw [e2, show mulL p x y = mulI p x y lo.length from by unfold mulL; rw [hx.len], e]
    exact Cg.mul (Cg.mod _ _) .rfl
  refine e1.trans (Cg.of ?_)
  rw [sm_swap]
  refine sm_congr fun a ha => ?_
  rw [sm_swap]
  refine sm_congr fun b hb => ?_
  rw [sm_congr (g := fun t => if a + b = t then at0 x (a : Nat) * at0 y (b : Nat) * XE lo t i else 0) fun t _ => ?_, sm_one, if_pos (by omega)]
  unfold cf
  by_cases h : a + b = t
  · rw [if_pos h, if_pos h]
  · rw [if_neg h, if_neg h, Int.zero_mul]
omit A in
theorem Mu_comm (hp : Prm p) (x y : List Int) : Mu p lo x y = Mu p lo y x := by unfold Mu; rw [mulL_comm hp]
omit A in
def S3 (lo x y z : List Int) (i : Nat) : Int := sm (fun a => sm (fun b => sm (fun d => at0 x (a : Nat) * at0 y (b : Nat) * at0 z (d : Nat) * XE lo (a + b + d) i) lo.length) lo.length) lo.length
theorem Mu_left {x y z : List Int} (hx : Vc p lo.length x) (hy : Vc p lo.length y) (hz : Vc p lo.length z) {i : Nat} (hi : i < lo.length) : Cg p (at0 (Mu p lo (Mu p lo x y) z) (i : Nat)) (S3 lo x y z i) := by
  refine (Mu_at A (Mu_V A hx hy) hz hi).trans ?_
  have e1 : Cg p (sm (fun c => sm (fun d => at0 (Mu p lo x y) (c : Nat) * at0 z (d : Nat) * XE lo (c + d) i) lo.length) lo.length)
      (sm (fun c => sm (fun d => sm (fun a => sm (fun b => at0 x (a : Nat) * at0 y (b : Nat) * XE lo (a + b) c * (at0 z (d : Nat) * XE lo (c + d) i)) lo.length) lo.length) lo.length) lo.length) := by
    refine Cg.sm fun c hc => Cg.sm fun d hd => ?_
    rw [Int.mul_assoc]
    refine (Cg.mul (Mu_at A hx hy hc) .rfl).trans (Cg.of ?_)
    rw [sm_mul]
    exact sm_congr fun a _ => sm_mul _ _ _
  refine e1.trans (Cg.of ?_)
  unfold S3
  rw [sm_congr (n := lo.length) fun c _ => sm_swap (fun d a => sm (fun b => at0 x (a : Nat) * at0 y (b : Nat) * XE lo (a + b) c * (at0 z (d : Nat) * XE lo (c + d) i)) lo.length) lo.length lo.length, sm_swap]
  refine sm_congr fun a ha => ?_
  rw [sm_congr (n := lo.length) fun c _ => sm_swap (fun d b => at0 x (a : Nat) * at0 y (b : Nat) * XE lo (a + b) c * (at0 z (d : Nat) * XE lo (c + d) i)) lo.length lo.length, sm_swap]
  refine sm_congr fun b hb => ?_
  rw [sm_swap]
  refine sm_congr fun d hd => ?_
  rw [← XE_comp A.one (s := a + b) (d := d) hi, mul_sm]
  refine sm_congr fun c _ => ?_
  simp only [Int.mul_assoc, Int.mul_left_comm (XE lo (a + b) c)]
omit A in
theorem S3_turn (lo x y z : List Int) (i : Nat) : S3 lo y z x i = S3 lo x y z i := by
  unfold S3
  rw [sm_congr (n := lo.length) fun a _ => sm_swap (fun b d => at0 y (a : Nat) * at0 z (b : Nat) * at0 x (d : Nat) * XE lo (a + b + d) i) lo.length lo.length, sm_swap]
  refine sm_congr fun a _ => sm_congr fun b _ => sm_congr fun d _ => ?_
  rw [show b + d + a = a + b + d from by omega, Int.mul_comm (at0 y (b : Nat) * at0 z (d : Nat)), ← Int.mul_assoc (at0 x (a : Nat))]
theorem Mu_assoc {x y z : List Int} (hx : Vc p lo.length x) (hy : Vc p lo.length y) (hz : Vc p lo.length z) : Mu p lo (Mu p lo x y) z = Mu p lo x (Mu p lo y z) := by
  refine Vc.ext (Mu_V A (Mu_V A hx hy) hz) (Mu_V A hx (Mu_V A hy hz)) fun i hi => ?_
  refine (Mu_left A hx hy hz hi).trans ?_
  rw [Mu_comm A.prm x, ← S3_turn]
  exact (Mu_left A hy hz hx hi).symm
omit A in
def vone (p : Int) (k : Nat) : List Int := vmk p k fun i => if i = 0 then 1 else 0
omit A in
def vzero (p : Int) (k : Nat) : List Int := vmk p k fun _ => 0
omit A in
def vadd (p : Int) (k : Nat) (x y : List Int) : List Int := vmk p k fun i => at0 x (i : Nat) + at0 y (i : Nat)
omit A in
def vsub (p : Int) (k : Nat) (x y : List Int) : List Int := vmk p k fun i => at0 x (i : Nat) - at0 y (i : Nat)
omit A in
def vsc (p : Int) (k : Nat) (c : Int) (x : List Int) : List Int := vmk p k fun i => c * at0 x (i : Nat)
omit A in
theorem vmk_cg {k : Nat} (f : Nat → Int) {i : Nat} (hi : i < k) : Cg p (at0 (vmk p k f) (i : Nat)) (f i) := by rw [vmk_at f hi]; exact Cg.mod _ _
theorem one_V : Vc p lo.length (vone p lo.length) := vmk_V A.prm.pos _ _
theorem zero_V : Vc p lo.length (vzero p lo.length) := vmk_V A.prm.pos _ _
theorem add_V (x y : List Int) : Vc p lo.length (vadd p lo.length x y) := vmk_V A.prm.pos _ _
theorem sub_V (x y : List Int) : Vc p lo.length (vsub p lo.length x y) := vmk_V A.prm.pos _ _
theorem sc_V (c : Int) (x : List Int) : Vc p lo.length (vsc p lo.length c x) := vmk_V A.prm.pos _ _
theorem one_Mu {y : List Int} (hy : Vc p lo.length y) : Mu p lo (vone p lo.length) y = y := by
  refine Vc.ext (Mu_V A (one_V A) hy) hy fun i hi => (Mu_at A (one_V A) hy hi).trans ?_
  have e : Cg p (sm (fun a => sm (fun b => at0 (vone p lo.length) (a : Nat) * at0 y (b : Nat) * XE lo (a + b) i) lo.length) lo.length) (sm (fun a => if 0 = a then sm (fun b => at0 y (b : Nat) * XE lo (a + b) i) lo.length else 0) lo.length) := by
    refine Cg.sm fun a ha => ?_
    by_cases h : 0 = a
    · rw [if_pos h]
      refine Cg.sm fun b hb => Cg.mul ?_ .rfl
      refine (Cg.mul (vmk_cg _ ha) .rfl).trans (Cg.of ?_)
      rw [if_pos h.symm, Int.one_mul]
    · rw [if_neg h, ← sm_zero lo.length]
      refine Cg.sm fun b hb => ?_
      refine (Cg.mul (Cg.mul (vmk_cg _ ha) .rfl) .rfl).trans (Cg.of ?_)
      rw [if_neg (Ne.symm h), Int.zero_mul, Int.zero_mul]
  refine e.trans (Cg.of ?_)
  rw [sm_one, if_pos (by have := A.one; omega), sm_congr (g := fun t => if i = t then at0 y (t : Nat) else 0) fun t ht => ?_, sm_one, if_pos hi]
  rw [Nat.zero_add, XE_low ht hi]
  by_cases h : i = t
  · rw [if_pos h, if_pos h.symm, Int.mul_one]
  · rw [if_neg h, if_neg (Ne.symm h), Int.mul_zero]
theorem Mu_one {y : List Int} (hy : Vc p lo.length y) : Mu p lo y (vone p lo.length) = y := by rw [Mu_comm A.prm]; exact one_Mu A hy
theorem Mu_add {x y z : List Int} (hx : Vc p lo.length x) (hy : Vc p lo.length y) (hz : Vc p lo.length z) : Mu p lo x (vadd p lo.length y z) = vadd p lo.length (Mu p lo x y) (Mu p lo x z) := by
  refine Vc.ext (Mu_V A hx (add_V A y z)) (add_V A _ _) fun i hi => (Mu_at A hx (add_V A y z) hi).trans (Cg.symm ?_)
  refine (vmk_cg _ hi).trans (((Mu_at A hx hy hi).add (Mu_at A hx hz hi)).trans ?_)
  rw [← sm_add]
  refine Cg.sm fun a _ => ?_
  rw [← sm_add]
  refine Cg.sm fun b hb => ?_
  refine Cg.trans (Cg.of ?_) (Cg.mul (Cg.mul (Cg.rfl (a := at0 x (a : Nat))) (vmk_cg (p := p) (fun i => at0 y (i : Nat) + at0 z (i : Nat)) hb).symm) .rfl)
  rw [Int.mul_add, Int.add_mul]
theorem Mu_sc {x y : List Int} (c : Int) (hx : Vc p lo.length x) (hy : Vc p lo.length y) : Mu p lo x (vsc p lo.length c y) = vsc p lo.length c (Mu p lo x y) := by
  refine Vc.ext (Mu_V A hx (sc_V A c y)) (sc_V A _ _) fun i hi => (Mu_at A hx (sc_V A c y) hi).trans (Cg.symm ?_)
  refine (vmk_cg _ hi).trans ((Cg.mul .rfl (Mu_at A hx hy hi)).trans ?_)
  rw [mul_sm]
  refine Cg.sm fun a _ => ?_
  rw [mul_sm]
  refine Cg.sm fun b hb => ?_
  refine Cg.trans (Cg.of ?_) (Cg.mul (Cg.mul (Cg.rfl (a := at0 x (a : Nat))) (vmk_cg (p := p) (fun i => c * at0 y (i : Nat)) hb).symm) .rfl)
  simp only [Int.mul_assoc, Int.mul_left_comm c]
/-! ### powers -/
omit A in
def vpow (p : Int) (lo x : List Int) : Nat → List Int
  | 0 => vone p lo.length
  | n + 1 => Mu p lo (vpow p lo x n) x
theorem pow_V {x : List Int} (hx : Vc p lo.length x) : ∀ n, Vc p lo.length (vpow p lo x n)
  | 0 => one_V A
  | n + 1 => Mu_V A (pow_V hx n) hx
theorem pow_1 {x : List Int} (hx : Vc p lo.length x) : vpow p lo x 1 = x := one_Mu A hx
theorem pow_add {x : List Int} (hx : Vc p lo.length x) (m : Nat) : ∀ n, vpow p lo x (m + n) = Mu p lo (vpow p lo x m) (vpow p lo x n)
  | 0 => (Mu_one A (pow_V A hx m)).symm
  | n + 1 => by
    show Mu p lo (vpow p lo x (m + n)) x = Mu p lo _ (Mu p lo _ x)
    rw [pow_add hx m n, Mu_assoc A (pow_V A hx m) (pow_V A hx n) hx]
theorem pow_mul {x : List Int} (hx : Vc p lo.length x) (m : Nat) : ∀ n, vpow p lo x (m * n) = vpow p lo (vpow p lo x m) n
  | 0 => rfl
  | n + 1 => by
    rw [Nat.mul_succ, pow_add A hx, pow_mul hx m n]; rfl
theorem mul_pow {x y : List Int} (hx : Vc p lo.length x) (hy : Vc p lo.length y) : ∀ n, vpow p lo (Mu p lo x y) n = Mu p lo (vpow p lo x n) (vpow p lo y n)
  | 0 => (one_Mu A (one_V A)).symm
  | n + 1 => by
    show Mu p lo (vpow p lo (Mu p lo x y) n) (Mu p lo x y) = Mu p lo (Mu p lo _ x) (Mu p lo _ y)
    have a := pow_V A hx n
    have b := pow_V A hy n
    rw [mul_pow hx hy n, Mu_assoc A a b (Mu_V A hx hy), ← Mu_assoc A b hx hy, Mu_comm A.prm (vpow p lo y n) x, Mu_assoc A hx b hy, ← Mu_assoc A a hx (Mu_V A b hy)]
theorem one_pow : ∀ n, vpow p lo (vone p lo.length) n = vone p lo.length
  | 0 => rfl
  | n + 1 => by
    show Mu p lo (vpow p lo (vone p lo.length) n) _ = _
    rw [one_pow n, one_Mu A (one_V A)]
omit A in
/-- by squares -/
def powW (p : Int) (lo : List Int) : Nat → List Int → List Int → Int → List Int
  | 0, f, _, _ => f
  | n + 1, f, g, t => if 0 < t then powW p lo n (if t % 2 = 1 then Mu p lo f g else f) (Mu p lo g g) (t / 2) else f
theorem powW_eq : ∀ (n : Nat) {f g : List Int} (t : Nat), Vc p lo.length f → Vc p lo.length g → t < 2 ^ n → powW p lo n f g t = Mu p lo f (vpow p lo g t)
  | 0, f, g, t, hf, hg, ht => by
    have : t = 0 := by simpa using ht
    subst this
    exact (Mu_one A hf).symm
  | n + 1, f, g, t, hf, hg, ht => by
    rw [powW]
    by_cases h : 0 < t
    · rw [if_pos (by omega)]
      have hd : ((t : Nat) : Int) / 2 = ((t / 2 : Nat) : Int) := by omega
      have e2 : vpow p lo (Mu p lo g g) (t / 2) = vpow p lo g (2 * (t / 2)) := by
        rw [pow_mul A hg]
        congr 1
        show _ = Mu p lo (vpow p lo g 1) g
        rw [pow_1 A hg]
      by_cases ho : ((t : Nat) : Int) % 2 = 1
      · rw [if_pos ho, hd, powW_eq n (t / 2) (Mu_V A hf hg) (Mu_V A hg hg) (by rw [Nat.pow_succ] at ht; omega), e2, Mu_assoc A hf hg (pow_V A hg _)]
        congr 1
        rw [show t = 1 + 2 * (t / 2) from by omega, pow_add A hg, pow_1 A hg, show (1 + 2 * (t / 2)) / 2 = t / 2 from by omega]
      · rw [if_neg ho, hd, powW_eq n (t / 2) hf (Mu_V A hg hg) (by rw [Nat.pow_succ] at ht; omega), e2]
        congr 2
        omega
    · rw [if_neg (by omega), show t = 0 from by omega]
      exact (Mu_one A hf).symm
end
end Ev
set_option maxHeartbeats 1000000
/-! Ev, part AE: the power by the prime is linear; fields. -/
namespace Ev
/-! ### binomials -/
def bn : Nat → Nat → Nat
  | _, 0 => 1
  | 0, _ + 1 => 0
  | n + 1, k + 1 => bn n k + bn n (k + 1)
theorem bn_zero : ∀ n, bn n 0 = 1
  | 0 => rfl
  | _ + 1 => rfl
theorem bn_over : ∀ {n k : Nat}, n < k → bn n k = 0
  | 0, k + 1, _ => rfl
  | n + 1, k + 1, h => by rw [bn, bn_over (by omega), bn_over (by omega)]
theorem bn_self : ∀ n, bn n n = 1
  | 0 => rfl
  | n + 1 => by rw [bn, bn_self n, bn_over (Nat.lt_succ_self n)]
theorem bn_mul : ∀ n t, (t + 1) * bn (n + 1) (t + 1) = (n + 1) * bn n t
  | 0, 0 => rfl
  | 0, t + 1 => by rw [bn_over (show 0 + 1 < t + 1 + 1 by omega), bn_over (show 0 < t + 1 by omega), Nat.mul_zero, Nat.mul_zero]
  | n + 1, 0 => by
    have := bn_mul n 0
    rw [bn_zero] at this
    show (0 + 1) * (bn (n + 1) 0 + bn (n + 1) (0 + 1)) = (n + 1 + 1) * bn (n + 1) 0
    rw [bn_zero]
    omega
  | n + 1, t + 1 => by
    have a := bn_mul n t
    have b := bn_mul n (t + 1)
    rw [bn, Nat.mul_add, b, show t + 1 + 1 = (t + 1) + 1 from rfl, Nat.add_mul (t + 1) 1, a, Nat.one_mul]
    rw [show (n + 1 + 1) * bn (n + 1) (t + 1) = (n + 1) * bn (n + 1) (t + 1) + bn (n + 1) (t + 1) from by rw [Nat.add_mul (n + 1) 1, Nat.one_mul]]
    rw [show bn (n + 1) (t + 1) = bn n t + bn n (t + 1) from rfl, Nat.mul_add (n + 1)]
    omega
structure Pri (P : Nat) : Prop where
  two : 2 ≤ P
  dv : ∀ d, d ∣ P → d = 1 ∨ d = P
theorem Pri.coprime {P : Nat} (h : Pri P) {a : Nat} (a0 : 0 < a) (a1 : a < P) : Nat.Coprime P a := by
  rcases h.dv _ (Nat.gcd_dvd_left P a) with e | e
  · exact e
  · exact absurd (Nat.le_of_dvd a0 (e ▸ Nat.gcd_dvd_right P a)) (by omega)
theorem Pri.bn {P : Nat} (h : Pri P) {t : Nat} (t0 : 0 < t) (t1 : t < P) : P ∣ Ev.bn P t := by
  obtain ⟨n, rfl⟩ : ∃ n, P = n + 1 := ⟨P - 1, by omega⟩
  obtain ⟨u, rfl⟩ : ∃ u, t = u + 1 := ⟨t - 1, by omega⟩
  exact (h.coprime t0 t1).dvd_of_dvd_mul_left (bn_mul n u ▸ Nat.dvd_mul_right _ _)
section
variable {p : Int} {lo : List Int} (A : Fld p lo)
include A
/-- a product with a sum of multiples -/
theorem Mu_sum {x : List Int} (hx : Vc p lo.length x) (c : Nat → Int) (z : Nat → List Int) (n : Nat) (hz : ∀ t, t < n → Vc p lo.length (z t)) {i : Nat} (hi : i < lo.length) :
    Cg p (at0 (Mu p lo x (vmk p lo.length fun i => sm (fun t => c t * at0 (z t) (i : Nat)) n)) (i : Nat)) (sm (fun t => c t * at0 (Mu p lo x (z t)) (i : Nat)) n) := by
  refine (Mu_at A hx (vmk_V A.prm.pos _ _) hi).trans ?_
  have e : Cg p (sm (fun t => c t * at0 (Mu p lo x (z t)) (i : Nat)) n) (sm (fun t => sm (fun a => sm (fun b => c t * (at0 x (a : Nat) * at0 (z t) (b : Nat) * XE lo (a + b) i)) lo.length) lo.length) n) := by
    refine Cg.sm fun t ht => (Cg.mul .rfl (Mu_at A hx (hz t ht) hi)).trans (Cg.of ?_)
    rw [mul_sm]
    exact sm_congr fun a _ => mul_sm _ _ _
  refine Cg.trans ?_ e.symm
  rw [sm_swap (fun t a => sm (fun b => c t * (at0 x (a : Nat) * at0 (z t) (b : Nat) * XE lo (a + b) i)) lo.length) lo.length n]
  refine Cg.sm fun a _ => ?_
  rw [sm_swap]
  refine Cg.sm fun b hb => ?_
  refine (Cg.mul (Cg.mul .rfl (vmk_cg _ hb)) .rfl).trans (Cg.of ?_)
  rw [mul_sm, sm_mul]
  refine sm_congr fun t _ => ?_
  simp only [Int.mul_assoc, Int.mul_left_comm (c t)]
/-- the binomial theorem, figure by figure -/
theorem pow_sum {x y : List Int} (hx : Vc p lo.length x) (hy : Vc p lo.length y) : ∀ n, vpow p lo (vadd p lo.length x y) n = vmk p lo.length fun i => sm (fun t => (bn n t : Int) * at0 (Mu p lo (vpow p lo x t) (vpow p lo y (n - t))) (i : Nat)) (n + 1)
  | 0 => by
    refine Vc.ext (one_V A) (vmk_V A.prm.pos _ _) fun i hi => Cg.trans ?_ (vmk_cg _ hi).symm
    show Cg p (at0 (vone p lo.length) (i : Nat)) (0 + (1 : Int) * at0 (Mu p lo (vone p lo.length) (vone p lo.length)) (i : Nat))
    rw [one_Mu A (one_V A), Int.one_mul, Int.zero_add]
    exact .rfl
  | n + 1 => by
    have px := pow_V A hx
    have py := pow_V A hy
    have vB : Vc p lo.length (vmk p lo.length fun i => sm (fun t => (bn n t : Int) * at0 (Mu p lo (vpow p lo x t) (vpow p lo y (n - t))) (i : Nat)) (n + 1)) := vmk_V A.prm.pos _ _
    show Mu p lo (vpow p lo (vadd p lo.length x y) n) (vadd p lo.length x y) = _
    rw [pow_sum hx hy n, Mu_add A vB hx hy]
    refine Vc.ext (add_V A _ _) (vmk_V A.prm.pos _ _) fun i hi => Cg.trans (vmk_cg _ hi) (Cg.trans ?_ (vmk_cg _ hi).symm)
    generalize hg : (fun t => at0 (Mu p lo (vpow p lo x t) (vpow p lo y (n + 1 - t))) (i : Nat)) = g
    have g1 : ∀ t, t ≤ n → at0 (Mu p lo x (Mu p lo (vpow p lo x t) (vpow p lo y (n - t)))) (i : Nat) = g (t + 1) := fun t ht => by
      subst hg
      show _ = at0 (Mu p lo (Mu p lo (vpow p lo x t) x) (vpow p lo y (n + 1 - (t + 1)))) (i : Nat)
      rw [show n + 1 - (t + 1) = n - t from by omega, ← Mu_assoc A hx (px t) (py _), Mu_comm A.prm x]
    have g2 : ∀ t, t ≤ n → at0 (Mu p lo y (Mu p lo (vpow p lo x t) (vpow p lo y (n - t)))) (i : Nat) = g t := fun t ht => by
      subst hg
      show _ = at0 (Mu p lo (vpow p lo x t) (vpow p lo y (n + 1 - t))) (i : Nat)
      rw [show n + 1 - t = (n - t) + 1 from by omega, Mu_comm A.prm y, Mu_assoc A (px t) (py _) hy]
      rfl
    have s1 := Mu_sum A hx (fun t => (bn n t : Int)) (fun t => Mu p lo (vpow p lo x t) (vpow p lo y (n - t))) (n + 1) (fun t _ => Mu_V A (px t) (py _)) hi
    have s2 := Mu_sum A hy (fun t => (bn n t : Int)) (fun t => Mu p lo (vpow p lo x t) (vpow p lo y (n - t))) (n + 1) (fun t _ => Mu_V A (px t) (py _)) hi
    rw [Mu_comm A.prm x] at s1
    rw [Mu_comm A.prm y] at s2
    refine (s1.add s2).trans (Cg.of ?_)
    rw [sm_congr (g := fun t => (bn n t : Int) * g (t + 1)) fun t ht => by rw [g1 t (by omega)], sm_congr (f := fun t => (bn n t : Int) * at0 (Mu p lo y (Mu p lo (vpow p lo x t) (vpow p lo y (n - t)))) (i : Nat)) (g := fun t => (bn n t : Int) * g t) fun t ht => by rw [g2 t (by omega)]]
    have e1 : sm (fun t => (bn (n + 1) t : Int) * g t) (n + 2) = g 0 + (sm (fun t => (bn n t : Int) * g (t + 1)) (n + 1) + sm (fun t => (bn n (t + 1) : Int) * g (t + 1)) (n + 1)) := by
      rw [sm_shift, ← sm_add]
      congr 1
      · show ((1 : Nat) : Int) * g 0 = g 0
        rw [Int.natCast_one, Int.one_mul]
      · refine sm_congr fun t _ => ?_
        rw [bn, Int.natCast_add, Int.add_mul]
    have e2 : sm (fun t => (bn n t : Int) * g t) (n + 1) = g 0 + sm (fun t => (bn n (t + 1) : Int) * g (t + 1)) n := by
      rw [sm_shift, bn_zero, Int.natCast_one, Int.one_mul]
    have e3 : sm (fun t => (bn n (t + 1) : Int) * g (t + 1)) (n + 1) = sm (fun t => (bn n (t + 1) : Int) * g (t + 1)) n := by
      rw [sm, bn_over (Nat.lt_succ_self n), Int.natCast_zero, Int.zero_mul, Int.add_zero]
    have e0 : sm (fun t => (bn (n + 1) t : Int) * at0 (Mu p lo (vpow p lo x t) (vpow p lo y (n + 1 - t))) (i : Nat)) (n + 1 + 1) = sm (fun t => (bn (n + 1) t : Int) * g t) (n + 2) := sm_congr fun t _ => by subst hg; rfl
    rw [e0, e1, e2, e3]
    omega
omit A in
theorem sm_ends (f : Nat → Int) {P : Nat} (hP : 1 ≤ P) (h : ∀ t, 0 < t → t < P → Cg p (f t) 0) : Cg p (sm f (P + 1)) (f 0 + f P) := by
  obtain ⟨n, rfl⟩ : ∃ n, P = n + 1 := ⟨P - 1, by omega⟩
  rw [sm, sm_shift]
  refine Cg.add ?_ .rfl
  have : Cg p (sm (fun i => f (i + 1)) n) (sm (fun _ => 0) n) := Cg.sm fun i hi => h (i + 1) (by omega) (by omega)
  rw [sm_zero] at this
  have := Cg.add (Cg.rfl (p := p) (a := f 0)) this
  rwa [Int.add_zero] at this
variable {P : Nat} (hP : Pri P) (hpP : p = (P : Int))
include hP hpP
theorem frob_add {x y : List Int} (hx : Vc p lo.length x) (hy : Vc p lo.length y) : vpow p lo (vadd p lo.length x y) P = vadd p lo.length (vpow p lo x P) (vpow p lo y P) := by
  rw [pow_sum A hx hy P]
  refine Vc.ext (vmk_V A.prm.pos _ _) (add_V A _ _) fun i hi => (vmk_cg _ hi).trans (Cg.trans ?_ (vmk_cg _ hi).symm)
  refine (sm_ends _ (by have := hP.two; omega) fun t t0 t1 => ?_).trans (Cg.of ?_)
  · unfold Cg
    rw [Int.sub_zero, hpP]
    exact Int.dvd_trans (Int.ofNat_dvd.mpr (hP.bn t0 t1)) (Int.dvd_mul_right _ _)
  · rw [bn_zero, bn_self, Nat.sub_self, Nat.sub_zero, Int.natCast_one, Int.one_mul, Int.one_mul]
    show at0 (Mu p lo (vone p lo.length) (vpow p lo y P)) (i : Nat) + at0 (Mu p lo (vpow p lo x P) (vone p lo.length)) (i : Nat) = _
    rw [one_Mu A (pow_V A hy P), Mu_one A (pow_V A hx P), Int.add_comm]
omit hP hpP in
theorem sc_Mu (c : Int) {x : List Int} (hx : Vc p lo.length x) : vsc p lo.length c x = Mu p lo (vsc p lo.length c (vone p lo.length)) x := by
  rw [Mu_comm A.prm, Mu_sc A c hx (one_V A), Mu_one A hx]
theorem frob_const : ∀ c : Nat, vpow p lo (vsc p lo.length c (vone p lo.length)) P = vsc p lo.length c (vone p lo.length)
  | 0 => by
    have z : vsc p lo.length ((0 : Nat) : Int) (vone p lo.length) = vzero p lo.length := Vc.ext (sc_V A _ _) (zero_V A) fun i hi => (vmk_cg _ hi).trans (Cg.trans (Cg.of (by show ((0 : Nat) : Int) * _ = 0; rw [Int.natCast_zero, Int.zero_mul])) (vmk_cg _ hi).symm)
    rw [z]
    obtain ⟨n, rfl⟩ : ∃ n, P = n + 1 := ⟨P - 1, by have := hP.two; omega⟩
    show Mu p lo _ (vzero p lo.length) = _
    have v := pow_V A (zero_V A) n
    refine Vc.ext (Mu_V A v (zero_V A)) (zero_V A) fun i hi => (Mu_at A v (zero_V A) hi).trans (Cg.trans ?_ (vmk_cg _ hi).symm)
    refine Cg.trans (Cg.sm (g := fun _ => 0) fun a _ => Cg.trans (Cg.sm (g := fun _ => 0) fun b hb => ?_) (Cg.of (sm_zero _))) (Cg.of (sm_zero _))
    refine (Cg.mul (Cg.mul .rfl (vmk_cg _ hb)) .rfl).trans (Cg.of ?_)
    rw [Int.mul_zero, Int.zero_mul]
  | c + 1 => by
    have e : vsc p lo.length ((c + 1 : Nat) : Int) (vone p lo.length) = vadd p lo.length (vsc p lo.length (c : Nat) (vone p lo.length)) (vone p lo.length) := by
      refine Vc.ext (sc_V A _ _) (add_V A _ _) fun i hi => (vmk_cg _ hi).trans (Cg.trans ?_ (vmk_cg _ hi).symm)
      refine Cg.trans (Cg.of ?_) (Cg.add (vmk_cg (p := p) (fun i => (c : Int) * at0 (vone p lo.length) (i : Nat)) hi).symm .rfl)
      rw [Int.natCast_add, Int.add_mul, Int.natCast_one, Int.one_mul]
    rw [e, frob_add A hP hpP (sc_V A _ _) (one_V A), frob_const c, one_pow A]
theorem frob_sc {c : Int} (c0 : 0 ≤ c) {x : List Int} (hx : Vc p lo.length x) : vpow p lo (vsc p lo.length c x) P = vsc p lo.length c (vpow p lo x P) := by
  obtain ⟨n, rfl⟩ : ∃ n : Nat, c = n := ⟨c.toNat, by omega⟩
  rw [sc_Mu A _ hx, mul_pow A (sc_V A _ _) hx, frob_const A hP hpP, ← sc_Mu A _ (pow_V A hx P)]
end
end Ev
set_option maxHeartbeats 1000000
/-! Ev, part AF: what a field's numbers keep. -/
namespace Ev
def ev (p : Int) (lo : List Int) (t : Nat) : List Int := vmk p lo.length (XE lo t)
section
variable {p : Int} {lo : List Int} (A : Fld p lo)
include A
theorem ev_V (t : Nat) : Vc p lo.length (ev p lo t) := vmk_V A.prm.pos _ _
theorem ev_zero : ev p lo 0 = vone p lo.length := Vc.ext (ev_V A 0) (one_V A) fun i hi => (vmk_cg _ hi).trans (Cg.trans (Cg.of (by
  show (if 0 = i then (1 : Int) else 0) = if i = 0 then 1 else 0
  by_cases h : i = 0
  · rw [if_pos h, if_pos h.symm]
  · rw [if_neg h, if_neg (Ne.symm h)])) (vmk_cg _ hi).symm)
theorem ev_mul (s t : Nat) : Mu p lo (ev p lo s) (ev p lo t) = ev p lo (s + t) := by
  refine Vc.ext (Mu_V A (ev_V A s) (ev_V A t)) (ev_V A _) fun i hi => (Mu_at A (ev_V A s) (ev_V A t) hi).trans (Cg.trans ?_ (vmk_cg _ hi).symm)
  refine Cg.trans (Cg.sm (g := fun a => sm (fun b => XE lo s a * XE lo t b * XE lo (a + b) i) lo.length) fun a ha => Cg.sm fun b hb => Cg.mul (Cg.mul (vmk_cg _ ha) (vmk_cg _ hb)) .rfl) (Cg.of ?_)
  rw [← XE_comp A.one hi]
  refine sm_congr fun a _ => ?_
  rw [show a + t = t + a from Nat.add_comm _ _, ← XE_comp A.one (s := t) (d := a) hi, mul_sm]
  refine sm_congr fun b _ => ?_
  rw [Int.mul_assoc, Nat.add_comm a b]
theorem ev_pow : ∀ t, vpow p lo (ev p lo 1) t = ev p lo t
  | 0 => (ev_zero A).symm
  | t + 1 => by
    show Mu p lo (vpow p lo (ev p lo 1) t) _ = _
    rw [ev_pow t, ev_mul A]
omit A in
structure Lin (p : Int) (lo : List Int) (f : List Int → List Int) : Prop where
  V : ∀ x, Vc p lo.length x → Vc p lo.length (f x)
  add : ∀ x y, Vc p lo.length x → Vc p lo.length y → f (vadd p lo.length x y) = vadd p lo.length (f x) (f y)
  sc : ∀ c x, 0 ≤ c → Vc p lo.length x → f (vsc p lo.length c x) = vsc p lo.length c (f x)
omit A in
def part (p : Int) (lo x : List Int) (n : Nat) : List Int := vmk p lo.length fun i => sm (fun t => at0 x (t : Nat) * XE lo t i) n
theorem part_V (x : List Int) (n : Nat) : Vc p lo.length (part p lo x n) := vmk_V A.prm.pos _ _
theorem part_succ (x : List Int) (n : Nat) : part p lo x (n + 1) = vadd p lo.length (part p lo x n) (vsc p lo.length (at0 x (n : Nat)) (ev p lo n)) := by
  refine Vc.ext (part_V A x _) (add_V A _ _) fun i hi => (vmk_cg _ hi).trans (Cg.trans ?_ (vmk_cg _ hi).symm)
  refine Cg.add (vmk_cg (p := p) (fun i => sm (fun t => at0 x (t : Nat) * XE lo t i) n) hi).symm (Cg.trans ?_ (vmk_cg _ hi).symm)
  exact Cg.mul .rfl (vmk_cg _ hi).symm
theorem part_all {x : List Int} (hx : Vc p lo.length x) : part p lo x lo.length = x := by
  refine Vc.ext (part_V A x _) hx fun i hi => (vmk_cg _ hi).trans (Cg.of ?_)
  rw [sm_congr (g := fun t => if i = t then at0 x (t : Nat) else 0) fun t ht => ?_, sm_one, if_pos hi]
  rw [XE_low ht hi]
  by_cases h : i = t
  · rw [if_pos h, if_pos h.symm, Int.mul_one]
  · rw [if_neg h, if_neg (Ne.symm h), Int.mul_zero]
theorem lin_part {f : List Int → List Int} (L : Lin p lo f) {x : List Int} (hx : Vc p lo.length x) : ∀ n, n ≤ lo.length → ∀ i, i < lo.length → Cg p (at0 (f (part p lo x n)) (i : Nat)) (sm (fun t => at0 x (t : Nat) * at0 (f (ev p lo t)) (i : Nat)) n)
  | 0, _, i, hi => by
    have z : part p lo x 0 = vsc p lo.length 0 (part p lo x 0) := Vc.ext (part_V A x 0) (sc_V A _ _) fun i hi => (vmk_cg _ hi).trans (Cg.trans (Cg.of (Int.zero_mul _).symm) (vmk_cg (p := p) (fun i => 0 * at0 (part p lo x 0) (i : Nat)) hi).symm)
    rw [z, L.sc 0 _ (Int.le_refl 0) (part_V A x 0)]
    exact (vmk_cg _ hi).trans (Cg.of (Int.zero_mul _))
  | n + 1, hn, i, hi => by
    rw [part_succ A, L.add _ _ (part_V A x n) (sc_V A _ _), L.sc _ _ (hx.at (by omega)).1 (ev_V A n)]
    exact (vmk_cg _ hi).trans (Cg.add (lin_part L hx n (by omega) i hi) (vmk_cg _ hi))
theorem lin_at {f : List Int → List Int} (L : Lin p lo f) {x : List Int} (hx : Vc p lo.length x) {i : Nat} (hi : i < lo.length) : Cg p (at0 (f x) (i : Nat)) (sm (fun t => at0 x (t : Nat) * at0 (f (ev p lo t)) (i : Nat)) lo.length) := by
  have := lin_part A L hx lo.length (Nat.le_refl _) i hi
  rwa [part_all A hx] at this
theorem lin_ext {f g : List Int → List Int} (L : Lin p lo f) (K : Lin p lo g) (h : ∀ t, t < lo.length → f (ev p lo t) = g (ev p lo t)) {x : List Int} (hx : Vc p lo.length x) : f x = g x := by
  refine Vc.ext (L.V x hx) (K.V x hx) fun i hi => (lin_at A L hx hi).trans (Cg.trans (Cg.of ?_) (lin_at A K hx hi).symm)
  exact sm_congr fun t ht => by rw [h t ht]
theorem lin_id : Lin p lo fun x => x := ⟨fun _ h => h, fun _ _ _ _ => rfl, fun _ _ _ _ => rfl⟩
variable {P : Nat} (hP : Pri P) (hpP : p = (P : Int))
include hP hpP
theorem lin_frob : ∀ n, Lin p lo fun x => vpow p lo x (P ^ n)
  | 0 => ⟨fun x hx => pow_V A hx _, fun x y hx hy => by
      show vpow p lo _ (P ^ 0) = vadd p lo.length (vpow p lo _ (P ^ 0)) (vpow p lo _ (P ^ 0))
      rw [Nat.pow_zero, pow_1 A hx, pow_1 A hy, pow_1 A (add_V A x y)], fun c x c0 hx => by
      show vpow p lo _ (P ^ 0) = vsc p lo.length c (vpow p lo _ (P ^ 0))
      rw [Nat.pow_zero, pow_1 A hx, pow_1 A (sc_V A c x)]⟩
  | n + 1 => by
    have ih := lin_frob n
    have e : ∀ x, Vc p lo.length x → vpow p lo x (P ^ (n + 1)) = vpow p lo (vpow p lo x (P ^ n)) P := fun x hx => by rw [Nat.pow_succ, pow_mul A hx]
    refine ⟨fun x hx => pow_V A hx _, fun x y hx hy => ?_, fun c x c0 hx => ?_⟩
    · show vpow p lo _ (P ^ (n + 1)) = vadd p lo.length (vpow p lo _ (P ^ (n + 1))) (vpow p lo _ (P ^ (n + 1)))
      rw [e _ (add_V A x y), ih.add x y hx hy, e x hx, e y hy, frob_add A hP hpP (ih.V x hx) (ih.V y hy)]
    · show vpow p lo _ (P ^ (n + 1)) = vsc p lo.length c (vpow p lo _ (P ^ (n + 1)))
      rw [e _ (sc_V A c x), ih.sc c x c0 hx, e x hx, frob_sc A hP hpP c0 (ih.V x hx)]
theorem pow_size {n : Nat} (h : vpow p lo (ev p lo 1) (P ^ n) = ev p lo 1) {x : List Int} (hx : Vc p lo.length x) : vpow p lo x (P ^ n) = x := by
  refine lin_ext A (lin_frob A hP hpP n) (lin_id A) (fun t _ => ?_) hx
  show vpow p lo (ev p lo t) (P ^ n) = ev p lo t
  rw [← ev_pow A t, ← pow_mul A (ev_V A 1), Nat.mul_comm, pow_mul A (ev_V A 1), h]
theorem fix_const (W : Nat → Nat → Int) (hW : ∀ i, 1 ≤ i → i < lo.length → ∀ t, t < lo.length → Cg p (sm (fun j => W i j * (at0 (vpow p lo (ev p lo t) P) (j : Nat) - if j = t then 1 else 0)) lo.length) (if i = t then 1 else 0))
    {e : List Int} (he : Vc p lo.length e) (hf : vpow p lo e P = e) {i : Nat} (h1 : 1 ≤ i) (hi : i < lo.length) : at0 e (i : Nat) = 0 := by
  have L := lin_frob A hP hpP 1
  have key : Cg p (at0 e (i : Nat)) 0 := by
    have e1 : at0 e (i : Nat) = sm (fun t => (if i = t then 1 else 0) * at0 e (t : Nat)) lo.length := by
      rw [sm_congr (g := fun t => if i = t then at0 e (t : Nat) else 0) fun t ht => ?_, sm_one, if_pos hi]
      by_cases h : i = t
      · rw [if_pos h, if_pos h, Int.one_mul]
      · rw [if_neg h, if_neg h, Int.zero_mul]
    refine (Cg.of e1).trans (Cg.trans (Cg.sm (g := fun t => sm (fun j => W i j * (at0 (vpow p lo (ev p lo t) P) (j : Nat) - if j = t then 1 else 0) * at0 e (t : Nat)) lo.length) fun t ht => ?_) ?_)
    · rw [← sm_mul]
      exact Cg.mul (hW i h1 hi t ht).symm .rfl
    · rw [sm_swap]
      refine Cg.trans (Cg.sm (g := fun _ => 0) fun j hj => ?_) (Cg.of (sm_zero _))
      have e2 : sm (fun t => W i j * (at0 (vpow p lo (ev p lo t) P) (j : Nat) - if j = t then 1 else 0) * at0 e (t : Nat)) lo.length = W i j * (sm (fun t => at0 e (t : Nat) * at0 (vpow p lo (ev p lo t) P) (j : Nat)) lo.length - at0 e (j : Nat)) := by
        have e3 : at0 e (j : Nat) = sm (fun t => if j = t then at0 e (t : Nat) else 0) lo.length := by rw [sm_one, if_pos hj]
        rw [e3, ← sm_sub, mul_sm]
        refine sm_congr fun t _ => ?_
        rw [Int.mul_assoc]
        congr 1
        by_cases h : j = t
        · rw [if_pos h, if_pos h, Int.sub_mul, Int.one_mul, Int.mul_comm]
        · rw [if_neg h, if_neg h, Int.sub_zero, Int.sub_zero, Int.mul_comm]
      rw [e2]
      have e4 := lin_at A L he hj
      simp only [Nat.pow_one] at e4
      rw [hf] at e4
      refine (Cg.mul .rfl (Cg.sub e4.symm .rfl)).trans (Cg.of ?_)
      rw [Int.sub_self, Int.mul_zero]
  exact key.eq (he.at hi).1 (he.at hi).2 (Int.le_refl 0) A.prm.pos
end
theorem Pri.split {P : Nat} (h : Pri P) {a b : Nat} (d : P ∣ a * b) : P ∣ a ∨ P ∣ b := by
  rcases h.dv _ (Nat.gcd_dvd_left P a) with e | e
  · exact .inr (Nat.Coprime.dvd_of_dvd_mul_left e d)
  · exact .inl (e ▸ Nat.gcd_dvd_right P a)
/-- a field -/
structure FF (P : Nat) (lo : List Int) : Prop where
  A : Fld P lo
  hP : Pri P
  q : ∀ x, Vc P lo.length x → vpow P lo x (P ^ lo.length) = x
  fix : ∀ e, Vc P lo.length e → vpow P lo e P = e → ∀ i, 1 ≤ i → i < lo.length → at0 e (i : Nat) = 0
section
variable {P : Nat} {lo : List Int} (B : FF P lo)
include B
theorem zero_Mu {x : List Int} (hx : Vc P lo.length x) : Mu P lo (vzero P lo.length) x = vzero P lo.length := by
  have A := B.A
  rw [Mu_comm A.prm]
  refine Vc.ext (Mu_V A hx (zero_V A)) (zero_V A) fun i hi => (Mu_at A hx (zero_V A) hi).trans (Cg.trans ?_ (vmk_cg _ hi).symm)
  refine Cg.trans (Cg.sm (g := fun _ => 0) fun a _ => Cg.trans (Cg.sm (g := fun _ => 0) fun b hb => ?_) (Cg.of (sm_zero _))) (Cg.of (sm_zero _))
  refine (Cg.mul (Cg.mul .rfl (vmk_cg _ hb)) .rfl).trans (Cg.of ?_)
  rw [Int.mul_zero, Int.zero_mul]
theorem FF.size : 2 ≤ P ^ lo.length := by
  have h1 := B.A.one
  have h2 := B.hP.two
  obtain ⟨k, hk⟩ : ∃ k, lo.length = k + 1 := ⟨lo.length - 1, by omega⟩
  rw [hk, Nat.pow_succ]
  have : 1 ≤ P ^ k := Nat.one_le_iff_ne_zero.mpr (Nat.pos_iff_ne_zero.mp (Nat.pow_pos (by omega)))
  calc 2 ≤ 1 * P := by omega
    _ ≤ P ^ k * P := Nat.mul_le_mul_right P this
theorem FF.idem {e : List Int} (he : Vc P lo.length e) (h : Mu P lo e e = e) : e = vzero P lo.length ∨ e = vone P lo.length := by
  have A := B.A
  have pe : ∀ n, vpow P lo e (n + 1) = e := fun n => by
    induction n with
    | zero => exact pow_1 A he
    | succ n ih => show Mu P lo (vpow P lo e (n + 1)) e = e; rw [ih, h]
  obtain ⟨n, hn⟩ : ∃ n, P = n + 1 := ⟨P - 1, by have := B.hP.two; omega⟩
  have hc := B.fix e he (by have := pe n; rw [← hn] at this; exact this)
  have hk := A.one
  obtain ⟨c0, c1⟩ := he.at (i := 0) (by omega)
  generalize hcc : at0 e ((0 : Nat) : Int) = c at c0 c1
  have all : ∀ v : Int, v = c → ∀ f : Nat → Int, (∀ i, i < lo.length → f i = if i = 0 then v else 0) → e = vmk P lo.length f := fun v hv f hf => by
    refine Vc.ext he (vmk_V A.prm.pos _ _) fun i hi => Cg.trans (Cg.of ?_) (vmk_cg _ hi).symm
    rw [hf i hi]
    by_cases h0 : i = 0
    · rw [if_pos h0, h0, hcc, hv]
    · rw [if_neg h0, hc i (by omega) hi]
  have ec : e = vsc P lo.length c (vone P lo.length) := by
    refine Vc.ext he (sc_V A _ _) fun i hi => Cg.trans ?_ (vmk_cg _ hi).symm
    refine Cg.trans (Cg.of ?_) (Cg.mul .rfl (vmk_cg _ hi).symm)
    by_cases h0 : i = 0
    · rw [if_pos h0, h0, hcc, Int.mul_one]
    · rw [if_neg h0, hc i (by omega) hi, Int.mul_zero]
  have e2 : Mu P lo e e = vsc P lo.length c e := by
    have := sc_Mu A c he
    rw [← ec] at this
    exact this.symm
  rw [h] at e2
  have e3 : Cg (P : Int) c (c * c) := by
    have a := vmk_cg (p := (P : Int)) (k := lo.length) (fun i => c * at0 e (i : Nat)) (i := 0) (by omega)
    have b : at0 e ((0 : Nat) : Int) = at0 (vsc P lo.length c e) ((0 : Nat) : Int) := by rw [← e2]
    rw [hcc] at b
    rw [hcc] at a
    rw [b]
    exact a.trans (Cg.of (by rw [← b]))
  obtain ⟨m, rfl⟩ : ∃ m : Nat, c = m := ⟨c.toNat, by omega⟩
  cases m with
  | zero => exact .inl (all 0 rfl _ fun i _ => by split <;> rfl)
  | succ m =>
    have d : P ∣ (m + 1) * m := by
      have := e3.symm
      unfold Cg at this
      rw [show ((m + 1 : Nat) : Int) * ((m + 1 : Nat) : Int) - ((m + 1 : Nat) : Int) = (((m + 1) * m : Nat) : Int) from by
        rw [Int.natCast_mul, Int.natCast_add, Int.natCast_one, Int.mul_add, Int.mul_one]; omega] at this
      exact Int.ofNat_dvd.mp this
    rcases B.hP.split d with d | d
    · exact absurd (Nat.le_of_dvd (by omega) d) (by omega)
    · cases m with
      | zero => exact .inr (all 1 rfl _ fun i _ => rfl)
      | succ m => exact absurd (Nat.le_of_dvd (by omega) d) (by omega)
theorem FF.unit {x : List Int} (hx : Vc P lo.length x) (h0 : x ≠ vzero P lo.length) : vpow P lo x (P ^ lo.length - 1) = vone P lo.length := by
  have A := B.A
  have hs := B.size
  have hq := B.q x hx
  have v := pow_V A hx (P ^ lo.length - 1)
  have e1 : Mu P lo (vpow P lo x (P ^ lo.length - 1)) x = x := by
    show vpow P lo x (P ^ lo.length - 1 + 1) = x
    rw [show P ^ lo.length - 1 + 1 = P ^ lo.length from by omega, hq]
  have e2 : Mu P lo (vpow P lo x (P ^ lo.length - 1)) (vpow P lo x (P ^ lo.length - 1)) = vpow P lo x (P ^ lo.length - 1) := by
    rw [← pow_add A hx, show P ^ lo.length - 1 + (P ^ lo.length - 1) = P ^ lo.length + (P ^ lo.length - 2) from by omega, pow_add A hx, hq, Mu_comm A.prm x]
    show vpow P lo x (P ^ lo.length - 2 + 1) = _
    rw [show P ^ lo.length - 2 + 1 = P ^ lo.length - 1 from by omega]
  rcases B.idem v e2 with z | z
  · rw [z, zero_Mu B hx] at e1
    exact absurd e1.symm h0
  · exact z
theorem FF.cancel {x y : List Int} (hx : Vc P lo.length x) (hy : Vc P lo.length y) (h : Mu P lo x y = vzero P lo.length) (h0 : x ≠ vzero P lo.length) : y = vzero P lo.length := by
  have A := B.A
  have hs := B.size
  have u := B.unit hx h0
  rw [show P ^ lo.length - 1 = P ^ lo.length - 2 + 1 from by omega] at u
  rw [← one_Mu A hy, ← u]
  show Mu P lo (Mu P lo (vpow P lo x (P ^ lo.length - 2)) x) y = _
  rw [Mu_assoc A (pow_V A hx _) hx hy, h, Mu_comm A.prm, zero_Mu B (pow_V A hx _)]
end
end Ev
set_option maxHeartbeats 1000000
/-! Ev, part AG: numbers as figures; what a caller reads off a run. -/
namespace Ev
open PySem PySem.Spec PyProof.Rows L2
theorem figs_V {p : Int} (hp : Prm p) (k : Nat) (a : Int) : Vc p k (figs p k a) := ⟨figs_len p k a, figs_fig hp k a⟩
theorem figs_numb {p : Int} (hp : 0 < p) {k : Nat} {x : List Int} (hx : Vc p k x) : figs p k (numb p x) = x := by
  have hl := hx.len
  refine ext_at (by rw [figs_len, hl]) fun t ht => ?_
  rw [figs_len] at ht
  rw [← numb_dig hp hx.fig t (by omega)]
  refine at0_of ?_
  unfold figs
  rw [List.getElem?_map, List.getElem?_range ht]; rfl
theorem numb_in {p : Int} (hp : 0 < p) {k : Nat} {x : List Int} (hx : Vc p k x) : 0 ≤ numb p x ∧ numb p x < p ^ k := by
  have := numb_pos hp hx.fig
  rwa [hx.len] at this
theorem numb_inj {p : Int} (hp : 0 < p) {k : Nat} {x y : List Int} (hx : Vc p k x) (hy : Vc p k y) (h : numb p x = numb p y) : x = y := by
  rw [← figs_numb hp hx, h, figs_numb hp hy]
theorem figs_inj {p : Int} (hp : Prm p) {k : Nat} {a b : Int} (a0 : 0 ≤ a) (a1 : a < p ^ k) (b0 : 0 ≤ b) (b1 : b < p ^ k) (h : figs p k a = figs p k b) : a = b := by
  rw [← numb_figs hp k a a0 a1, h, numb_figs hp k b b0 b1]
theorem figs_eq {p : Int} (hp : Prm p) {k : Nat} {x : Int} {f : Nat → Int} (h : ∀ i, i < k → x / p ^ i % p = f i % p) : figs p k x = vmk p k f := List.map_congr_left fun j hj => h j (List.mem_range.mp hj)
theorem figs_0 {p : Int} (hp : Prm p) (k : Nat) : figs p k 0 = vzero p k := figs_eq hp fun i _ => by rw [Int.zero_ediv]
theorem figs_1 {p : Int} (hp : Prm p) (h2 : 1 < p) (k : Nat) : figs p k 1 = vone p k := figs_eq hp fun i _ => by
  cases i with
  | zero => rw [Int.pow_zero, Int.ediv_one, if_pos rfl]
  | succ i =>
    rw [if_neg (by omega), Int.ediv_eq_zero_of_lt (by decide)]
    have : (1 : Int) ≤ p ^ i := Int.pow_pos hp.pos
    rw [Int.pow_succ]
    calc (1 : Int) < 1 * p := by omega
      _ ≤ p ^ i * p := Int.mul_le_mul_of_nonneg_right this (Int.le_of_lt hp.pos)
/-- [1], filled up -/
theorem pad_one {p : Int} (h2 : 1 < p) {k : Nat} (hk : 1 ≤ k) : (1 : Int) :: List.replicate (k - 1) 0 = vone p k := by
  obtain ⟨n, rfl⟩ : ∃ n, k = n + 1 := ⟨k - 1, by omega⟩
  refine ext_at (by unfold vone vmk; rw [List.length_cons, List.length_replicate, List.length_map, List.length_range]; omega) fun t ht => ?_
  have ht' : t < n + 1 := by rw [List.length_cons, List.length_replicate] at ht; omega
  unfold vone
  rw [vmk_at _ ht']
  cases t with
  | zero => rw [if_pos rfl, Int.emod_eq_of_lt (by decide) h2]; rfl
  | succ t =>
    rw [if_neg (by omega)]
    refine at0_of ?_
    rw [List.getElem?_cons_succ, List.getElem?_replicate, if_pos (by omega)]
    simp
/-! ### a field's product of numbers -/
def fmul (p : Int) (lo : List Int) (a b : Int) : Int := numb p (Mu p lo (figs p lo.length a) (figs p lo.length b))
def fpow (p : Int) (lo : List Int) (a : Int) (n : Nat) : Int := numb p (vpow p lo (figs p lo.length a) n)
section
variable {p : Int} {lo : List Int} (A : Fld p lo)
include A
theorem fmul_in (a b : Int) : 0 ≤ fmul p lo a b ∧ fmul p lo a b < p ^ lo.length := numb_in A.prm.pos (Mu_V A (figs_V A.prm _ a) (figs_V A.prm _ b))
theorem fpow_in (a : Int) (n : Nat) : 0 ≤ fpow p lo a n ∧ fpow p lo a n < p ^ lo.length := numb_in A.prm.pos (pow_V A (figs_V A.prm _ a) n)
theorem fmul_figs (a b : Int) : figs p lo.length (fmul p lo a b) = Mu p lo (figs p lo.length a) (figs p lo.length b) := figs_numb A.prm.pos (Mu_V A (figs_V A.prm _ a) (figs_V A.prm _ b))
theorem fpow_figs (a : Int) (n : Nat) : figs p lo.length (fpow p lo a n) = vpow p lo (figs p lo.length a) n := figs_numb A.prm.pos (pow_V A (figs_V A.prm _ a) n)
theorem fpow_succ (a : Int) (n : Nat) : fpow p lo a (n + 1) = fmul p lo (fpow p lo a n) a := by
  unfold fmul
  rw [fpow_figs A]; rfl
theorem fpow_zero (a : Int) : fpow p lo a 0 = 1 := by
  show numb p (vone p lo.length) = 1
  rw [← figs_1 A.prm A.two, numb_figs A.prm _ 1 (by decide)]
  obtain ⟨n, hn⟩ : ∃ n, lo.length = n + 1 := ⟨lo.length - 1, by have := A.one; omega⟩
  have : (1 : Int) ≤ p ^ n := Int.pow_pos A.prm.pos
  rw [hn, Int.pow_succ]
  calc (1 : Int) < 1 * p := by have := A.two; omega
    _ ≤ p ^ n * p := Int.mul_le_mul_of_nonneg_right this (Int.le_of_lt A.prm.pos)
theorem fpow_one {a : Int} (a0 : 0 ≤ a) (a1 : a < p ^ lo.length) : fpow p lo a 1 = a := by
  unfold fpow
  rw [pow_1 A (figs_V A.prm _ a), numb_figs A.prm _ a a0 a1]
theorem fmul_comm (a b : Int) : fmul p lo a b = fmul p lo b a := by unfold fmul; rw [Mu_comm A.prm]
theorem fmul_assoc (a b c : Int) : fmul p lo (fmul p lo a b) c = fmul p lo a (fmul p lo b c) := by
  unfold fmul
  rw [figs_numb A.prm.pos (Mu_V A (figs_V A.prm _ a) (figs_V A.prm _ b)), figs_numb A.prm.pos (Mu_V A (figs_V A.prm _ b) (figs_V A.prm _ c)), Mu_assoc A (figs_V A.prm _ a) (figs_V A.prm _ b) (figs_V A.prm _ c)]
theorem fpow_add (a : Int) (m n : Nat) : fpow p lo a (m + n) = fmul p lo (fpow p lo a m) (fpow p lo a n) := by
  unfold fmul
  rw [fpow_figs A, fpow_figs A, ← pow_add A (figs_V A.prm _ a)]; rfl
theorem fpow_mul (a : Int) (m n : Nat) : fpow p lo a (m * n) = fpow p lo (fpow p lo a m) n := by
  unfold fpow
  rw [figs_numb A.prm.pos (pow_V A (figs_V A.prm _ a) m), pow_mul A (figs_V A.prm _ a)]
theorem fpow_is1 (a : Int) (n : Nat) : fpow p lo a n = 1 ↔ vpow p lo (figs p lo.length a) n = vone p lo.length := by
  have e := fpow_zero A a
  refine ⟨fun h => ?_, fun h => ?_⟩
  · rw [← e] at h
    exact numb_inj A.prm.pos (pow_V A (figs_V A.prm _ a) n) (one_V A) h
  · unfold fpow
    rw [h]; exact e
theorem one_fpow (n : Nat) : fpow p lo 1 n = 1 := by
  rw [fpow_is1 A, figs_1 A.prm A.two, one_pow A]
end
theorem FF.fpow1 {P : Nat} {lo : List Int} (B : FF P lo) {a : Int} (a0 : 0 < a) (a1 : a < (P : Int) ^ lo.length) : fpow P lo a (P ^ lo.length - 1) = 1 := by
  rw [fpow_is1 B.A]
  refine B.unit (figs_V B.A.prm _ a) fun z => ?_
  rw [← figs_0 B.A.prm] at z
  have := figs_inj B.A.prm (Int.le_of_lt a0) a1 (Int.le_refl 0) (Int.pow_pos B.A.prm.pos) z
  omega
/-- numbers that are prime, by trying -/
theorem pri_of {P : Nat} (h2 : 2 ≤ P) (m : Nat) (hm : P < m * m) (h : ∀ d, 2 ≤ d → d < m → P % d ≠ 0) : Pri P := by
  refine ⟨h2, fun d hd => ?_⟩
  obtain ⟨e, rfl⟩ := hd
  by_cases d1 : d = 1
  · exact .inl d1
  by_cases e1 : e = 1
  · exact .inr (by rw [e1, Nat.mul_one])
  have d0 : d ≠ 0 := fun z => by rw [z, Nat.zero_mul] at h2; omega
  have e0 : e ≠ 0 := fun z => by rw [z, Nat.mul_zero] at h2; omega
  by_cases hd : d < m
  · exact absurd (Nat.mul_mod_right d e) (h d (by omega) hd)
  · by_cases he : e < m
    · exact absurd (by rw [Nat.mul_comm]; exact Nat.mul_mod_right e d) (h e (by omega) he)
    · exact absurd (Nat.mul_le_mul (Nat.le_of_not_lt hd) (Nat.le_of_not_lt he)) (by omega)
def priT (P m : Nat) : Bool := decide (2 ≤ P) && (decide (P < m * m) && (List.range m).all fun d => decide (d < 2) || P % d != 0)
theorem priT_ok {P m : Nat} (h : priT P m = true) : Pri P := by
  unfold priT at h
  rw [Bool.and_eq_true, Bool.and_eq_true] at h
  obtain ⟨a, b, c⟩ := h
  refine pri_of (of_decide_eq_true a) m (of_decide_eq_true b) fun d d2 dm => ?_
  have := List.all_eq_true.mp c d (List.mem_range.mpr dm)
  rw [Bool.or_eq_true] at this
  rcases this with q | q
  · exact absurd (of_decide_eq_true q) (by omega)
  · simpa using q
/-! ### the kernel's test of a field -/
def figT (p : Int) (lo : List Int) : Bool := decide (0 < p) && (decide (p < 1000000) && (decide (1 < p) && (lo.all (fun y => decide (0 ≤ y ∧ y < p)) && (decide (1 ≤ lo.length) && decide (lo.length ≤ 400)))))
theorem figT_ok {p : Int} {lo : List Int} (h : figT p lo = true) : Fld p lo := by
  unfold figT at h
  simp only [Bool.and_eq_true, decide_eq_true_eq] at h
  obtain ⟨a, b, c, d, e, f⟩ := h
  exact ⟨⟨a, b⟩, c, fun y hy => of_decide_eq_true (List.all_eq_true.mp d y hy), e, f⟩
def nthL (F : List (List Int)) (t : Nat) : List Int := F.getD t []
def frobT (P : Nat) (lo F1 : List Int) (F W : List (List Int)) : Bool :=
  decide (powW P lo 64 (vone P lo.length) (ev P lo 1) (P ^ lo.length : Nat) = ev P lo 1) && (decide (powW P lo 64 (vone P lo.length) (ev P lo 1) P = F1) && (decide (nthL F 0 = vone P lo.length) &&
    ((List.range lo.length).all (fun t => decide (lo.length ≤ t + 1) || decide (Mu P lo (nthL F t) F1 = nthL F (t + 1))) &&
     (List.range lo.length).all fun i => decide (i < 1) || (List.range lo.length).all fun t =>
       decide ((sm (fun j => at0 (nthL W i) (j : Nat) * (at0 (nthL F t) (j : Nat) - if j = t then 1 else 0)) lo.length - if i = t then 1 else 0) % (P : Int) = 0))))
theorem frobT_ok {P m : Nat} {lo F1 : List Int} {F W : List (List Int)} (h0 : figT P lo = true) (h1 : priT P m = true) (hq : P ^ lo.length < 2 ^ 64) (h : frobT P lo F1 F W = true) : FF P lo := by
  have A := figT_ok h0
  have hP := priT_ok h1
  unfold frobT at h
  simp only [Bool.and_eq_true, Bool.or_eq_true, decide_eq_true_eq, List.all_eq_true, List.mem_range] at h
  obtain ⟨a, b, c, d, e⟩ := h
  have hPq : P < 2 ^ 64 := Nat.lt_of_le_of_lt (by
    obtain ⟨n, hn⟩ : ∃ n, lo.length = n + 1 := ⟨lo.length - 1, by have := A.one; omega⟩
    rw [hn, Nat.pow_succ]
    exact Nat.le_mul_of_pos_left P (Nat.pow_pos (by have := hP.two; omega))) hq
  have k1 := powW_eq A 64 (P ^ lo.length) (one_V A) (ev_V A 1) hq
  have k2 := powW_eq A 64 P (one_V A) (ev_V A 1) hPq
  rw [one_Mu A (pow_V A (ev_V A 1) _)] at k1 k2
  rw [a] at k1
  rw [b] at k2
  have hF : ∀ t, t < lo.length → vpow P lo (ev P lo t) P = nthL F t := fun t => by
    have e1 : ∀ t, vpow P lo (ev P lo t) P = vpow P lo F1 t := fun t => by
      rw [k2, ← ev_pow A t, ← pow_mul A (ev_V A 1), Nat.mul_comm, pow_mul A (ev_V A 1)]
    rw [e1]
    induction t with
    | zero => exact fun _ => c.symm
    | succ t ih =>
      intro ht
      show Mu P lo (vpow P lo F1 t) F1 = _
      rw [ih (by omega)]
      rcases d t (by omega) with z | z
      · omega
      · exact z
  refine ⟨A, hP, fun x hx => pow_size A hP rfl k1.symm hx, fun x hx hf i h1 hi => fix_const A hP rfl (fun i j => at0 (nthL W i) (j : Nat)) (fun i h1 hi t ht => ?_) hx hf h1 hi⟩
  rcases e i hi with z | z
  · omega
  · have := z t ht
    rw [hF t ht]
    exact Int.dvd_of_emod_eq_zero this
end Ev
set_option maxHeartbeats 1000000
/-! Ev, part AH: bodies of fields' defs, over any callees. -/
namespace Ev
open PySem PySem.Spec PyProof.Rows L2
variable {c : Cfg}
theorem rem1_body {p : Int} {lo : List Int} (A : Fld p lo) :
    ∃ h', remB.den c [some (.int p), some (.tup (lo.map .int)), some (.lst [.int 1]), none, none, none, none, none, none] [] = .ret (.lst ((vone p lo.length).map .int)) h' := by
  have hN := LN_eq
  have k1 := A.one
  have k2 := A.few
  have e1 := pad_one A.two k1
  have a1 : -(LN : Int) ≤ (lo.length : Int) - 1 := by omega
  have a2 : (lo.length : Int) - 1 ≤ (LN : Int) := by omega
  have a3 : ((lo.length : Int) - 1).toNat = lo.length - 1 := by omega
  have a4 : lo.length - 1 ≤ LN := by omega
  have a6 : lo.length - 1 + 1 ≤ LN := by omega
  have nf : ∀ h, newL false (D.int 1 :: (List.replicate (lo.length - 1) (0 : Int)).map D.int) h = .ok (.ref h.length) (h ++ [.lst ((vone p lo.length).map .int)]) := fun h => by
    rw [← e1]
    exact new_cell (by rw [List.length_cons, List.length_map, List.length_replicate]; omega)
  have lv : (vone p lo.length).length = lo.length := (one_V A).len
  have hsl : sliceD true (.ref 0) none (some (lo.length : Int)) [.lst ((vone p lo.length).map D.int)] = .ok (.lst ((vone p lo.length).map .int)) [.lst ((vone p lo.length).map D.int)] := by
    show newL true (cutD ((vone p lo.length).map D.int) none (some (lo.length : Int))) _ = _
    rw [cut_all (by rw [List.length_map, lv]; exact Nat.le_refl _), new_fz (by rw [List.length_map, lv]; omega)]
  have a5 : -(LN : Int) ≤ (lo.length : Int) - 1 ∧ (lo.length : Int) - 1 ≤ (LN : Int) := by omega
  refine ⟨[.lst ((vone p lo.length).map .int)], ?_⟩
  unfold remB
  simp only [List.map_replicate] at nf
  simp [rep_zero, a1, a2, a3, new_fz, a4, nf, lv, forD, hsl]
/-! ### a power by squares -/
def raiL2 : Sms := .cons (.aug 3 .fdiv (.cint 2)) .nil
def raiL1 (iR iM : Nat) : Sms := .cons (.set 2 (.call iR (.cons (.var 0) (.cons (.var 1) (.cons (.call iM (.cons (.var 0) (.cons (.var 2) (.cons (.var 2) .nil)))) .nil))))) raiL2
def raiO (iR iM : Nat) : Sms := .cons (.set 4 (.call iR (.cons (.var 0) (.cons (.var 1) (.cons (.call iM (.cons (.var 0) (.cons (.var 4) (.cons (.var 2) .nil)))) .nil))))) .nil
def raiL0 (iR iM : Nat) : Sms := .cons (.ite (.cmp .eq (.bin .mod true (.var 3) (.cint 2)) (.cint 1)) (raiO iR iM) .nil) (raiL1 iR iM)
def raiB2 : Sms := .cons (.ret (.var 4)) .nil
def raiB1 (iR iM : Nat) : Sms := .cons (.while (.cmp .gt (.var 3) (.cint 0)) (raiL0 iR iM)) raiB2
def raiB (iR iM : Nat) : Sms := .cons (.set 4 (.call iR (.cons (.var 0) (.cons (.var 1) (.cons (.lst true (.cons (.cint 1) .nil)) .nil))))) (raiB1 iR iM)
abbrev raiE (p : Int) (lo f g : List Int) (s : Nat) : Env := [some (.int p), some (.tup (lo.map .int)), some (.lst (g.map .int)), some (.int (s : Nat)), some (.lst (f.map .int))]
structure RaiP (p : Int) (lo goal : List Int) (m : Nat) (ρ : Env) (h : Hs) : Prop where
  ex : ∃ (f g : List Int), ρ = raiE p lo f g m ∧ h = [] ∧ Vc p lo.length f ∧ Vc p lo.length g ∧ Mu p lo f (vpow p lo g m) = goal
theorem rai_body {p : Int} {lo : List Int} (A : Fld p lo) {x : List Int} (hx : Vc p lo.length x) (t : Nat) (ht : t < c.F) {iR iM : Nat}
    (h1 : ∀ h, c.Γ iR [.int p, .tup (lo.map .int), .lst [.int 1]] h = .ok (.lst ((vone p lo.length).map .int)) h)
    (hm : ∀ x y, Vc p lo.length x → Vc p lo.length y → ∀ h, c.Γ iM [.int p, .lst (x.map .int), .lst (y.map .int)] h = .ok (.lst ((mulL p x y).map .int)) h)
    (hr : ∀ x y, Vc p lo.length x → Vc p lo.length y → ∀ h, c.Γ iR [.int p, .tup (lo.map .int), .lst ((mulL p x y).map .int)] h = .ok (.lst ((Mu p lo x y).map .int)) h) :
    ∃ h', (raiB iR iM).den c [some (.int p), some (.tup (lo.map .int)), some (.lst (x.map .int)), some (.int (t : Nat)), none] [] = .ret (.lst ((vpow p lo x t).map .int)) h' := by
  obtain ⟨ρ', h', e, f, g, rfl, rfl, vf, vg, q⟩ := whileD_rel (c := (Ex.dt c (.cmp .gt (.var 3) (.cint 0))).2) (b := Sms.den c (raiL0 iR iM)) (RaiP p lo (vpow p lo x t)) c.F t (raiE p lo (vone p lo.length) x t) [] ht
    ⟨⟨vone p lo.length, x, rfl, rfl, one_V A, hx, one_Mu A (pow_V A hx t)⟩⟩ (fun m ρ h ⟨f, g, e1, e2, vf, vg, q⟩ => by
      subst e1 e2
      by_cases hm0 : m = 0
      · refine .inl ⟨[], ?_, rfl, hm0⟩
        subst hm0
        simp [raiE]
      · have hpos : (0 : Int) < (m : Nat) := by omega
        have hd : ((m : Nat) : Int) / 2 = ((m / 2 : Nat) : Int) := by omega
        have e2 : vpow p lo (Mu p lo g g) (m / 2) = vpow p lo g (2 * (m / 2)) := by
          rw [pow_mul A vg]
          congr 1
          show _ = Mu p lo (vpow p lo g 1) g
          rw [pow_1 A vg]
        have m1 := hm g g vg vg
        have r1 := hr g g vg vg
        by_cases ho : ((m : Nat) : Int) % 2 = 1
        · have m2 := hm f g vf vg
          have r2 := hr f g vf vg
          refine .inr ⟨[], raiE p lo (Mu p lo f g) (Mu p lo g g) (m / 2), [], m / 2, by simp [raiE]; omega, .inl ?_, by omega, ⟨⟨_, _, rfl, rfl, Mu_V A vf vg, Mu_V A vg vg, ?_⟩⟩⟩
          · unfold raiL0
            simp [raiE, bin_mod, ho]
            unfold raiO
            simp [m2, r2]
            unfold raiL1
            simp [m1, r1]
            unfold raiL2
            simp [aug_fdiv]
          · rw [e2, Mu_assoc A vf vg (pow_V A vg _), ← q]
            congr 1
            rw [show m = 1 + 2 * (m / 2) from by omega, pow_add A vg, pow_1 A vg, show (1 + 2 * (m / 2)) / 2 = m / 2 from by omega]
        · refine .inr ⟨[], raiE p lo f (Mu p lo g g) (m / 2), [], m / 2, by simp [raiE]; omega, .inl ?_, by omega, ⟨⟨_, _, rfl, rfl, vf, Mu_V A vg vg, ?_⟩⟩⟩
          · unfold raiL0
            simp [raiE, bin_mod, ho]
            unfold raiL1
            simp [m1, r1]
            unfold raiL2
            simp [aug_fdiv]
          · rw [e2, ← q]
            congr 2
            omega)
  have q' : f = vpow p lo x t := by rw [← q]; exact (Mu_one A vf).symm
  subst q'
  refine ⟨[], ?_⟩
  unfold raiB
  simp [h1]
  unfold raiB1
  simp only [raiE] at e
  simp
  rw [e]
  unfold raiB2
  simp
/-! ### sizes -/
def sizL : Sms := .cons (.aug 2 .mul (.var 0)) .nil
def sizB2 : Sms := .cons (.ret (.var 2)) .nil
def sizB : Sms := .cons (.set 2 (.cint 1)) (.cons (.for (.name 3) (.range (.cons (.var 1) .nil)) sizL) sizB2)
def lszL : Sms := .cons (.set 2 (.bin .mul true (.var 2) (.var 0))) .nil
def lszB : Sms := .cons (.set 2 (.cint 1)) (.cons (.for (.name 3) (.range (.cons (.var 1) .nil)) lszL) sizB2)
theorem siz_any {L : Sms} {p : Int} (hp : Prm p) (k : Nat) (hk : k ≤ 400) (hL : ∀ (s : Int) (t : Option D), L.den c [some (.int p), some (.int k), some (.int s), t] [] = .nx [some (.int p), some (.int k), some (.int (s * p)), t] []) :
    ∃ h', (Sms.cons (.set 2 (.cint 1)) (.cons (.for (.name 3) (.range (.cons (.var 1) .nil)) L) sizB2)).den c [some (.int p), some (.int k), none, none] [] = .ret (.int (p ^ k)) h' := by
  obtain ⟨ρ', h', e, t, rfl, rfl⟩ := for_rng (c := c) (b := L.den c) (i := 3) k (fun j ρ h => ∃ t : Option D, ρ = [some (.int p), some (.int k), some (.int (p ^ j)), t] ∧ h = [])
    (ρ := [some (.int p), some (.int k), some (.int 1), none]) (h := []) ⟨none, by rw [Int.pow_zero], rfl⟩ (fun j ρ h hj ⟨t, e1, e2⟩ => by
      subst e1 e2
      exact ⟨by simp, _, _, hL (p ^ j) _, ⟨_, by rw [Int.pow_succ], rfl⟩⟩)
  have hm : -(LN : Int) ≤ (k : Int) ∧ (k : Int) ≤ (LN : Int) := by rw [LN_eq]; omega
  refine ⟨[], ?_⟩
  simp [hm]
  rw [e]
  unfold sizB2
  simp
theorem siz_body {p : Int} (hp : Prm p) (k : Nat) (hk : k ≤ 400) : ∃ h', sizB.den c [some (.int p), some (.int k), none, none] [] = .ret (.int (p ^ k)) h' := by
  obtain ⟨hp0, hp1⟩ := id hp
  have q1 : -18446744073709551616 < p := by omega
  have q2 : p < 18446744073709551616 := by omega
  exact siz_any hp k hk fun s t => by
    unfold sizL
    simp [aug_mul, q1, q2]
theorem lsz_body {p : Int} (hp : Prm p) (k : Nat) (hk : k ≤ 400) : ∃ h', lszB.den c [some (.int p), some (.int k), none, none] [] = .ret (.int (p ^ k)) h' := by
  obtain ⟨hp0, hp1⟩ := id hp
  have q1 : -18446744073709551616 < p := by omega
  have q2 : p < 18446744073709551616 := by omega
  exact siz_any hp k hk fun s t => by
    unfold lszL
    simp [bin_mul, q1, q2]
/-! ### primes by trying -/
def iprL1 : Sms := .cons (.aug 1 .add (.cint 1)) .nil
def iprF : Sms := .cons (.ret (.cbl false)) .nil
def iprL : Sms := .cons (.ite (.cmp .eq (.bin .mod true (.var 0) (.var 1)) (.cint 0)) iprF .nil) iprL1
def iprB2 : Sms := .cons (.ret (.cmp .gt (.var 0) (.cint 1))) .nil
def iprB : Sms := .cons (.set 1 (.cint 2)) (.cons (.while (.cmp .le (.bin .mul true (.var 1) (.var 1)) (.var 0)) iprL) iprB2)
theorem ipr_body {P : Nat} (hP : Pri P) {p : Int} (hp : p = P) (hb : p < 1000000) (hF : P + 2 < c.F) : ∃ h', iprB.den c [some (.int p), none] [] = .ret (.bl true) h' := by
  have h2 := hP.two
  obtain ⟨ρ', h', e, d, rfl, rfl, _⟩ := whileD_rel (c := (Ex.dt c (.cmp .le (.bin .mul true (.var 1) (.var 1)) (.var 0))).2) (b := Sms.den c iprL) (fun m ρ h => ∃ d : Int, ρ = [some (.int p), some (.int d)] ∧ h = [] ∧ 2 ≤ d ∧ d ≤ p + 1 ∧ m = if d * d ≤ p then (p + 1 - d).toNat else 0)
    c.F (if (2 : Int) * 2 ≤ p then (p + 1 - 2).toNat else 0) [some (.int p), some (.int 2)] [] (by split <;> omega) ⟨2, rfl, rfl, by omega, by omega, rfl⟩ (fun m ρ h ⟨d, e1, e2, d2, d3, hm⟩ => by
      subst e1 e2
      obtain ⟨w, hw⟩ : ∃ w : Int, w = d * d := ⟨_, rfl⟩
      have bm : ∀ h, binD .mul true (.int d) (.int d) h = .ok (.int w) h := fun h => by rw [hw]; exact bin_mul (.inl ⟨by omega, by omega⟩)
      by_cases hc : d * d ≤ p
      · rw [if_pos hc] at hm
        have hlt : d < p := by
          have : 2 * d ≤ d * d := Int.mul_le_mul_of_nonneg_right d2 (by omega)
          omega
        have hdv : ¬(p % d = 0) := fun z => by
          obtain ⟨n, rfl⟩ : ∃ n : Nat, d = n := ⟨d.toNat, by omega⟩
          rw [hp] at z
          have : n ∣ P := Int.ofNat_dvd.mp (Int.dvd_of_emod_eq_zero z)
          rcases hP.dv n this with q | q <;> omega
        have hc' : w ≤ p := by rw [hw]; exact hc
        refine .inr ⟨[], [some (.int p), some (.int (d + 1))], [], if (d + 1) * (d + 1) ≤ p then (p + 1 - (d + 1)).toNat else 0, ?_, .inl ?_, by split <;> omega, ⟨d + 1, rfl, rfl, by omega, by omega, rfl⟩⟩
        · simp [bm, hc']
        · have q3 : ∀ h, binD .mod true (.int p) (.int d) h = .ok (.int (p % d)) h := fun h => bin_mod (by omega)
          have q4 : p % d ≠ 0 := hdv
          generalize p % d = w at q3 q4
          unfold iprL
          simp [q3, q4]
          unfold iprL1
          simp
      · rw [if_neg hc] at hm
        refine .inl ⟨[], ?_, rfl, hm⟩
        have hc' : ¬w ≤ p := by rw [hw]; exact hc
        simp [bm, hc'])
  refine ⟨[], ?_⟩
  unfold iprB
  simp
  rw [e]
  have q : (1 : Int) < p := by omega
  unfold iprB2
  simp [q]
/-! ### drawn elements, small fields -/
def eltL : Sms := .cons (.set 3 (.bin .add true (.bin .mul true (.var 3) (.cint 1009)) (.idx (.var 0) (.bin .add true (.var 1) (.var 4))))) .nil
def eltB2 : Sms := .cons (.ret (.bin .mod true (.prim .intOf true (.cons (.var 3) .nil)) (.var 2))) .nil
def eltB : Sms := .cons (.set 3 (.cint 0)) (.cons (.for (.name 4) (.range (.cons (.cint 6) .nil)) eltL) eltB2)
theorem elt_body {ks : List Int} {at' size : Int} (h0 : 0 ≤ at') (h1 : at' + 6 ≤ ks.length) (hs : 0 < size) : ∃ a, 0 ≤ a ∧ a < size ∧ ∃ h', eltB.den c [some (.lst (ks.map .int)), some (.int at'), some (.int size), none, none] [] = .ret (.int a) h' := by
  obtain ⟨ρ', h', e, t, u, rfl, rfl⟩ := for_rng (c := c) (b := Sms.den c eltL) (i := 4) 6 (fun j ρ h => ∃ (t : Int) (u : Option D), ρ = [some (.lst (ks.map .int)), some (.int at'), some (.int size), some (.int t), u] ∧ h = [])
    (ρ := [some (.lst (ks.map .int)), some (.int at'), some (.int size), some (.int 0), none]) (h := []) ⟨0, none, rfl, rfl⟩ (fun j ρ h hj ⟨t, u, e1, e2⟩ => by
      subst e1 e2
      refine ⟨by simp, [some (.lst (ks.map .int)), some (.int at'), some (.int size), some (.int (t * 1009 + at0 ks (at' + j))), some (.int j)], [], ?_, ⟨_, _, rfl, rfl⟩⟩
      have q := idx_l (xs := ks) (k := at' + j) (h := []) (by omega) (by omega)
      unfold eltL
      simp [bin_mul, q])
  refine ⟨t % size, Int.emod_nonneg _ (by omega), Int.emod_lt_of_pos _ hs, [], ?_⟩
  have m : -(LN : Int) ≤ 6 ∧ (6 : Int) ≤ LN := by rw [LN_eq]; decide
  unfold eltB
  simp [m]
  rw [e]
  unfold eltB2
  simp [bin_mod, hs]
def sfl : List (Int × Int) := [(2, 1), (2, 2), (2, 3), (3, 2), (2, 4), (5, 2), (3, 3), (7, 1), (2, 5), (7, 2), (11, 1), (3, 4), (13, 2), (2, 6), (5, 3), (97, 1)]
def prD (q : Int × Int) : D := .tup [.int q.1, .int q.2]
/-- a written table of pairs, read at a place -/
theorem tab_at {T : List (Int × Int)} {j : Nat} (hj : j < T.length) (h : Hs) : idxD (.lst (T.map prD)) (.int (j : Nat)) h = .ok (prD (T[j]'hj)) h := by
  show (match atI (T.map prD) (j : Int) with | some v => Ev.R.ok v h | none => .stuck) = _
  have e : atI (T.map prD) (j : Int) = some (prD (T[j]'hj)) := by
    unfold atI
    rw [List.length_map, ix_ok (by omega) (by omega)]
    show (T.map prD)[((j : Nat) : Int).toNat]? = _
    rw [Int.toNat_natCast, List.getElem?_map, List.getElem?_eq_getElem hj]
    rfl
  rw [e]
def exD (q : Int × Int) : Ex := .tup (.cons (.cint q.1) (.cons (.cint q.2) .nil))
def exsD : List (Int × Int) → Exs
  | [] => .nil
  | q :: qs => .cons (exD q) (exsD qs)
theorem exsD_den (ρ : Env) (h : Hs) : ∀ T : List (Int × Int), (exsD T).den c ρ h = .ok (T.map prD) h
  | [] => rfl
  | q :: qs => by
    have l2 : 2 ≤ LN := by rw [LN_eq]; decide
    show (Exs.cons (exD q) (exsD qs)).den c ρ h = _
    rw [dens_cons]
    unfold exD
    simp [l2, exsD_den ρ h qs]
    rfl
def sflB2 : Sms := .cons (.ret (.idx (.var 2) (.bin .mod true (.prim .intOf true (.cons (.idx (.var 0) (.var 1)) .nil)) (.cint 16)))) .nil
def sflB : Sms := .cons (.set 2 (.lst true (exsD sfl))) sflB2
theorem sfl_body {ks : List Int} (h1 : 1 ≤ ks.length) : ∃ q ∈ sfl, (prD q).pure = true ∧ ∃ h', sflB.den c [some (.lst (ks.map .int)), some (.int 0), none] [] = .ret (prD q) h' := by
  obtain ⟨j, hj⟩ : ∃ j : Nat, at0 ks 0 % 16 = (j : Int) := ⟨(at0 ks 0 % 16).toNat, (Int.toNat_of_nonneg (Int.emod_nonneg _ (by omega))).symm⟩
  have hj16 : j < sfl.length := by have := Int.emod_lt_of_pos (at0 ks 0) (b := 16) (by omega); show j < 16; omega
  refine ⟨sfl[j]'hj16, List.getElem_mem _, rfl, [], ?_⟩
  have q := idx_l (xs := ks) (k := 0) (h := []) (by omega) (by omega)
  have nf : ∀ h, newL true (sfl.map prD) h = .ok (.lst (sfl.map prD)) h := fun h => new_fz (by rw [LN_eq]; decide)
  unfold sflB
  simp [exsD_den, nf]
  unfold sflB2
  simp [q, bin_mod, hj, tab_at hj16]
end Ev
set_option maxHeartbeats 1000000
/-! Ev, part AI: loops that end early; orders of elements. -/
namespace Ev
open PySem PySem.Spec PyProof.Rows L2
/-- what a loop makes of a turn's end -/
def Out.done : Out → Option Out
  | .ret d h => some (.ret d h)
  | .brk ρ h => some (.nx ρ h)
  | .exc x p ρ h => some (.exc x p ρ h)
  | _ => none
/-- a loop that ends at item J -/
theorem forD_stop {g : D → Env → Hs → Out} {b : Env → Hs → Out} (R : Nat → Env → Hs → Prop) (F : Out → Prop) {x : D} : ∀ (xs : List D) (J i : Nat) (ρ : Env) (h : Hs), xs[J]? = some x → R i ρ h →
    (∀ j y ρ h, j < J → xs[j]? = some y → R (i + j) ρ h → ∃ ρ1 h1 ρ' h', g y ρ h = .nx ρ1 h1 ∧ (b ρ1 h1 = .nx ρ' h' ∨ b ρ1 h1 = .cnt ρ' h') ∧ R (i + j + 1) ρ' h') →
    (∀ ρ h, R (i + J) ρ h → ∃ ρ1 h1 o, g x ρ h = .nx ρ1 h1 ∧ (b ρ1 h1).done = some o ∧ F o) → ∃ o, forD g b xs ρ h = o ∧ F o
  | [], J, _, _, _, hx, _, _, _ => by cases hx
  | y :: xs, 0, i, ρ, h, hx, r, _, hf => by
    cases hx
    obtain ⟨ρ1, h1, o, e1, e2, f⟩ := hf ρ h r
    refine ⟨o, ?_, f⟩
    unfold forD
    rw [e1]
    dsimp only
    cases q : b ρ1 h1 with
    | nx _ _ => rw [q] at e2; cases e2
    | cnt _ _ => rw [q] at e2; cases e2
    | stuck => rw [q] at e2; cases e2
    | ret d h => rw [q] at e2; cases e2; rfl
    | brk d h => rw [q] at e2; cases e2; rfl
    | exc _ _ _ _ => rw [q] at e2; cases e2; rfl
  | y :: xs, J + 1, i, ρ, h, hx, r, hs, hf => by
    obtain ⟨ρ1, h1, ρ2, h2, e1, e2, r2⟩ := hs 0 y ρ h (by omega) rfl r
    obtain ⟨o, e, f⟩ := forD_stop (g := g) (b := b) R F xs J (i + 1) ρ2 h2 (by simpa using hx) r2 (fun j z ρ h hj hz hr => by
      have := hs (j + 1) z ρ h (by omega) (by simpa using hz) (by rw [show i + (j + 1) = i + 1 + j from by omega]; exact hr)
      rw [show i + (j + 1) = i + 1 + j from by omega] at this
      exact this) (fun ρ h hr => hf ρ h (by rw [show i + (J + 1) = i + 1 + J from by omega]; exact hr))
    refine ⟨o, ?_, f⟩
    unfold forD
    rw [e1]
    rcases e2 with e2 | e2
    · simp only [e2]; exact e
    · simp only [e2]; exact e
/-- a range from a on -/
def rngL (a n : Nat) : List D := (List.range n).map fun k => D.int ((a : Int) + (k : Nat))
theorem rng_at {a n j : Nat} (h : j < n) : ((List.range n).map fun k => D.int ((a : Int) + (k : Nat)))[j]? = some (.int ((a : Int) + (j : Nat))) := by
  rw [List.getElem?_map, List.getElem?_range h]; rfl
/-! ### texts of numbers -/
theorem log_small {i : Int} (h0 : 0 ≤ i) (h1 : i < 1000000) : i.natAbs.log2 < 21 := by
  obtain ⟨n, rfl⟩ : ∃ n : Nat, i = n := ⟨i.toNat, by omega⟩
  rw [Int.natAbs_natCast]
  by_cases hn : n = 0
  · subst hn; decide
  · rw [Nat.log2_lt hn]
    omega
theorem pr_repr {fz : Bool} {i : Int} {h : Hs} (h0 : 0 ≤ i) (h1 : i < 1000000) : primD .repr fz [.int i] h = .ok (.str (toString i)) h := by
  have l := log_small h0 h1
  have e : (PyData.int i).shown = Str.ofString (toString i) := by simp only [PyData.shown]
  refine (if_pos ⟨by simp only [PyData.hasDict], by simp only [PyData.showable]; exact decide_eq_true (by omega), by simp [PyData.depth], ?_⟩).trans (by rw [e])
  rw [e, PySem.ofString_length]
  have := int_text_length_le (a := i) (k := 21) (by decide) l
  rw [LN_eq]
  omega
theorem pr_reprN {fz : Bool} {h : Hs} : primD .repr fz [.non] h = .ok (.str "None") h := by
  have e : PyData.none.shown = Str.ofString "None" := by simp only [PyData.shown]
  show (if PyData.none.hasDict = false ∧ PyData.none.showable = true ∧ PyData.none.depth ≤ 64 ∧ PyData.none.shown.length ≤ LN then R.ok (D.str PyData.none.shown) h else .stuck) = _
  rw [if_pos ⟨by simp only [PyData.hasDict], by simp only [PyData.showable], by simp [PyData.depth], by rw [e, LN_eq]; decide⟩, e]
theorem cmp_eqS {a b : Str} {h : Hs} : cmpD .eq (.str a) (.str b) h = .ok (.bl (a == b)) h := rfl
theorem cmp_neS {a b : Str} {h : Hs} : cmpD .ne (.str a) (.str b) h = .ok (.bl (!(a == b))) h := rfl
/-- one text twice -/
theorem cmp_same (x : Str) (h : Hs) : cmpD .eq (.str x) (.str x) h = .ok (.bl true) h := by
  rw [cmp_eqS]
  simp
theorem cmp_nsame (x : Str) (h : Hs) : cmpD .ne (.str x) (.str x) h = .ok (.bl false) h := by
  rw [cmp_neS]
  simp
/-! ### the order of an element -/
theorem least {Q : Nat → Prop} : ∀ {n : Nat}, Q n → ∃ m, Q m ∧ ∀ k, k < m → ¬Q k := fun {n} => by
  induction n using Nat.strongRecOn with
  | _ n ih =>
    intro h
    by_cases e : ∃ k, k < n ∧ Q k
    · obtain ⟨k, hk, q⟩ := e
      exact ih k hk q
    · exact ⟨n, h, fun k hk q => e ⟨k, hk, q⟩⟩
/-- T is the first number of times at which 1 is met -/
structure Ord (p : Int) (lo : List Int) (a : Int) (T : Nat) : Prop where
  pos : 0 < T
  one : fpow p lo a T = 1
  first : ∀ m, 0 < m → m < T → fpow p lo a m ≠ 1
section
variable {p : Int} {lo : List Int} (A : Fld p lo)
include A
theorem Ord.dvd {a : Int} {T : Nat} (O : Ord p lo a T) {m : Nat} : fpow p lo a m = 1 ↔ T ∣ m := by
  have key : fpow p lo a m = fpow p lo a (m % T) := by
    rw [show m = T * (m / T) + m % T from (Nat.div_add_mod m T).symm, fpow_add A, fpow_mul A, O.one, one_fpow A]
    have := fpow_figs A a ((T * (m / T) + m % T) % T)
    rw [Nat.mul_add_mod, Nat.mod_mod]
    unfold fmul
    rw [figs_1 A.prm A.two, fpow_figs A, one_Mu A (pow_V A (figs_V A.prm _ a) _)]
    rfl
  rw [key]
  refine ⟨fun h => ?_, fun h => ?_⟩
  · refine Nat.dvd_of_mod_eq_zero (Classical.byContradiction fun z => ?_)
    exact O.first _ (Nat.pos_of_ne_zero z) (Nat.mod_lt _ O.pos) h
  · rw [Nat.mod_eq_zero_of_dvd h]; exact fpow_zero A a
omit A in
theorem Ord.uniq {a : Int} {S T : Nat} (O : Ord p lo a S) (Q : Ord p lo a T) : S = T := by
  rcases Nat.lt_trichotomy S T with h | h | h
  · exact absurd O.one (Q.first S O.pos h)
  · exact h
  · exact absurd Q.one (O.first T Q.pos h)
omit A in
theorem ord_ex {a : Int} {n : Nat} (h0 : 0 < n) (h : fpow p lo a n = 1) : ∃ T, Ord p lo a T := by
  obtain ⟨m, hm, hf⟩ := least (Q := fun n => 0 < n ∧ fpow p lo a n = 1) (n := n) ⟨h0, h⟩
  exact ⟨m, hm.1, hm.2, fun k k0 hk e => hf k hk ⟨k0, e⟩⟩
end
/-- what the program's loop over prime divisors keeps -/
structure OrdG (p : Int) (lo : List Int) (a : Int) (T : Nat) (N o : Int) : Prop where
  pos : 0 < o
  up : (T : Int) ∣ o
  dn : o ∣ N
def OrdQ (p : Int) (lo : List Int) (a q o : Int) : Prop := o % q = 0 ∧ fpow p lo a (o / q).toNat = 1
section
variable {p : Int} {lo : List Int} (A : Fld p lo) {a : Int} {T : Nat} (O : Ord p lo a T) {N : Int}
include A O
theorem OrdG.div {o q : Int} (g : OrdG p lo a T N o) (hq : 0 < q) (h : OrdQ p lo a q o) : OrdG p lo a T N (o / q) := by
  obtain ⟨h1, h2⟩ := h
  have d : q ∣ o := Int.dvd_of_emod_eq_zero h1
  obtain ⟨e, rfl⟩ := d
  have gp := g.pos
  rw [Int.mul_ediv_cancel_left _ (by omega)] at h2 ⊢
  have ep : 0 < e := Int.pos_of_mul_pos_right gp hq
  refine ⟨ep, ?_, Int.dvd_trans (Int.dvd_mul_left _ _) g.dn⟩
  have := (O.dvd A).mp h2
  rw [← Int.toNat_of_nonneg (Int.le_of_lt ep)]
  exact Int.ofNat_dvd.mpr this
theorem OrdQ.up {o o' q : Int} (hq : 0 < q) (ho : 0 < o) (ho' : 0 < o') (d : o' ∣ o) (h : OrdQ p lo a q o') : OrdQ p lo a q o := by
  obtain ⟨h1, h2⟩ := h
  obtain ⟨e, rfl⟩ := Int.dvd_of_emod_eq_zero h1
  obtain ⟨f, rfl⟩ := d
  have ep : 0 < e := Int.pos_of_mul_pos_right ho' hq
  have fp : 0 < f := Int.pos_of_mul_pos_right ho ho'
  rw [Int.mul_ediv_cancel_left _ (by omega)] at h2
  refine ⟨by rw [Int.mul_assoc]; exact Int.mul_emod_right _ _, ?_⟩
  rw [Int.mul_assoc, Int.mul_ediv_cancel_left _ (by omega), Int.toNat_mul (Int.le_of_lt ep) (Int.le_of_lt fp), fpow_mul A, h2, one_fpow A]
theorem ord_end {ds : List Int} {o : Int} (hd : ∀ t : Int, 1 < t → t ∣ N → ∃ q ∈ ds, q ∣ t) (hp : ∀ q ∈ ds, 0 < q) (g : OrdG p lo a T N o) (h : ∀ q ∈ ds, ¬OrdQ p lo a q o) : o = T := by
  obtain ⟨t, ht⟩ := g.up
  have tp : 0 < t := Int.pos_of_mul_pos_right (ht ▸ g.pos) (by have := O.pos; omega)
  by_cases h1 : 1 < t
  · obtain ⟨q, hq, e, he⟩ := hd t h1 (Int.dvd_trans ⟨(T : Int), by rw [ht, Int.mul_comm]⟩ g.dn)
    have qp := hp q hq
    refine absurd ?_ (h q hq)
    have e1 : o = q * (T * e) := by rw [ht, he]; simp only [Int.mul_left_comm]
    have ep : 0 < e := Int.pos_of_mul_pos_right (he ▸ tp) qp
    refine ⟨by rw [e1]; exact Int.mul_emod_right _ _, ?_⟩
    rw [e1, Int.mul_ediv_cancel_left _ (by omega), (O.dvd A), Int.toNat_mul (by omega) (by omega), Int.toNat_natCast]
    exact Nat.dvd_mul_right _ _
  · have : t = 1 := by omega
    rw [ht, this, Int.mul_one]
end
/-- the prime divisors, by trying -/
def divT (N : Nat) (ds : List Int) : Bool := (List.range (N + 1)).all (fun t => decide (t < 2) || (N % t != 0 || ds.any fun q => decide (((t : Nat) : Int) % q = 0))) && ds.all fun q => decide (1 < q ∧ q < 1073741824)
theorem divT_ok {N : Nat} {ds : List Int} (hN : 0 < N) (h : divT N ds = true) : (∀ t : Int, 1 < t → t ∣ (N : Int) → ∃ q ∈ ds, q ∣ t) ∧ ∀ q ∈ ds, 1 < q ∧ q < 1073741824 := by
  unfold divT at h
  rw [Bool.and_eq_true] at h
  refine ⟨fun t t1 d => ?_, fun q hq => of_decide_eq_true (List.all_eq_true.mp h.2 q hq)⟩
  obtain ⟨n, rfl⟩ : ∃ n : Nat, t = n := ⟨t.toNat, by omega⟩
  have d' : n ∣ N := Int.ofNat_dvd.mp d
  have := List.all_eq_true.mp h.1 n (List.mem_range.mpr (by have := Nat.le_of_dvd hN d'; omega))
  simp only [Bool.or_eq_true, decide_eq_true_eq, bne_iff_ne, ne_eq, List.any_eq_true] at this
  rcases this with q | q | ⟨q, hq, e⟩
  · omega
  · exact absurd (Nat.mod_eq_zero_of_dvd d') q
  · exact ⟨q, hq, Int.dvd_of_emod_eq_zero e⟩
end Ev
set_option maxHeartbeats 1000000
/-! Ev, part AJ: squares and roots in a field. -/
namespace Ev
open PySem PySem.Spec PyProof.Rows L2
/-- a number's opposite -/
def fneg (p : Int) (k : Nat) (r : Int) : Int := numb p ((List.range k).map (dg (· - ·) p 0 r))
theorem dgs_sub {p : Int} (hp : Prm p) (k : Nat) (a b : Int) : (List.range k).map (dg (· - ·) p a b) = vsub p k (figs p k a) (figs p k b) := by
  unfold vsub vmk
  refine List.map_congr_left fun j hj => ?_
  have hj' := List.mem_range.mp hj
  have ea : at0 (figs p k a) (j : Nat) = a / p ^ j % p := at0_of (by unfold figs; rw [List.getElem?_map, List.getElem?_range hj']; rfl)
  have eb : at0 (figs p k b) (j : Nat) = b / p ^ j % p := at0_of (by unfold figs; rw [List.getElem?_map, List.getElem?_range hj']; rfl)
  show dg (· - ·) p a b j = (at0 (figs p k a) (j : Nat) - at0 (figs p k b) (j : Nat)) % p
  rw [ea, eb]
  exact Int.sub_emod _ _ _
section
variable {p : Int} {lo : List Int} (A : Fld p lo)
include A
theorem Mu_sub {x y z : List Int} (hx : Vc p lo.length x) (hy : Vc p lo.length y) (hz : Vc p lo.length z) : Mu p lo x (vsub p lo.length y z) = vsub p lo.length (Mu p lo x y) (Mu p lo x z) := by
  have e : vadd p lo.length (vsub p lo.length y z) z = y := by
    refine Vc.ext (add_V A _ _) hy fun i hi => (vmk_cg _ hi).trans ?_
    refine (Cg.add (vmk_cg _ hi) .rfl).trans (Cg.of ?_)
    omega
  have h := Mu_add A hx (sub_V A y z) hz
  rw [e] at h
  refine Vc.ext (Mu_V A hx (sub_V A y z)) (sub_V A _ _) fun i hi => Cg.trans ?_ (vmk_cg _ hi).symm
  have := vmk_cg (p := p) (fun i => at0 (Mu p lo x (vsub p lo.length y z)) (i : Nat) + at0 (Mu p lo x z) (i : Nat)) hi
  have h2 : Cg p (at0 (Mu p lo x y) (i : Nat)) (at0 (Mu p lo x (vsub p lo.length y z)) (i : Nat) + at0 (Mu p lo x z) (i : Nat)) := by rw [h]; exact this
  refine Cg.trans (Cg.of ?_) (Cg.sub h2.symm .rfl)
  omega
theorem fneg_in (r : Int) : 0 ≤ fneg p lo.length r ∧ fneg p lo.length r < p ^ lo.length := by
  unfold fneg; rw [dgs_sub A.prm]; exact numb_in A.prm.pos (sub_V A _ _)
theorem fneg_figs (r : Int) : figs p lo.length (fneg p lo.length r) = vsub p lo.length (vzero p lo.length) (figs p lo.length r) := by
  unfold fneg; rw [dgs_sub A.prm, figs_0 A.prm]; exact figs_numb A.prm.pos (sub_V A _ _)
theorem fpow_fmul (x y : Int) (n : Nat) : fpow p lo (fmul p lo x y) n = fmul p lo (fpow p lo x n) (fpow p lo y n) := by
  unfold fpow
  rw [fmul_figs A, mul_pow A (figs_V A.prm _ x) (figs_V A.prm _ y)]
  unfold fmul
  rw [figs_numb A.prm.pos (pow_V A (figs_V A.prm _ x) n), figs_numb A.prm.pos (pow_V A (figs_V A.prm _ y) n)]
theorem fmul_1 {x : Int} (x0 : 0 ≤ x) (x1 : x < p ^ lo.length) : fmul p lo 1 x = x := by
  unfold fmul
  rw [figs_1 A.prm A.two, one_Mu A (figs_V A.prm _ x), numb_figs A.prm _ x x0 x1]
theorem fpow_sq (x : Int) : fpow p lo x 2 = fmul p lo (fpow p lo x 1) (fpow p lo x 1) := fpow_add A x 1 1
theorem fpow_2 {x : Int} (x0 : 0 ≤ x) (x1 : x < p ^ lo.length) : fpow p lo x 2 = fmul p lo x x := by rw [fpow_sq A, fpow_one A x0 x1]
omit A in
theorem fmul_eq_vec {A : Fld p lo} {a b c d : Int} (h : fmul p lo a b = fmul p lo c d) : Mu p lo (figs p lo.length a) (figs p lo.length b) = Mu p lo (figs p lo.length c) (figs p lo.length d) := by
  rw [← fmul_figs A, h, fmul_figs A]
end
section
variable {P : Nat} {lo : List Int} (B : FF P lo)
include B
/-- equal squares have equal or opposite roots -/
theorem FF.sq_eq {b r : Int} (b0 : 0 ≤ b) (b1 : b < (P : Int) ^ lo.length) (r0 : 0 ≤ r) (r1 : r < (P : Int) ^ lo.length) (h : fmul P lo b b = fmul P lo r r) : b = r ∨ b = fneg P lo.length r := by
  have A := B.A
  have vb := figs_V A.prm lo.length b
  have vr := figs_V A.prm lo.length r
  have e := fmul_eq_vec (A := A) h
  generalize hx : figs (P : Int) lo.length b = x at *
  generalize hy : figs (P : Int) lo.length r = y at *
  have vs := sub_V A x y
  have va := add_V A x y
  have prod : Mu P lo (vadd P lo.length x y) (vsub P lo.length x y) = vzero P lo.length := by
    rw [Mu_sub A va vb vr, Mu_comm A.prm _ x, Mu_comm A.prm _ y, Mu_add A vb vb vr, Mu_add A vr vb vr, e, Mu_comm A.prm x y]
    refine Vc.ext (sub_V A _ _) (zero_V A) fun i hi => (vmk_cg _ hi).trans (Cg.trans ?_ (vmk_cg _ hi).symm)
    refine (Cg.sub (vmk_cg (p := (P : Int)) (fun i => at0 (Mu P lo y y) (i : Nat) + at0 (Mu P lo y x) (i : Nat)) hi) (vmk_cg (p := (P : Int)) (fun i => at0 (Mu P lo y x) (i : Nat) + at0 (Mu P lo y y) (i : Nat)) hi)).trans (Cg.of ?_)
    omega
  by_cases hz : vadd P lo.length x y = vzero P lo.length
  · right
    refine figs_inj A.prm b0 b1 (fneg_in A r).1 (fneg_in A r).2 ?_
    rw [fneg_figs A, hx, hy]
    refine Vc.ext vb (sub_V A _ _) fun i hi => Cg.trans ?_ (vmk_cg _ hi).symm
    have q : Cg (P : Int) (at0 x (i : Nat) + at0 y (i : Nat)) 0 := by
      refine (vmk_cg (p := (P : Int)) (fun i => at0 x (i : Nat) + at0 y (i : Nat)) hi).symm.trans ?_
      show Cg _ (at0 (vadd P lo.length x y) (i : Nat)) 0
      rw [hz]
      exact vmk_cg _ hi
    have z : Cg (P : Int) 0 (at0 (vzero P lo.length) (i : Nat)) := (vmk_cg (p := (P : Int)) (fun _ => 0) hi).symm
    refine Cg.trans (Cg.of ?_) (Cg.sub (q.trans z) (Cg.rfl (a := at0 y (i : Nat))))
    omega
  · left
    have q := B.cancel va vs prod hz
    refine figs_inj A.prm b0 b1 r0 r1 ?_
    rw [hx, hy]
    refine Vc.ext vb vr fun i hi => ?_
    have z : Cg (P : Int) (at0 x (i : Nat) - at0 y (i : Nat)) 0 := by
      refine (vmk_cg (p := (P : Int)) (fun i => at0 x (i : Nat) - at0 y (i : Nat)) hi).symm.trans ?_
      show Cg _ (at0 (vsub P lo.length x y) (i : Nat)) 0
      rw [q]
      exact vmk_cg _ hi
    refine Cg.trans (Cg.of ?_) ((z.add (Cg.rfl (a := at0 y (i : Nat)))).trans (Cg.of ?_))
    · omega
    · omega
theorem FF.neg_sq {r : Int} : fmul P lo (fneg P lo.length r) (fneg P lo.length r) = fmul P lo r r := by
  have A := B.A
  unfold fmul
  rw [fneg_figs A]
  have vr := figs_V A.prm lo.length r
  generalize figs (P : Int) lo.length r = y at *
  have z := zero_V A
  have vs := sub_V A (vzero P lo.length) y
  have e : Mu P lo (vsub P lo.length (vzero P lo.length) y) (vsub P lo.length (vzero P lo.length) y) = Mu P lo y y := by
    rw [Mu_sub A vs z vr, Mu_comm A.prm _ (vzero P lo.length), zero_Mu B vs, Mu_comm A.prm _ y, Mu_sub A vr z vr, Mu_comm A.prm y (vzero P lo.length), zero_Mu B vr]
    refine Vc.ext (sub_V A _ _) (Mu_V A vr vr) fun i hi => (vmk_cg _ hi).trans ?_
    refine (Cg.sub Cg.rfl (vmk_cg (p := (P : Int)) (fun i => at0 (vzero P lo.length) (i : Nat) - at0 (Mu P lo y y) (i : Nat)) hi)).trans (Cg.of ?_)
    omega
  rw [e]
/-- 1 has but one other root -/
theorem FF.one_uniq {x y : Int} (x0 : 0 ≤ x) (x1 : x < (P : Int) ^ lo.length) (y0 : 0 ≤ y) (y1 : y < (P : Int) ^ lo.length) (hx : fmul P lo x x = 1) (hy : fmul P lo y y = 1) (nx : x ≠ 1) (ny : y ≠ 1) : x = y := by
  have A := B.A
  have o1 : (1 : Int) < (P : Int) ^ lo.length := by have := B.size; rw [← Int.natCast_pow]; omega
  have e1 : fmul P lo 1 1 = 1 := fmul_1 A (by decide) o1
  rcases B.sq_eq x0 x1 (by decide) o1 (by rw [hx, e1]) with q | q
  · exact absurd q nx
  · rcases B.sq_eq y0 y1 (by decide) o1 (by rw [hy, e1]) with r | r
    · exact absurd r ny
    · rw [q, r]
theorem FF.fpow_size {a : Int} (a0 : 0 ≤ a) (a1 : a < (P : Int) ^ lo.length) : fpow P lo a (P ^ lo.length) = a := by
  unfold fpow
  rw [B.q _ (figs_V B.A.prm _ a), numb_figs B.A.prm _ a a0 a1]
theorem FF.fmul_0 (a : Int) : fmul P lo 0 a = 0 := by
  have A := B.A
  unfold fmul
  rw [figs_0 A.prm, zero_Mu B (figs_V A.prm _ a), ← figs_0 A.prm, numb_figs A.prm _ 0 (Int.le_refl 0) (Int.pow_pos A.prm.pos)]
theorem FF.fpow_0 {n : Nat} (hn : 0 < n) : fpow P lo 0 n = 0 := by
  obtain ⟨m, rfl⟩ : ∃ m, n = m + 1 := ⟨n - 1, by omega⟩
  rw [fpow_succ B.A, fmul_comm B.A, B.fmul_0]
theorem FF.root0 {b : Int} (b0 : 0 ≤ b) (b1 : b < (P : Int) ^ lo.length) (h : fmul P lo b b = 0) : b = 0 := by
  have A := B.A
  have z : (0 : Int) < (P : Int) ^ lo.length := Int.pow_pos A.prm.pos
  rcases B.sq_eq b0 b1 (Int.le_refl 0) z (by rw [h, B.fmul_0]) with q | q
  · exact q
  · rw [q]
    refine figs_inj A.prm (fneg_in A 0).1 (fneg_in A 0).2 (Int.le_refl 0) z ?_
    rw [fneg_figs A, figs_0 A.prm]
    refine Vc.ext (sub_V A _ _) (zero_V A) fun i hi => (vmk_cg _ hi).trans (Cg.trans (Cg.of ?_) (vmk_cg _ hi).symm)
    omega
end
/-! ### the loop for roots, by powers of a number that is no square -/
/-- what it keeps: twos, root, step, left -/
structure Ton (p : Int) (lo : List Int) (a : Int) (w : Nat) (root step left : Int) : Prop where
  one : 1 ≤ w
  r : 0 ≤ root ∧ root < p ^ lo.length
  s : 0 ≤ step ∧ step < p ^ lo.length
  l : 0 ≤ left ∧ left < p ^ lo.length
  sq : fmul p lo root root = fmul p lo a left
  hs : fpow p lo step (2 ^ (w - 1)) ≠ 1
  hs2 : fpow p lo step (2 ^ w) = 1
  hl : fpow p lo left (2 ^ (w - 1)) = 1
section
variable {P : Nat} {lo : List Int} (B : FF P lo)
include B
theorem pow2_half {x : Int} {n : Nat} : fmul P lo (fpow P lo x (2 ^ n)) (fpow P lo x (2 ^ n)) = fpow P lo x (2 ^ (n + 1)) := by
  rw [← fpow_add B.A]
  congr 1
  rw [Nat.pow_succ]; omega
/-- one turn: many is the least with left ^ 2 ^ many = 1 -/
theorem Ton.turn {a : Int} {w : Nat} {root step left : Int} (T : Ton P lo a w root step left) {m : Nat} (m1 : 1 ≤ m) (mw : m + 1 ≤ w) (hm : fpow P lo left (2 ^ m) = 1) (hn : fpow P lo left (2 ^ (m - 1)) ≠ 1) :
    Ton P lo a m (fmul P lo root (fpow P lo step (2 ^ (w - m - 1)))) (fmul P lo (fpow P lo step (2 ^ (w - m - 1))) (fpow P lo step (2 ^ (w - m - 1)))) (fmul P lo left (fmul P lo (fpow P lo step (2 ^ (w - m - 1))) (fpow P lo step (2 ^ (w - m - 1))))) := by
  have A := B.A
  have hb : fmul P lo (fpow P lo step (2 ^ (w - m - 1))) (fpow P lo step (2 ^ (w - m - 1))) = fpow P lo step (2 ^ (w - m)) := by
    rw [pow2_half B, show w - m - 1 + 1 = w - m from by omega]
  have st : ∀ j, fpow P lo (fpow P lo step (2 ^ (w - m))) (2 ^ j) = fpow P lo step (2 ^ (w - m + j)) := fun j => by rw [← fpow_mul A, ← Nat.pow_add]
  have mm : ∀ x y z u : Int, fmul P lo (fmul P lo x y) (fmul P lo z u) = fmul P lo (fmul P lo x z) (fmul P lo y u) := fun x y z u => by
    rw [fmul_assoc A, ← fmul_assoc A y, fmul_comm A y z, fmul_assoc A z, ← fmul_assoc A]
  refine ⟨m1, fmul_in A _ _, fmul_in A _ _, fmul_in A _ _, ?_, ?_, ?_, ?_⟩
  · rw [mm, T.sq, fmul_assoc A]
  · rw [hb, st, show w - m + (m - 1) = w - 1 from by omega]
    exact T.hs
  · rw [hb, st, show w - m + m = w from by omega]
    exact T.hs2
  · rw [hb, fpow_fmul A, st, show w - m + (m - 1) = w - 1 from by omega]
    have e1 : fpow P lo left (2 ^ (m - 1)) = fpow P lo step (2 ^ (w - 1)) := by
      refine B.one_uniq (fpow_in A _ _).1 (fpow_in A _ _).2 (fpow_in A _ _).1 (fpow_in A _ _).2 ?_ ?_ hn T.hs
      · rw [pow2_half B, show m - 1 + 1 = m from by omega, hm]
      · rw [pow2_half B, show w - 1 + 1 = w from by have := T.one; omega, T.hs2]
    rw [e1, pow2_half B, show w - 1 + 1 = w from by have := T.one; omega, T.hs2]
/-- the start -/
theorem ton_start {a u : Int} {w odd : Nat} (w1 : 1 ≤ w) (a0 : 0 ≤ a) (a1 : a < (P : Int) ^ lo.length) (hu0 : 0 < u) (hu1 : u < (P : Int) ^ lo.length) (ho : odd % 2 = 1) (hN : P ^ lo.length - 1 = odd * 2 ^ w)
    (hu : fpow P lo u (odd * 2 ^ (w - 1)) ≠ 1) (ha : fpow P lo a (odd * 2 ^ (w - 1)) = 1) : Ton P lo a w (fpow P lo a ((odd + 1) / 2)) (fpow P lo u odd) (fpow P lo a odd) := by
  have A := B.A
  refine ⟨w1, fpow_in A _ _, fpow_in A _ _, fpow_in A _ _, ?_, ?_, ?_, ?_⟩
  · rw [← fpow_add A, show (odd + 1) / 2 + (odd + 1) / 2 = 1 + odd from by omega, fpow_add A, fpow_one A a0 a1]
  · rw [← fpow_mul A]; exact hu
  · rw [← fpow_mul A, ← hN]; exact B.fpow1 hu0 hu1
  · rw [← fpow_mul A]; exact ha
end
end Ev
set_option maxHeartbeats 1000000
/-! Ev, part AK: comprehensions with a test; truth values compared. -/
namespace Ev
open PySem PySem.Spec PyProof.Rows L2
theorem lc_filt {c : Cfg} {i : Nat} {ρ : Env} {cond : Env → Hs → R Bool} {e : Env → Hs → R D} {h : Hs} (q : Nat → Bool) (hl : i < ρ.length) : ∀ (xs : List Nat) (acc : List D), (∀ x ∈ xs, cond (ρ.set i (some (.int (x : Nat)))) h = .ok (q x) h ∧ e (ρ.set i (some (.int (x : Nat)))) h = .ok (.int (x : Nat)) h) → acc.length + xs.length ≤ LN →
    lcD (Tg.den c (.name i)) cond e ρ (xs.map fun k => D.int (k : Nat)) acc h = .ok (acc ++ (xs.filter q).map fun k => D.int (k : Nat)) h
  | [], acc, _, _ => by
    show R.ok acc h = .ok (acc ++ []) h
    rw [List.append_nil]
  | x :: xs, acc, he, hz => by
    obtain ⟨h1, h2⟩ := he x List.mem_cons_self
    have hn : acc.length < LN := by simp at hz; omega
    rw [List.map_cons]
    unfold lcD
    simp only [tg_name, if_pos hl, h1]
    cases hq : q x with
    | true =>
      have ih := lc_filt (c := c) (ρ := ρ) (cond := cond) (e := e) (h := h) q hl xs (acc ++ [.int (x : Nat)]) (fun y hy => he y (List.mem_cons_of_mem _ hy)) (by simp at hz ⊢; omega)
      simp only [h2, if_pos hn]
      rw [ih, List.filter_cons, if_pos hq, List.append_assoc]
      rfl
    | false =>
      have ih := lc_filt (c := c) (ρ := ρ) (cond := cond) (e := e) (h := h) q hl xs acc (fun y hy => he y (List.mem_cons_of_mem _ hy)) (by simp at hz ⊢; omega)
      simp only []
      rw [ih, List.filter_cons, if_neg (by rw [hq]; exact fun z => nomatch z)]
theorem filt_none {q : Nat → Bool} {n : Nat} (h : ∀ j, j < n → q j = false) : (List.range n).filter q = [] := List.filter_eq_nil_iff.mpr fun j hj => by rw [h j (List.mem_range.mp hj)]; exact fun z => nomatch z
theorem filt_first {q : Nat → Bool} {m : Nat} (hm : q m = true) (hf : ∀ j, j < m → q j = false) : ∀ {n : Nat}, m < n → ∃ r, (List.range n).filter q = m :: r
  | 0, h => absurd h (Nat.not_lt_zero m)
  | n + 1, h => by
    rw [List.range_succ, List.filter_append]
    by_cases e : m < n
    · obtain ⟨r, hr⟩ := filt_first hm hf e
      exact ⟨r ++ [n].filter q, by rw [hr]; rfl⟩
    · have : m = n := by omega
      subst this
      refine ⟨[], ?_⟩
      rw [filt_none hf, List.filter_cons, if_pos hm]; rfl
theorem shp_bool (b : Bool) : SeqAt.shaped (.bool b) = true := by simp [SeqAt.shaped, PyData.canLay0, PyData.depth]
@[simp] theorem cmp_neB (b : Bool) (h : Hs) : cmpD .ne (.bl b) (.bl b) h = .ok (.bl false) h := by
  show (if (SeqAt.shaped (.bool b) && SeqAt.shaped (.bool b)) = true then R.ok (D.bl (!PyData.eqv (.bool b) (.bool b))) h else .stuck) = _
  rw [if_pos (by rw [shp_bool]; rfl)]
  cases b <;> simp [PyData.eqv]
@[simp] theorem cmp_isT (b : Bool) (h : Hs) : cmpD .is (.bl b) (.bl true) h = .ok (.bl b) h := by cases b <;> rfl
theorem idx_head {x : D} {xs : List D} {h : Hs} : idxD (.lst (x :: xs)) (.int 0) h = .ok x h := by
  show (match atI (x :: xs) 0 with | some v => R.ok v h | none => .stuck) = _
  rw [show atI (x :: xs) 0 = some x from by
    unfold atI
    rw [ix_ok (by omega) (by rw [List.length_cons]; omega)]; rfl]
/-! ### what a root's search must give -/
structure Root (p : Int) (lo : List Int) (a b : Int) : Prop where
  b0 : 0 ≤ b
  b1 : b < p ^ lo.length
  sq : fmul p lo b b = a
  min : ∀ x, 0 ≤ x → x < p ^ lo.length → fmul p lo x x = a → b ≤ x
section
variable {P : Nat} {lo : List Int} (B : FF P lo)
include B
theorem FF.root_two {a : Int} (a0 : 0 ≤ a) (a1 : a < (P : Int) ^ lo.length) {m : Nat} (hm : P ^ lo.length = m * 2) : Root P lo a (fpow P lo a m) := by
  have A := B.A
  refine ⟨(fpow_in A _ _).1, (fpow_in A _ _).2, ?_, fun x x0 x1 hx => ?_⟩
  · rw [← fpow_add A, show m + m = P ^ lo.length from by omega, B.fpow_size a0 a1]
  · have e := B.fpow_size x0 x1
    rw [hm, Nat.mul_comm, fpow_mul A, fpow_2 A x0 x1, hx] at e
    omega
theorem FF.root_zero {m : Nat} (hm : 0 < m) : Root P lo 0 (fpow P lo 0 m) := by
  rw [B.fpow_0 hm]
  exact ⟨Int.le_refl 0, Int.pow_pos B.A.prm.pos, B.fmul_0 0, fun x x0 _ _ => x0⟩
theorem FF.root_min {a r : Int} (r0 : 0 ≤ r) (r1 : r < (P : Int) ^ lo.length) (h : fmul P lo r r = a) : Root P lo a (if fneg P lo.length r < r then fneg P lo.length r else r) := by
  have A := B.A
  obtain ⟨n0, n1⟩ := fneg_in A r
  have hn : fmul P lo (fneg P lo.length r) (fneg P lo.length r) = a := by rw [B.neg_sq, h]
  refine ⟨by split <;> assumption, by split <;> assumption, by split <;> assumption, fun x x0 x1 hx => ?_⟩
  rcases B.sq_eq x0 x1 r0 r1 (by rw [hx, h]) with q | q
  · rw [q]; split <;> omega
  · rw [q]; split <;> omega
theorem FF.sq_pow {a b : Int} (b0 : 0 ≤ b) (b1 : b < (P : Int) ^ lo.length) (h : fmul P lo b b = a) (a0 : a ≠ 0) {m : Nat} (hm : P ^ lo.length - 1 = m * 2) : fpow P lo a m = 1 := by
  have A := B.A
  have bp : 0 < b := by
    by_cases z : b = 0
    · rw [z, B.fmul_0] at h; exact absurd h.symm a0
    · omega
  rw [← h, ← fpow_2 A b0 b1, ← fpow_mul A, Nat.mul_comm, ← hm]
  exact B.fpow1 bp b1
end
end Ev
set_option maxHeartbeats 1000000
/-! Ev, part AL: repr of rows of small numbers. -/
namespace Ev
open PySem PySem.Spec PyProof.Rows L2
def Sml (xs : List Int) : Prop := ∀ x ∈ xs, 0 ≤ x ∧ x < 1000000
theorem show_all : ∀ {xs : List Int}, Sml xs → PyData.showableAll (xs.map .int) = true
  | [], _ => by simp only [List.map_nil, PyData.showableAll]
  | x :: xs, h => by
    have := h x List.mem_cons_self
    have l := log_small this.1 this.2
    simp only [List.map_cons, PyData.showableAll, PyData.showable, show_all (xs := xs) fun y hy => h y (List.mem_cons_of_mem _ hy), Bool.and_true]
    exact decide_eq_true (by omega)
theorem nodict_all : ∀ xs : List Int, PyData.hasDictAll (xs.map .int) = false
  | [] => by simp only [List.map_nil, PyData.hasDictAll]
  | x :: xs => by simp only [List.map_cons, PyData.hasDictAll, PyData.hasDict, nodict_all xs, Bool.or_self]
theorem depth_all : ∀ xs : List Int, PyData.depthAll (xs.map .int) ≤ 1
  | [] => by simp [PyData.depthAll]
  | x :: xs => by
    have := depth_all xs
    simp only [List.map_cons, PyData.depthAll, PyData.depth]
    omega
theorem pys_int : ∀ xs : List Int, D.pys (xs.map .int) = some (xs.map .int)
  | [] => rfl
  | x :: xs => by
    show (match (D.int x).py, D.pys (xs.map .int) with | some x, some xs => some (x :: xs) | _, _ => none) = _
    rw [pys_int xs]; rfl
theorem shown_sum : ∀ {xs : List Int}, Sml xs → ((PyData.shownAll (xs.map .int)).map (·.length)).sum ≤ 22 * xs.length ∧ (PyData.shownAll (xs.map .int)).length = xs.length
  | [], _ => by simp [PyData.shownAll]
  | x :: xs, h => by
    obtain ⟨a, b⟩ := shown_sum (xs := xs) fun y hy => h y (List.mem_cons_of_mem _ hy)
    have := h x List.mem_cons_self
    have l := int_text_length_le (a := x) (k := 21) (by decide) (log_small this.1 this.2)
    have e : (PyData.int x).shown = Str.ofString (toString x) := by simp only [PyData.shown]
    have e2 : ((PyData.int x).shown).length ≤ 22 := by rw [e, PySem.ofString_length]; omega
    rw [List.map_cons, PyData.shownAll, List.map_cons, List.sum_cons, List.length_cons, List.length_cons, b]
    omega
/-- the text of a row -/
def shL (xs : List Int) : Str := (PyData.list (xs.map .int)).shown
def shT (xs : List Int) : Str := (PyData.tuple (xs.map .int)).shown
theorem pr_reprL {fz : Bool} {xs : List Int} {h : Hs} (s : Sml xs) (l : xs.length ≤ 10000) : primD .repr fz [.lst (xs.map .int)] h = .ok (.str (shL xs)) h := by
  show (match (D.pys (xs.map .int)).map PyData.list with
    | some x => if x.hasDict = false ∧ x.showable = true ∧ x.depth ≤ 64 ∧ x.shown.length ≤ LN then R.ok (D.str x.shown) h else .stuck
    | none => .stuck) = _
  rw [pys_int]
  obtain ⟨a, b⟩ := shown_sum s
  have d := depth_all xs
  have n := listText_len_le (PyData.shownAll (xs.map .int))
  refine if_pos ⟨by simp only [PyData.hasDict, nodict_all], by simp only [PyData.showable, show_all s], by simp only [PyData.depth]; omega, ?_⟩
  simp only [PyData.shown]
  rw [LN_eq]
  omega
theorem pr_reprT {fz : Bool} {xs : List Int} {h : Hs} (s : Sml xs) (l : xs.length ≤ 10000) : primD .repr fz [.tup (xs.map .int)] h = .ok (.str (shT xs)) h := by
  show (match (D.pys (xs.map .int)).map PyData.tuple with
    | some x => if x.hasDict = false ∧ x.showable = true ∧ x.depth ≤ 64 ∧ x.shown.length ≤ LN then R.ok (D.str x.shown) h else .stuck
    | none => .stuck) = _
  rw [pys_int]
  obtain ⟨a, b⟩ := shown_sum s
  have d := depth_all xs
  have n := tupleText_len_le (PyData.shownAll (xs.map .int))
  refine if_pos ⟨by simp only [PyData.hasDict, nodict_all], by simp only [PyData.showable, show_all s], by simp only [PyData.depth]; omega, ?_⟩
  simp only [PyData.shown]
  rw [LN_eq]
  omega
end Ev
set_option maxHeartbeats 1000000
/-! Ev, part AM: sums of numbers in a field. -/
namespace Ev
open PySem PySem.Spec PyProof.Rows L2
theorem figs_atn {p : Int} {k : Nat} {x : Int} {j : Nat} (hj : j < k) : at0 (figs p k x) (j : Nat) = x / p ^ j % p := at0_of (by unfold figs; rw [List.getElem?_map, List.getElem?_range hj]; rfl)
def fadd (p : Int) (k : Nat) (a b : Int) : Int := numb p ((List.range k).map (dg (· + ·) p a b))
def fsub (p : Int) (k : Nat) (a b : Int) : Int := numb p ((List.range k).map (dg (· - ·) p a b))
theorem dgs_add {p : Int} (hp : Prm p) (k : Nat) (a b : Int) : (List.range k).map (dg (· + ·) p a b) = vadd p k (figs p k a) (figs p k b) := by
  unfold vadd vmk
  refine List.map_congr_left fun j hj => ?_
  have hj' := List.mem_range.mp hj
  have ea : at0 (figs p k a) (j : Nat) = a / p ^ j % p := at0_of (by unfold figs; rw [List.getElem?_map, List.getElem?_range hj']; rfl)
  have eb : at0 (figs p k b) (j : Nat) = b / p ^ j % p := at0_of (by unfold figs; rw [List.getElem?_map, List.getElem?_range hj']; rfl)
  show dg (· + ·) p a b j = (at0 (figs p k a) (j : Nat) + at0 (figs p k b) (j : Nat)) % p
  rw [ea, eb]
  exact Int.add_emod _ _ _
section
variable {p : Int} {lo : List Int} (A : Fld p lo)
include A
theorem fadd_in (a b : Int) : 0 ≤ fadd p lo.length a b ∧ fadd p lo.length a b < p ^ lo.length := by
  unfold fadd; rw [dgs_add A.prm]; exact numb_in A.prm.pos (add_V A _ _)
theorem fsub_in (a b : Int) : 0 ≤ fsub p lo.length a b ∧ fsub p lo.length a b < p ^ lo.length := by
  unfold fsub; rw [dgs_sub A.prm]; exact numb_in A.prm.pos (sub_V A _ _)
theorem fadd_figs (a b : Int) : figs p lo.length (fadd p lo.length a b) = vadd p lo.length (figs p lo.length a) (figs p lo.length b) := by
  unfold fadd; rw [dgs_add A.prm]; exact figs_numb A.prm.pos (add_V A _ _)
theorem fsub_figs (a b : Int) : figs p lo.length (fsub p lo.length a b) = vsub p lo.length (figs p lo.length a) (figs p lo.length b) := by
  unfold fsub; rw [dgs_sub A.prm]; exact figs_numb A.prm.pos (sub_V A _ _)
theorem num_ext {a b : Int} (ha : 0 ≤ a ∧ a < p ^ lo.length) (hb : 0 ≤ b ∧ b < p ^ lo.length) (h : ∀ i, i < lo.length → Cg p (at0 (figs p lo.length a) (i : Nat)) (at0 (figs p lo.length b) (i : Nat))) : a = b :=
  figs_inj A.prm ha.1 ha.2 hb.1 hb.2 (Vc.ext (figs_V A.prm _ a) (figs_V A.prm _ b) h)
theorem fadd_cg (a b : Int) {i : Nat} (hi : i < lo.length) : Cg p (at0 (figs p lo.length (fadd p lo.length a b)) (i : Nat)) (at0 (figs p lo.length a) (i : Nat) + at0 (figs p lo.length b) (i : Nat)) := by rw [fadd_figs A]; exact vmk_cg _ hi
theorem fsub_cg (a b : Int) {i : Nat} (hi : i < lo.length) : Cg p (at0 (figs p lo.length (fsub p lo.length a b)) (i : Nat)) (at0 (figs p lo.length a) (i : Nat) - at0 (figs p lo.length b) (i : Nat)) := by rw [fsub_figs A]; exact vmk_cg _ hi
theorem fadd_comm (a b : Int) : fadd p lo.length a b = fadd p lo.length b a := num_ext A (fadd_in A a b) (fadd_in A b a) fun i hi => (fadd_cg A a b hi).trans (Cg.trans (Cg.of (Int.add_comm _ _)) (fadd_cg A b a hi).symm)
theorem fadd_assoc (a b c : Int) : fadd p lo.length (fadd p lo.length a b) c = fadd p lo.length a (fadd p lo.length b c) := num_ext A (fadd_in A _ _) (fadd_in A _ _) fun i hi => by
  refine (fadd_cg A _ c hi).trans (Cg.trans ?_ (fadd_cg A a _ hi).symm)
  refine (Cg.add (fadd_cg A a b hi) .rfl).trans (Cg.trans (Cg.of (Int.add_assoc _ _ _)) (Cg.add .rfl (fadd_cg A b c hi).symm))
theorem fmul_add (a b c : Int) : fmul p lo a (fadd p lo.length b c) = fadd p lo.length (fmul p lo a b) (fmul p lo a c) := by
  refine figs_inj A.prm (fmul_in A _ _).1 (fmul_in A _ _).2 (fadd_in A _ _).1 (fadd_in A _ _).2 ?_
  rw [fmul_figs A, fadd_figs A, fadd_figs A, fmul_figs A, fmul_figs A, Mu_add A (figs_V A.prm _ a) (figs_V A.prm _ b) (figs_V A.prm _ c)]
theorem fsub_add {a : Int} (ha : 0 ≤ a ∧ a < p ^ lo.length) (b : Int) : fsub p lo.length (fadd p lo.length a b) b = a := num_ext A (fsub_in A _ _) ha fun i hi => by
  refine (fsub_cg A _ b hi).trans ((Cg.sub (fadd_cg A a b hi) .rfl).trans (Cg.of ?_))
  omega
theorem fadd_0 {a : Int} (ha : 0 ≤ a ∧ a < p ^ lo.length) : fadd p lo.length 0 a = a := num_ext A (fadd_in A _ _) ha fun i hi => by
  refine (fadd_cg A 0 a hi).trans ?_
  rw [figs_0 A.prm]
  have z : Cg p (at0 (vzero p lo.length) (i : Nat)) 0 := vmk_cg _ hi
  exact (Cg.add z .rfl).trans (Cg.of (Int.zero_add _))
end
/-- what takes a product back -/
theorem FF.inv {P : Nat} {lo : List Int} (B : FF P lo) {a : Int} (a0 : 0 < a) (a1 : a < (P : Int) ^ lo.length) : fmul P lo a (fpow P lo a (P ^ lo.length - 2)) = 1 := by
  have hs := B.size
  have u := B.fpow1 a0 a1
  rw [show P ^ lo.length - 1 = P ^ lo.length - 2 + 1 from by omega, fpow_succ B.A] at u
  rw [fmul_comm B.A, u]
end Ev
set_option maxHeartbeats 1000000
/-! Ev, part AN: powers by the prime, sums and products of them. -/
namespace Ev
open PySem PySem.Spec PyProof.Rows L2
/-- t times the power by the prime -/
def fr (P : Nat) (lo : List Int) (a : Int) (t : Nat) : Int := fpow P lo a (P ^ t)
def trs (P : Nat) (lo : List Int) (a : Int) : Nat → Int
  | 0 => 0
  | n + 1 => fadd P lo.length (trs P lo a n) (fr P lo a n)
def nrm (P : Nat) (lo : List Int) (a : Int) : Nat → Int
  | 0 => 1
  | n + 1 => fmul P lo (nrm P lo a n) (fr P lo a n)
abbrev Rg (P : Nat) (lo : List Int) (a : Int) : Prop := 0 ≤ a ∧ a < (P : Int) ^ lo.length
structure Cnj (P : Nat) (lo : List Int) (a : Int) (d : Nat) : Prop where
  pos : 0 < d
  back : fr P lo a d = a
  first : ∀ t, 0 < t → t < d → fr P lo a t ≠ a
section
variable {P : Nat} {lo : List Int} (B : FF P lo)
include B
theorem fr_in (a : Int) (t : Nat) : Rg P lo (fr P lo a t) := fpow_in B.A _ _
theorem fr_0 {a : Int} (ha : Rg P lo a) : fr P lo a 0 = a := by unfold fr; rw [Nat.pow_zero]; exact fpow_one B.A ha.1 ha.2
theorem fr_1 (a : Int) : fr P lo a 1 = fpow P lo a P := by unfold fr; rw [Nat.pow_one]
theorem fr_add (a : Int) (s t : Nat) : fr P lo a (s + t) = fr P lo (fr P lo a s) t := by unfold fr; rw [Nat.pow_add, fpow_mul B.A]
theorem fr_succ (a : Int) (t : Nat) : fr P lo a (t + 1) = fpow P lo (fr P lo a t) P := by rw [fr_add B, fr_1 B]
theorem fr_k {a : Int} (ha : Rg P lo a) : fr P lo a lo.length = a := B.fpow_size ha.1 ha.2
theorem cnj_ex {a : Int} (ha : Rg P lo a) : ∃ d, Cnj P lo a d ∧ d ≤ lo.length := by
  obtain ⟨d, ⟨d0, hd⟩, hf⟩ := least (Q := fun n => 0 < n ∧ fr P lo a n = a) (n := lo.length) ⟨B.A.one, fr_k B ha⟩
  exact ⟨d, ⟨d0, hd, fun t t0 td e => hf t td ⟨t0, e⟩⟩, Nat.le_of_not_lt fun z => hf _ z ⟨B.A.one, fr_k B ha⟩⟩
theorem Cnj.mul {a : Int} {d : Nat} (C : Cnj P lo a d) (ha : Rg P lo a) : ∀ q, fr P lo a (d * q) = a
  | 0 => fr_0 B ha
  | q + 1 => by rw [Nat.mul_succ, fr_add B, C.mul ha q, C.back]
theorem Cnj.mod {a : Int} {d : Nat} (C : Cnj P lo a d) (ha : Rg P lo a) (t : Nat) : fr P lo a t = fr P lo a (t % d) := by
  rw [show t = d * (t / d) + t % d from (Nat.div_add_mod t d).symm, fr_add B, C.mul B ha, Nat.mul_add_mod, Nat.mod_mod]
theorem Cnj.per {a : Int} {d : Nat} (C : Cnj P lo a d) (ha : Rg P lo a) (t : Nat) : fr P lo a (d + t) = fr P lo a t := by rw [fr_add B, C.back]
theorem Cnj.dvd {a : Int} {d : Nat} (C : Cnj P lo a d) (ha : Rg P lo a) : d ∣ lo.length := by
  refine Nat.dvd_of_mod_eq_zero (Classical.byContradiction fun z => ?_)
  refine C.first _ (Nat.pos_of_ne_zero z) (Nat.mod_lt _ C.pos) ?_
  rw [← C.mod B ha, fr_k B ha]
theorem Cnj.apart {a : Int} {d : Nat} (C : Cnj P lo a d) {s t : Nat} (st : s < t) (td : t < d) : fr P lo a s ≠ fr P lo a t := fun e => by
  refine C.first (s + (d - t)) (by omega) (by omega) ?_
  rw [fr_add B, e, ← fr_add B, show t + (d - t) = d from by omega, C.back]
theorem Cnj.next {a : Int} {d : Nat} (C : Cnj P lo a d) : Cnj P lo (fr P lo a 1) d := by
  refine ⟨C.pos, ?_, fun t t0 td e => ?_⟩
  · rw [← fr_add B, Nat.add_comm, fr_add B, C.back]
  · rw [← fr_add B, Nat.add_comm] at e
    have h2 : fr P lo (fr P lo a (t + 1)) (d - 1) = fr P lo (fr P lo a 1) (d - 1) := by rw [e]
    rw [← fr_add B, ← fr_add B, show t + 1 + (d - 1) = d + t from by have := C.pos; omega, show 1 + (d - 1) = d from by have := C.pos; omega, C.back, fr_add B, C.back] at h2
    exact C.first t t0 td h2
theorem fpow_fadd (a b : Int) (t : Nat) : fr P lo (fadd P lo.length a b) t = fadd P lo.length (fr P lo a t) (fr P lo b t) := by
  have A := B.A
  have L := lin_frob A B.hP rfl t
  unfold fr
  refine figs_inj A.prm (fpow_in A _ _).1 (fpow_in A _ _).2 (fadd_in A _ _).1 (fadd_in A _ _).2 ?_
  rw [fpow_figs A, fadd_figs A, fadd_figs A, fpow_figs A, fpow_figs A]
  exact L.add _ _ (figs_V A.prm _ a) (figs_V A.prm _ b)
theorem fr_fmul (a b : Int) (t : Nat) : fr P lo (fmul P lo a b) t = fmul P lo (fr P lo a t) (fr P lo b t) := fpow_fmul B.A a b _
theorem fr_zero (t : Nat) : fr P lo 0 t = 0 := B.fpow_0 (Nat.pow_pos (by have := B.hP.two; omega))
theorem fr_one (t : Nat) : fr P lo 1 t = 1 := one_fpow B.A _
/-- what the power by the prime leaves is a number below the prime -/
theorem const_of {e : Int} (he : Rg P lo e) (h : fr P lo e 1 = e) : e < P := by
  have A := B.A
  have k1 := A.one
  have v := figs_V A.prm lo.length e
  have hf : vpow P lo (figs P lo.length e) P = figs P lo.length e := by
    rw [fr_1 B] at h
    rw [← fpow_figs A, h]
  have m := Int.emod_nonneg e (b := (P : Int)) (by have := B.hP.two; omega)
  have m2 := Int.emod_lt_of_pos e A.prm.pos
  have small : e % (P : Int) < (P : Int) ^ lo.length := by
    obtain ⟨n, hn⟩ : ∃ n, lo.length = n + 1 := ⟨lo.length - 1, by omega⟩
    have : (1 : Int) ≤ (P : Int) ^ n := Int.pow_pos A.prm.pos
    rw [hn, Int.pow_succ]
    calc e % (P : Int) < P := m2
      _ = 1 * P := (Int.one_mul _).symm
      _ ≤ (P : Int) ^ n * P := Int.mul_le_mul_of_nonneg_right this (Int.le_of_lt A.prm.pos)
  have e1 : e = e % (P : Int) := by
    refine num_ext A he ⟨m, small⟩ fun i hi => ?_
    by_cases h0 : i = 0
    · subst h0
      have q : ∀ x : Int, at0 (figs P lo.length x) ((0 : Nat) : Int) = x % P := fun x => by
        rw [figs_atn hi, Int.pow_zero, Int.ediv_one]
      rw [q, q, Int.emod_emod]
      exact .rfl
    · rw [B.fix _ v hf i (by omega) hi, figs_atn hi]
      refine Cg.of ?_
      have : e % (P : Int) / (P : Int) ^ i = 0 := by
        refine Int.ediv_eq_zero_of_lt m (Int.lt_of_lt_of_le m2 ?_)
        obtain ⟨n, rfl⟩ : ∃ n, i = n + 1 := ⟨i - 1, by omega⟩
        have : (1 : Int) ≤ (P : Int) ^ n := Int.pow_pos A.prm.pos
        rw [Int.pow_succ]
        calc (P : Int) = 1 * P := (Int.one_mul _).symm
          _ ≤ (P : Int) ^ n * P := Int.mul_le_mul_of_nonneg_right this (Int.le_of_lt A.prm.pos)
      rw [this]
      rfl
  omega
/-! sums -/
theorem trs_in (a : Int) : ∀ n, Rg P lo (trs P lo a n)
  | 0 => ⟨Int.le_refl 0, Int.pow_pos B.A.prm.pos⟩
  | n + 1 => fadd_in B.A _ _
theorem trs_fr (a : Int) : ∀ n, fr P lo (trs P lo a n) 1 = trs P lo (fr P lo a 1) n
  | 0 => fr_zero B 1
  | n + 1 => by
    show fr P lo (fadd P lo.length (trs P lo a n) (fr P lo a n)) 1 = fadd P lo.length (trs P lo (fr P lo a 1) n) (fr P lo (fr P lo a 1) n)
    rw [fpow_fadd B, trs_fr a n, ← fr_add B, ← fr_add B, Nat.add_comm]
theorem trs_shift {a : Int} (ha : Rg P lo a) : ∀ n, fadd P lo.length a (trs P lo (fr P lo a 1) n) = trs P lo a (n + 1)
  | 0 => by
    show fadd P lo.length a 0 = fadd P lo.length 0 (fr P lo a 0)
    rw [fr_0 B ha, fadd_comm B.A]
  | n + 1 => by
    show fadd P lo.length a (fadd P lo.length (trs P lo (fr P lo a 1) n) (fr P lo (fr P lo a 1) n)) = fadd P lo.length (trs P lo a (n + 1)) (fr P lo a (n + 1))
    rw [← fadd_assoc B.A, trs_shift ha n, ← fr_add B, Nat.add_comm 1 n]
theorem trs_conj {a : Int} (ha : Rg P lo a) : trs P lo (fr P lo a 1) lo.length = trs P lo a lo.length := by
  have A := B.A
  have h := trs_shift B ha lo.length
  have e : trs P lo a (lo.length + 1) = fadd P lo.length (trs P lo a lo.length) a := by
    show fadd P lo.length (trs P lo a lo.length) (fr P lo a lo.length) = _
    rw [fr_k B ha]
  rw [e, fadd_comm A a] at h
  rw [← fsub_add A (trs_in B _ _) a, h, fsub_add A (trs_in B _ _) a]
theorem trs_const {a : Int} (ha : Rg P lo a) : trs P lo a lo.length < P := const_of B (trs_in B a _) (by rw [trs_fr B, trs_conj B ha])
/-! products -/
theorem nrm_in (a : Int) : ∀ n, Rg P lo (nrm P lo a n)
  | 0 => ⟨by show (0 : Int) ≤ 1; decide, by have := B.size; show (1 : Int) < _; rw [← Int.natCast_pow]; omega⟩
  | n + 1 => fmul_in B.A _ _
theorem nrm_fr (a : Int) : ∀ n, fr P lo (nrm P lo a n) 1 = nrm P lo (fr P lo a 1) n
  | 0 => fr_one B 1
  | n + 1 => by
    show fr P lo (fmul P lo (nrm P lo a n) (fr P lo a n)) 1 = fmul P lo (nrm P lo (fr P lo a 1) n) (fr P lo (fr P lo a 1) n)
    rw [fr_fmul B, nrm_fr a n, ← fr_add B, ← fr_add B, Nat.add_comm]
theorem nrm_shift {a : Int} (ha : Rg P lo a) : ∀ n, fmul P lo a (nrm P lo (fr P lo a 1) n) = nrm P lo a (n + 1)
  | 0 => by
    show fmul P lo a 1 = fmul P lo 1 (fr P lo a 0)
    rw [fr_0 B ha, fmul_comm B.A]
  | n + 1 => by
    show fmul P lo a (fmul P lo (nrm P lo (fr P lo a 1) n) (fr P lo (fr P lo a 1) n)) = fmul P lo (nrm P lo a (n + 1)) (fr P lo a (n + 1))
    rw [← fmul_assoc B.A, nrm_shift ha n, ← fr_add B, Nat.add_comm 1 n]
theorem nrm_conj {a : Int} (ha : Rg P lo a) : nrm P lo (fr P lo a 1) lo.length = nrm P lo a lo.length := by
  have A := B.A
  by_cases a0 : a = 0
  · rw [a0, fr_zero B]
  · have h := nrm_shift B ha lo.length
    have e : nrm P lo a (lo.length + 1) = fmul P lo (nrm P lo a lo.length) a := by
      show fmul P lo (nrm P lo a lo.length) (fr P lo a lo.length) = _
      rw [fr_k B ha]
    rw [e, fmul_comm A a] at h
    have iv := B.inv (a := a) (by have := ha.1; omega) ha.2
    have back : ∀ x, Rg P lo x → fmul P lo (fmul P lo x a) (fpow P lo a (P ^ lo.length - 2)) = x := fun x hx => by
      rw [fmul_assoc A, iv, fmul_comm A, fmul_1 A hx.1 hx.2]
    rw [← back _ (nrm_in B _ _), h, back _ (nrm_in B _ _)]
theorem nrm_const {a : Int} (ha : Rg P lo a) : nrm P lo a lo.length < P := const_of B (nrm_in B a _) (by rw [nrm_fr B, nrm_conj B ha])
end
end Ev
set_option maxHeartbeats 1000000
/-! Ev, part AO: rows that repeat, rows in cells. -/
namespace Ev
open PySem PySem.Spec PyProof.Rows L2
theorem flat_per {α : Type} (f : Nat → α) {d : Nat} (h : ∀ t, f (d + t) = f t) : ∀ q, (List.replicate q ((List.range d).map f)).flatten = (List.range (d * q)).map f
  | 0 => rfl
  | q + 1 => by
    rw [List.replicate_succ, List.flatten_cons, flat_per f h q, Nat.mul_succ, Nat.add_comm (d * q) d, List.range_add, List.map_append, List.map_map]
    congr 1
    exact List.map_congr_left fun t _ => (h t).symm
theorem mul_row {fz : Bool} {xs : List D} {k : Int} {h : Hs} (h0 : -(LN : Int) ≤ k) (h1 : k ≤ (LN : Int)) : binD .mul fz (.lst xs) (.int k) h = newL fz (List.replicate k.toNat xs).flatten h := if_pos ⟨h0, h1⟩
theorem pr_reprR {fz : Bool} {xs : List Int} {h : Hs} (s : Sml xs) (l : xs.length ≤ 10000) : primD .repr fz [.ref 0] (.lst (xs.map .int) :: h) = .ok (.str (shL xs)) (.lst (xs.map .int) :: h) := by
  show (match (D.pys (xs.map .int)).map PyData.list with
    | some x => if x.hasDict = false ∧ x.showable = true ∧ x.depth ≤ 64 ∧ x.shown.length ≤ LN then R.ok (D.str x.shown) _ else .stuck
    | none => .stuck) = _
  rw [pys_int]
  obtain ⟨a, b⟩ := shown_sum s
  have d := depth_all xs
  have n := listText_len_le (PyData.shownAll (xs.map .int))
  refine if_pos ⟨by simp only [PyData.hasDict, nodict_all], by simp only [PyData.showable, show_all s], by simp only [PyData.depth]; omega, ?_⟩
  simp only [PyData.shown]
  rw [LN_eq]
  omega
theorem map_snoc {α β : Type} (f : α → β) (g : Nat → α) (n : Nat) : ((List.range n).map g).map f ++ [f (g n)] = ((List.range (n + 1)).map g).map f := by
  rw [List.range_succ, List.map_append, List.map_append]; rfl
end Ev
namespace Ev
open PySem PySem.Spec PyProof.Rows L2
theorem lc_any {c : Cfg} {α : Type} {i : Nat} {ρ : Env} {e : Env → Hs → R D} {h : Hs} (g f : α → D) (hl : i < ρ.length) : ∀ (xs : List α) (acc : List D), (∀ x ∈ xs, e (ρ.set i (some (g x))) h = .ok (f x) h) → acc.length + xs.length ≤ LN →
    lcD (Tg.den c (.name i)) (Exs.tsts c .nil) e ρ (xs.map g) acc h = .ok (acc ++ xs.map f) h
  | [], acc, _, _ => by
    show R.ok acc h = .ok (acc ++ []) h
    rw [List.append_nil]
  | x :: xs, acc, he, hz => by
    have ih := lc_any (c := c) (ρ := ρ) (e := e) (h := h) g f hl xs (acc ++ [f x]) (fun y hy => he y (List.mem_cons_of_mem _ hy)) (by simp at hz ⊢; omega)
    have hn : acc.length < LN := by simp at hz; omega
    rw [List.map_cons]
    unfold lcD
    simp only [tg_name, if_pos hl, tsts_nil, he x List.mem_cons_self, if_pos hn]
    rw [ih, List.append_assoc]
    rfl
end Ev
set_option maxHeartbeats 1000000
/-! Ev, part AQ: rests and powers of figures where the lower ones are a list; which polynomials are no products. -/
namespace Ev
open PySem PySem.Spec PyProof.Rows L2
variable {c : Cfg}
abbrev rmlE (p : Int) (lo fg : List Int) (a b d e : Option D) : Env := [some (.int p), some (.lst (lo.map .int)), some (.lst (fg.map .int)), some (.int lo.length), some (.ref 0), a, b, d, e]
theorem rml_in {p : Int} (hp : Prm p) {lo fg row : List Int} (hlo : Fig p lo) {top at' : Int} (h0 : 0 ≤ at' - lo.length) (h1 : at' ≤ row.length) {d e : Option D} :
    ∃ ρ' h', forD (Tg.den c (.tup (.cons (.name 7) (.cons (.name 8) .nil)))) (Sms.den c remIn) (List.zipWith (fun k x => D.tup [D.int (k : Nat), x]) (List.range lo.length) (lo.map D.int)) (rmlE p lo fg (some (.int at')) (some (.int top)) d e) [.lst (row.map .int)] = .nx ρ' h' ∧
      ∃ d' e', ρ' = rmlE p lo fg (some (.int at')) (some (.int top)) d' e' ∧ h' = [.lst ((redK p lo top (at' - lo.length) row lo.length).map .int)] := by
  obtain ⟨hp0, hp1⟩ := hp
  refine for_enum (c := c) (b := Sms.den c remIn) (i := 7) (k := 8) D.int lo (fun j ρ h => ∃ d' e', ρ = rmlE p lo fg (some (.int at')) (some (.int top)) d' e' ∧ h = [.lst ((redK p lo top (at' - lo.length) row j).map .int)]) ⟨d, e, rfl, rfl⟩ fun j y ρ h hy ⟨d', e', e1, e2⟩ => ?_
  subst e1 e2
  have hj : j < lo.length := (List.getElem?_eq_some_iff.mp hy).1
  have hlen := redK_len p lo top (at' - lo.length) row j
  obtain ⟨y0, y1⟩ := hlo y (List.mem_of_getElem? hy)
  refine ⟨by simp, by simp, _, _, ?_, ⟨some (.int j), some (.int y), rfl, rfl⟩⟩
  unfold remIn
  rw [redK, at0_of hy]
  have q1 : (0 : Int) ≤ at' - lo.length + j := by omega
  have q2 : at' - lo.length + j < (redK p lo top (at' - lo.length) row j).length := by omega
  have q3 : -18446744073709551616 < y := by omega
  have q4 : y < 18446744073709551616 := by omega
  simp [rmlE, idx_r0, q1, q2, bin_mul, q3, q4, bin_mod, hp0, set_r0]
theorem rml_body {p : Int} (hp : Prm p) {lo fg : List Int} (hlo : Fig p lo) (h1 : lo.length ≤ fg.length) (h2 : fg.length ≤ 1000) :
    ∃ h', remB.den c [some (.int p), some (.lst (lo.map .int)), some (.lst (fg.map .int)), none, none, none, none, none, none] [] = .ret (.lst ((remL p lo fg).map .int)) h' := by
  have hN := LN_eq
  obtain ⟨ρ', h', e, a, b, d, e', rfl, rfl⟩ := for_name (c := c) (b := Sms.den c remOut) (i := 5) (fun k : Nat => D.int ((fg.length : Int) - 1 - k)) (List.range (fg.length - lo.length)) (fun t ρ h => ∃ a b d e, ρ = rmlE p lo fg a b d e ∧ h = [.lst ((redS p lo fg t).map .int)])
    (ρ := rmlE p lo fg none none none none) (h := [.lst (fg.map .int)]) ⟨none, none, none, none, rfl, rfl⟩ (fun t x ρ h hx ⟨a, b, d, e, e1, e2⟩ => by
      subst e1 e2
      have ht : t < fg.length - lo.length := by simpa using (List.getElem?_eq_some_iff.mp hx).1
      rw [List.getElem?_range ht] at hx
      cases hx
      have hlen := redS_len p lo fg t
      obtain ⟨ρ', h', e1, d', e', rfl, rfl⟩ := rml_in (c := c) hp (fg := fg) hlo (row := redS p lo fg t) (top := at0 (redS p lo fg t) ((fg.length : Int) - 1 - t)) (at' := (fg.length : Int) - 1 - t) (by omega) (by omega) (d := d) (e := e)
      refine ⟨by simp, rmlE p lo fg (some (.int ((fg.length : Int) - 1 - t))) (some (.int (at0 (redS p lo fg t) ((fg.length : Int) - 1 - t)))) d' e', _, ?_, ⟨_, _, d', e', rfl, rfl⟩⟩
      unfold remOut
      simp only [rmlE] at e1
      have q1 : (0 : Int) ≤ (fg.length : Int) - 1 - t := by omega
      have q2 : (fg.length : Int) - 1 - t < (redS p lo fg t).length := by omega
      have q3 := idx_r0 (h := []) q1 q2
      simp [rmlE, q3]
      rw [e1]
      rfl)
  rw [List.length_range] at e
  refine ⟨[.lst ((redS p lo fg (fg.length - lo.length)).map .int)], ?_⟩
  have a1 : -(LN : Int) ≤ (lo.length : Int) - fg.length := by omega
  have a2 : (lo.length : Int) - fg.length ≤ (LN : Int) := by omega
  have a3 : ((lo.length : Int) - fg.length).toNat = 0 := by omega
  have a4 : fg.length ≤ LN := by omega
  have a5 : -(LN : Int) ≤ (fg.length : Int) - 1 ∧ (fg.length : Int) - 1 ≤ (LN : Int) ∧ -(LN : Int) ≤ (lo.length : Int) - 1 ∧ (lo.length : Int) - 1 ≤ (LN : Int) := by omega
  have a6 : ((fg.length : Int) - 1 - ((lo.length : Int) - 1)).toNat = fg.length - lo.length := by omega
  have hsl : sliceD true (.ref 0) none (some (lo.length : Int)) [.lst ((redS p lo fg (fg.length - lo.length)).map D.int)] = .ok (.lst ((remL p lo fg).map .int)) [.lst ((redS p lo fg (fg.length - lo.length)).map D.int)] := by
    show newL true (cutD ((redS p lo fg (fg.length - lo.length)).map D.int) none (some (lo.length : Int))) _ = _
    rw [cut_take, new_fz (by rw [List.length_take, List.length_map, redS_len]; omega), ← List.map_take]
    rfl
  unfold remB
  simp only [rmlE] at e
  simp [new_fz, new_cell, rep_zero, a1, a2, a3, a4, a5, a6]
  rw [e]
  simp [hsl]
theorem rml1_body {p : Int} {lo : List Int} (A : Fld p lo) :
    ∃ h', remB.den c [some (.int p), some (.lst (lo.map .int)), some (.lst [.int 1]), none, none, none, none, none, none] [] = .ret (.lst ((vone p lo.length).map .int)) h' := by
  have hN := LN_eq
  have k1 := A.one
  have k2 := A.few
  have e1 := pad_one A.two k1
  have a1 : -(LN : Int) ≤ (lo.length : Int) - 1 := by omega
  have a2 : (lo.length : Int) - 1 ≤ (LN : Int) := by omega
  have a3 : ((lo.length : Int) - 1).toNat = lo.length - 1 := by omega
  have a4 : lo.length - 1 ≤ LN := by omega
  have a6 : lo.length - 1 + 1 ≤ LN := by omega
  have nf : ∀ h, newL false (D.int 1 :: (List.replicate (lo.length - 1) (0 : Int)).map D.int) h = .ok (.ref h.length) (h ++ [.lst ((vone p lo.length).map .int)]) := fun h => by
    rw [← e1]
    exact new_cell (by rw [List.length_cons, List.length_map, List.length_replicate]; omega)
  have lv : (vone p lo.length).length = lo.length := (one_V A).len
  have hsl : sliceD true (.ref 0) none (some (lo.length : Int)) [.lst ((vone p lo.length).map D.int)] = .ok (.lst ((vone p lo.length).map .int)) [.lst ((vone p lo.length).map D.int)] := by
    show newL true (cutD ((vone p lo.length).map D.int) none (some (lo.length : Int))) _ = _
    rw [cut_all (by rw [List.length_map, lv]; exact Nat.le_refl _), new_fz (by rw [List.length_map, lv]; omega)]
  have a5 : -(LN : Int) ≤ (lo.length : Int) - 1 ∧ (lo.length : Int) - 1 ≤ (LN : Int) := by omega
  refine ⟨[.lst ((vone p lo.length).map .int)], ?_⟩
  unfold remB
  simp only [List.map_replicate] at nf
  simp [rep_zero, a1, a2, a3, new_fz, a4, nf, lv, forD, hsl]
abbrev rilE (p : Int) (lo f g : List Int) (s : Nat) : Env := [some (.int p), some (.lst (lo.map .int)), some (.lst (g.map .int)), some (.int (s : Nat)), some (.lst (f.map .int))]
structure RilP (p : Int) (lo goal : List Int) (m : Nat) (ρ : Env) (h : Hs) : Prop where
  ex : ∃ (f g : List Int), ρ = rilE p lo f g m ∧ h = [] ∧ Vc p lo.length f ∧ Vc p lo.length g ∧ Mu p lo f (vpow p lo g m) = goal
theorem ril_body {p : Int} {lo : List Int} (A : Fld p lo) {x : List Int} (hx : Vc p lo.length x) (t : Nat) (ht : t < c.F) {iR iM : Nat}
    (h1 : ∀ h, c.Γ iR [.int p, .lst (lo.map .int), .lst [.int 1]] h = .ok (.lst ((vone p lo.length).map .int)) h)
    (hm : ∀ x y, Vc p lo.length x → Vc p lo.length y → ∀ h, c.Γ iM [.int p, .lst (x.map .int), .lst (y.map .int)] h = .ok (.lst ((mulL p x y).map .int)) h)
    (hr : ∀ x y, Vc p lo.length x → Vc p lo.length y → ∀ h, c.Γ iR [.int p, .lst (lo.map .int), .lst ((mulL p x y).map .int)] h = .ok (.lst ((Mu p lo x y).map .int)) h) :
    ∃ h', (raiB iR iM).den c [some (.int p), some (.lst (lo.map .int)), some (.lst (x.map .int)), some (.int (t : Nat)), none] [] = .ret (.lst ((vpow p lo x t).map .int)) h' := by
  obtain ⟨ρ', h', e, f, g, rfl, rfl, vf, vg, q⟩ := whileD_rel (c := (Ex.dt c (.cmp .gt (.var 3) (.cint 0))).2) (b := Sms.den c (raiL0 iR iM)) (RilP p lo (vpow p lo x t)) c.F t (rilE p lo (vone p lo.length) x t) [] ht
    ⟨⟨vone p lo.length, x, rfl, rfl, one_V A, hx, one_Mu A (pow_V A hx t)⟩⟩ (fun m ρ h ⟨f, g, e1, e2, vf, vg, q⟩ => by
      subst e1 e2
      by_cases hm0 : m = 0
      · refine .inl ⟨[], ?_, rfl, hm0⟩
        subst hm0
        simp [rilE]
      · have hpos : (0 : Int) < (m : Nat) := by omega
        have hd : ((m : Nat) : Int) / 2 = ((m / 2 : Nat) : Int) := by omega
        have e2 : vpow p lo (Mu p lo g g) (m / 2) = vpow p lo g (2 * (m / 2)) := by
          rw [pow_mul A vg]
          congr 1
          show _ = Mu p lo (vpow p lo g 1) g
          rw [pow_1 A vg]
        have m1 := hm g g vg vg
        have r1 := hr g g vg vg
        by_cases ho : ((m : Nat) : Int) % 2 = 1
        · have m2 := hm f g vf vg
          have r2 := hr f g vf vg
          refine .inr ⟨[], rilE p lo (Mu p lo f g) (Mu p lo g g) (m / 2), [], m / 2, by simp [rilE]; omega, .inl ?_, by omega, ⟨⟨_, _, rfl, rfl, Mu_V A vf vg, Mu_V A vg vg, ?_⟩⟩⟩
          · unfold raiL0
            simp [rilE, bin_mod, ho]
            unfold raiO
            simp [m2, r2]
            unfold raiL1
            simp [m1, r1]
            unfold raiL2
            simp [aug_fdiv]
          · rw [e2, Mu_assoc A vf vg (pow_V A vg _), ← q]
            congr 1
            rw [show m = 1 + 2 * (m / 2) from by omega, pow_add A vg, pow_1 A vg, show (1 + 2 * (m / 2)) / 2 = m / 2 from by omega]
        · refine .inr ⟨[], rilE p lo f (Mu p lo g g) (m / 2), [], m / 2, by simp [rilE]; omega, .inl ?_, by omega, ⟨⟨_, _, rfl, rfl, vf, Mu_V A vg vg, ?_⟩⟩⟩
          · unfold raiL0
            simp [rilE, bin_mod, ho]
            unfold raiL1
            simp [m1, r1]
            unfold raiL2
            simp [aug_fdiv]
          · rw [e2, ← q]
            congr 2
            omega)
  have q' : f = vpow p lo x t := by rw [← q]; exact (Mu_one A vf).symm
  subst q'
  refine ⟨[], ?_⟩
  unfold raiB
  simp [h1]
  unfold raiB1
  simp only [rilE] at e
  simp
  rw [e]
  unfold raiB2
  simp
/-! ### without leading zeros -/
def trmN (xs : List Int) : Nat → Nat
  | 0 => 0
  | m + 1 => if at0 xs (m : Nat) = 0 then trmN xs m else m + 1
def trm (xs : List Int) : List Int := xs.take (trmN xs xs.length)
theorem trmN_le (xs : List Int) : ∀ m, trmN xs m ≤ m
  | 0 => Nat.le_refl _
  | m + 1 => by
    rw [trmN]
    split
    · exact Nat.le_succ_of_le (trmN_le xs m)
    · exact Nat.le_refl _
theorem trm_len (xs : List Int) : (trm xs).length ≤ xs.length := by
  unfold trm; rw [List.length_take]; omega
theorem trm_fig {p : Int} {xs : List Int} (h : Fig p xs) : Fig p (trm xs) := fun y hy => h y (List.mem_of_mem_take hy)
/-! ### what gives 1 with a number -/
def trW (p : Int) : Nat → Int → Int → Int → Int
  | 0, f, _, _ => f
  | n + 1, f, g, t => if 0 < t then trW p n (if t % 2 = 1 then f * g % p else f) (g * g % p) (t / 2) else f
def trn (p x : Int) : Int := trW p 20 1 x (p - 2)
/-! ### common divisors -/
def hcW (p : Int) : Nat → List Int → List Int → List Int
  | 0, f, _ => f
  | n + 1, f, s => if s.length = 0 then f else hcW p n s (trm (remL p (s.dropLast.map fun y => y * trn p (at0 s ((s.length : Int) - 1)) % p) f))
def hc (p : Int) (F G : List Int) : Bool := decide (1 < (hcW p (G.length + 1) (trm F) (trm G)).length)
theorem hcW_nil (p : Int) (f : List Int) : ∀ n, hcW p n f [] = f
  | 0 => rfl
  | n + 1 => rfl
/-! ### which ones are no products -/
def rsP (p : Int) (lo x : List Int) : List Int := powW p lo 20 (vone p lo.length) x p
def irrT (p : Int) (lo : List Int) : Nat → List Int → Bool
  | 0, _ => true
  | n + 1, f => if hc p (lo ++ [1]) (put (rsP p lo f) 1 ((at0 (rsP p lo f) 1 - 1) % p)) = true then false else irrT p lo n (rsP p lo f)
def xfig (p : Int) (lo : List Int) : List Int := if 2 ≤ lo.length then 0 :: 1 :: List.replicate (lo.length - 2) 0 else remL p lo [0, 1]
def irr (p : Int) (lo : List Int) : Bool := irrT p lo (lo.length / 2) (xfig p lo)
def lowT (p : Int) (k r : Nat) (lo : List Int) : Bool := decide (figs p k r = lo) && ((List.range r).all fun j => !irr p (figs p k j)) && irr p lo
theorem lowT_ok {p : Int} {k r : Nat} {lo : List Int} (h : lowT p k r lo = true) : figs p k r = lo ∧ (∀ j : Nat, j < r → irr p (figs p k j) = false) ∧ irr p (figs p k r) = true := by
  unfold lowT at h
  rw [Bool.and_eq_true, Bool.and_eq_true, decide_eq_true_eq, List.all_eq_true] at h
  obtain ⟨⟨h1, h2⟩, h3⟩ := h
  refine ⟨h1, fun j hj => ?_, by rw [h1]; exact h3⟩
  have := h2 j (List.mem_range.mpr hj)
  simpa using this
theorem rsP_eq {p : Int} {lo : List Int} (A : Fld p lo) {x : List Int} (hx : Vc p lo.length x) {P : Nat} (e : p = P) : vpow p lo x P = rsP p lo x := by
  unfold rsP
  have hb := A.prm.lt
  have h2 : P < 2 ^ 20 := by
    have : (2 : Nat) ^ 20 = 1048576 := by decide
    omega
  have h := powW_eq A 20 P (one_V A) hx h2
  rw [← e] at h
  rw [h, one_Mu A (pow_V A hx P)]
/-! ### lists in cells -/
theorem cell_at (h : Hs) (x : Cell) : (h ++ [x])[h.length]? = some x := by simp
theorem idx_hl {xs : List Int} {k : Int} {h : Hs} (h0 : 0 ≤ k) (h1 : k < xs.length) : idxD (.ref h.length) (.int k) (h ++ [.lst (xs.map .int)]) = .ok (.int (at0 xs k)) (h ++ [.lst (xs.map .int)]) := by
  unfold idxD dctOf seqOf
  dsimp only
  rw [cell_at]
  show (match atI (xs.map D.int) k with | some v => R.ok v _ | none => R.stuck) = _
  rw [at_ok h0 h1]
theorem set_hl {xs : List Int} {k v : Int} {h : Hs} (h0 : 0 ≤ k) (h1 : k < xs.length) : setD (.ref h.length) (.int k) (.int v) (h ++ [.lst (xs.map .int)]) = some (h ++ [.lst ((put xs k v).map .int)]) := by
  unfold setD
  dsimp only
  rw [cell_at]
  show (ixN (xs.map D.int).length k).map _ = _
  rw [List.length_map, ix_ok h0 h1]
  show some ((h ++ [Cell.lst (xs.map D.int)]).set h.length (.lst ((xs.map D.int).set k.toNat (.int v)))) = _
  unfold put
  rw [List.map_set, List.set_append_right _ _ (Nat.le_refl _), Nat.sub_self]
  rfl
theorem frz_hl {xs : List Int} {h : Hs} : freezeD (.ref h.length) (h ++ [.lst (xs.map .int)]) = .ok (.lst (xs.map .int)) (h ++ [.dead]) := by
  rw [frz_ref (cell_at h _) (pures_ints xs), List.set_append_right _ _ (Nat.le_refl _), Nat.sub_self]
  rfl
theorem idx_last {xs : List Int} {h : Hs} (hn : 0 < xs.length) : idxD (.lst (xs.map .int)) (.int (-1)) h = .ok (.int (at0 xs ((xs.length : Int) - 1))) h := by
  have e : atI (xs.map D.int) (-1) = atI (xs.map D.int) ((xs.length : Int) - 1) := by
    have q : ixN xs.length (-1) = ixN xs.length ((xs.length : Int) - 1) := by
      rw [ix_ok (n := xs.length) (k := (xs.length : Int) - 1) (by omega) (by omega)]
      unfold ixN
      rw [if_neg (by decide)]
      rw [if_pos (by omega)]
      congr 1
    unfold atI
    rw [List.length_map, q]
  show (match atI (xs.map D.int) (-1) with | some v => R.ok v h | none => R.stuck) = _
  rw [e, at_ok (by omega) (by omega)]
theorem cut_drop {α : Type} (xs : List α) : cutD xs none (some (-1)) = xs.dropLast := by
  have e : HT.sIx xs.length xs.length (some (-1)) = xs.length - 1 := by
    show (if (-1 : Int) < 0 then ((-1 : Int) + (xs.length : Int)).toNat else min (-1 : Int).toNat xs.length) = _
    rw [if_pos (by decide)]
    omega
  unfold cutD
  rw [e, HT.sIx_none, List.drop_zero, Nat.sub_zero, List.dropLast_eq_take]
@[simp] theorem tru_lst (xs : List D) (h : Hs) : truD h (.lst xs) = some (!xs.isEmpty) := rfl
/-- the figures of x itself -/
theorem rml01_body {p : Int} {lo : List Int} (k1 : 2 ≤ lo.length) (k2 : lo.length ≤ 400) :
    ∃ h', remB.den c [some (.int p), some (.lst (lo.map .int)), some (.lst [.int 0, .int 1]), none, none, none, none, none, none] [] = .ret (.lst ((0 :: 1 :: List.replicate (lo.length - 2) 0 : List Int).map .int)) h' := by
  have hN := LN_eq
  obtain ⟨xs, hx⟩ : ∃ xs : List Int, xs = 0 :: 1 :: List.replicate (lo.length - 2) 0 := ⟨_, rfl⟩
  have lv : xs.length = lo.length := by rw [hx, List.length_cons, List.length_cons, List.length_replicate]; omega
  have a1 : -(LN : Int) ≤ (lo.length : Int) - 2 := by omega
  have a2 : (lo.length : Int) - 2 ≤ (LN : Int) := by omega
  have a3 : ((lo.length : Int) - 2).toNat = lo.length - 2 := by omega
  have a4 : lo.length - 2 ≤ LN := by omega
  have nf : ∀ h, newL false (D.int 0 :: D.int 1 :: (List.replicate (lo.length - 2) (0 : Int)).map D.int) h = .ok (.ref h.length) (h ++ [.lst (xs.map .int)]) := fun h => by
    rw [hx]
    exact new_cell (by rw [List.length_cons, List.length_cons, List.length_map, List.length_replicate]; omega)
  have n2 : ∀ h, newL true [D.int 0, D.int 1] h = .ok (.lst [.int 0, .int 1]) h := fun h => new_fz (by rw [hN]; show 2 ≤ _; decide)
  have hsl : sliceD true (.ref 0) none (some (lo.length : Int)) [.lst (xs.map D.int)] = .ok (.lst (xs.map .int)) [.lst (xs.map D.int)] := by
    show newL true (cutD (xs.map D.int) none (some (lo.length : Int))) _ = _
    rw [cut_all (by rw [List.length_map, lv]; exact Nat.le_refl _), new_fz (by rw [List.length_map, lv]; omega)]
  have a5 : -(LN : Int) ≤ (lo.length : Int) - 1 ∧ (lo.length : Int) - 1 ≤ (LN : Int) := by omega
  refine ⟨[.lst (xs.map .int)], ?_⟩
  rw [← hx]
  unfold remB
  simp only [List.map_replicate] at nf
  simp [rep_zero, a1, a2, a3, new_fz, n2, a4, nf, lv, forD, hsl, a5]
end Ev
set_option maxHeartbeats 1000000
/-! Ev, part Sq: squares of signs, renamed, turned; the first pair that stands twice. -/
namespace Ev
open PySem PySem.Spec PyProof.Rows L2
def rng (n : Nat) : List Int := (List.range n).map fun k : Nat => (k : Int)
theorem rng_len (n : Nat) : (rng n).length = n := by unfold rng; rw [List.length_map, List.length_range]
theorem rng_mem {n : Nat} {x : Int} : x ∈ rng n ↔ 0 ≤ x ∧ x < n := by
  unfold rng
  rw [List.mem_map]
  constructor
  · rintro ⟨k, hk, rfl⟩
    have := List.mem_range.mp hk
    omega
  · rintro ⟨h0, h1⟩
    exact ⟨x.toNat, List.mem_range.mpr (by omega), by omega⟩
theorem rng_get {n k : Nat} (h : k < n) : (rng n).getD k 0 = k := by
  unfold rng
  rw [List.getD_eq_getElem?_getD, List.getElem?_map, List.getElem?_range h]; rfl
def colI (m : List (List Int)) (c : Nat) : List Int := m.map fun r => r.getD c 0
structure Lat (n : Nat) (m : List (List Int)) : Prop where
  len : m.length = n
  row : ∀ r ∈ m, r.Perm (rng n)
  col : ∀ c, c < n → (colI m c).Perm (rng n)
theorem rng_sorted (n : Nat) : (rng n).Pairwise (· ≤ ·) := by
  unfold rng
  rw [List.pairwise_map]
  exact List.Pairwise.imp (fun h => by omega) (List.pairwise_lt_range (n := n))
theorem sort_rng {l : List Int} {n : Nat} : sortI l = rng n ↔ l.Perm (rng n) := by
  constructor
  · intro h; rw [← h]; exact (sortI_perm l).symm
  · intro h; exact sorted_uniq (sortI_sorted l) (rng_sorted n) ((sortI_perm l).trans h)
def latB (m : List (List Int)) : Bool := decide (1 ≤ m.length ∧ m.length ≤ 12) && (m.all (fun r => sortI r == rng m.length) && (List.range m.length).all fun c => sortI (colI m c) == rng m.length)
theorem Lat.b {n : Nat} {m : List (List Int)} (L : Lat n m) (h1 : 1 ≤ n) (h2 : n ≤ 12) : latB m = true := by
  unfold latB
  rw [L.len, Bool.and_eq_true, Bool.and_eq_true, decide_eq_true_eq, List.all_eq_true, List.all_eq_true]
  refine ⟨⟨h1, h2⟩, fun r hr => ?_, fun c hc => ?_⟩
  · rw [beq_iff_eq]; exact sort_rng.mpr (L.row r hr)
  · rw [beq_iff_eq]; exact sort_rng.mpr (L.col c (List.mem_range.mp hc))
theorem lat_of {m : List (List Int)} (h : latB m = true) : Lat m.length m ∧ 1 ≤ m.length ∧ m.length ≤ 12 := by
  unfold latB at h
  rw [Bool.and_eq_true, Bool.and_eq_true, decide_eq_true_eq, List.all_eq_true, List.all_eq_true] at h
  exact ⟨⟨rfl, fun r hr => sort_rng.mp (beq_iff_eq.mp (h.2.1 r hr)), fun c hc => sort_rng.mp (beq_iff_eq.mp (h.2.2 c (List.mem_range.mpr hc)))⟩, h.1⟩
theorem map_getD {α β : Type} (f : α → β) (d : α) : ∀ (l : List α), (List.range l.length).map (fun i => f (l.getD i d)) = l.map f := fun l => by
  refine List.ext_getElem? fun i => ?_
  rw [List.getElem?_map, List.getElem?_map]
  by_cases h : i < l.length
  · rw [List.getElem?_range h, List.getElem?_eq_getElem h, Option.map_some, Option.map_some, List.getD_eq_getElem?_getD, List.getElem?_eq_getElem h]; rfl
  · rw [List.getElem?_eq_none (by simpa using h), List.getElem?_eq_none (l := l) (by omega)]; rfl
theorem map_rng {β : Type} (f : Int → β) (n : Nat) : (rng n).map f = (List.range n).map fun k : Nat => f (k : Int) := by
  unfold rng; rw [List.map_map]; rfl
/-- an arrangement's images -/
theorem perm_im {n : Nat} {l p : List Int} (hl : l.Perm (rng n)) (hp : p.length = n) : (l.map fun c => p.getD c.toNat 0).Perm p := by
  refine (hl.map _).trans ?_
  rw [map_rng]
  have e : (fun k : Nat => p.getD (k : Int).toNat 0) = fun k => p.getD k 0 := by funext k; rw [Int.toNat_natCast]
  rw [e]
  have := map_getD (fun x : Int => x) 0 p
  rw [hp, List.map_id'] at this
  rw [this]
def at2 (P : List (List Int)) (r c : Int) : Int := (P.getD r.toNat []).getD c.toNat 0
def ren (P : List (List Int)) (rs cs ss : List Int) : List (List Int) := rs.map fun r => cs.map fun c => ss.getD (at2 P r c).toNat 0
theorem Lat.at {n : Nat} {m : List (List Int)} (L : Lat n m) {r : Nat} (h : r < n) : m.getD r [] ∈ m := by
  rw [List.getD_eq_getElem?_getD, List.getElem?_eq_getElem (by rw [L.len]; exact h)]
  exact List.getElem_mem _
theorem Lat.rlen {n : Nat} {m : List (List Int)} (L : Lat n m) {r : List Int} (h : r ∈ m) : r.length = n := by rw [(L.row r h).length_eq, rng_len]
theorem Lat.ren {n : Nat} {P : List (List Int)} (L : Lat n P) {rs cs ss : List Int} (hr : rs.Perm (rng n)) (hc : cs.Perm (rng n)) (hs : ss.Perm (rng n)) : Lat n (ren P rs cs ss) := by
  have ls : ss.length = n := by rw [hs.length_eq, rng_len]
  have lc : cs.length = n := by rw [hc.length_eq, rng_len]
  refine ⟨by unfold Ev.ren; rw [List.length_map, hr.length_eq, rng_len], fun row hm => ?_, fun j hj => ?_⟩
  · unfold Ev.ren at hm
    obtain ⟨r, hrm, rfl⟩ := List.mem_map.mp hm
    have hb := rng_mem.mp (hr.subset hrm)
    have hp := L.at (r := r.toNat) (by omega)
    have e : (cs.map fun c => ss.getD (at2 P r c).toNat 0) = (cs.map fun c => (P.getD r.toNat []).getD c.toNat 0).map fun v => ss.getD v.toNat 0 := by rw [List.map_map]; rfl
    rw [e]
    exact ((((perm_im hc (L.rlen hp)).trans (L.row _ hp)).map _).trans (perm_im (l := rng n) (List.Perm.refl _) ls)).trans hs
  · have hj' : j < cs.length := by omega
    have e : colI (Ev.ren P rs cs ss) j = (rs.map fun r => at2 P r (cs.getD j 0)).map fun v => ss.getD v.toNat 0 := by
      unfold colI Ev.ren
      rw [List.map_map, List.map_map]
      refine List.map_congr_left fun r _ => ?_
      show (cs.map _).getD j 0 = _
      rw [List.getD_eq_getElem?_getD, List.getElem?_map, List.getElem?_eq_getElem hj', List.getD_eq_getElem?_getD, List.getElem?_eq_getElem hj']
      rfl
    rw [e]
    have hcj : cs.getD j 0 ∈ cs := by
      rw [List.getD_eq_getElem?_getD, List.getElem?_eq_getElem hj']; exact List.getElem_mem _
    have hb := rng_mem.mp (hc.subset hcj)
    have e2 : (rs.map fun r => at2 P r (cs.getD j 0)).Perm (colI P (cs.getD j 0).toNat) := by
      refine (hr.map _).trans ?_
      rw [map_rng]
      have : (fun k : Nat => at2 P (k : Int) (cs.getD j 0)) = fun k => (P.getD k []).getD (cs.getD j 0).toNat 0 := by
        funext k; unfold at2; rw [Int.toNat_natCast]
      rw [this]
      have q := map_getD (fun x : List Int => x.getD (cs.getD j 0).toNat 0) [] P
      rw [L.len] at q
      rw [q]
      exact List.Perm.refl _
    exact (((e2.trans (L.col _ (by omega))).map _).trans (perm_im (l := rng n) (List.Perm.refl _) ls)).trans hs
def tr (n : Nat) (m : List (List Int)) : List (List Int) := (List.range n).map fun c => colI m c
theorem Lat.tr {n : Nat} {m : List (List Int)} (L : Lat n m) : Lat n (tr n m) := by
  refine ⟨by unfold Ev.tr; rw [List.length_map, List.length_range], fun r hr => ?_, fun c hc => ?_⟩
  · unfold Ev.tr at hr
    obtain ⟨k, hk, rfl⟩ := List.mem_map.mp hr
    exact L.col k (List.mem_range.mp hk)
  · have hm := L.at hc
    have e : colI (Ev.tr n m) c = (m.getD c []) := by
      unfold colI Ev.tr
      rw [List.map_map]
      have q := map_getD (fun x : Int => x) 0 (m.getD c [])
      rw [L.rlen hm, List.map_id'] at q
      refine Eq.trans (List.map_congr_left fun k _ => ?_) q
      show (colI m k).getD c 0 = _
      unfold colI
      have hc' : c < m.length := by rw [L.len]; exact hc
      rw [List.getD_eq_getElem?_getD, List.getElem?_map, List.getElem?_eq_getElem hc', List.getD_eq_getElem?_getD (l := m), List.getElem?_eq_getElem hc']
      rfl
    rw [e]
    exact L.row _ hm
/-- signs renamed alone -/
def sgn (m : List (List Int)) (ss : List Int) : List (List Int) := m.map fun r => r.map fun v => ss.getD v.toNat 0
theorem Lat.sgn {n : Nat} {m : List (List Int)} (L : Lat n m) {ss : List Int} (hs : ss.Perm (rng n)) : Lat n (sgn m ss) := by
  have ls : ss.length = n := by rw [hs.length_eq, rng_len]
  refine ⟨by unfold Ev.sgn; rw [List.length_map, L.len], fun row hm => ?_, fun c hc => ?_⟩
  · unfold Ev.sgn at hm
    obtain ⟨r, hr, rfl⟩ := List.mem_map.mp hm
    exact (((L.row r hr).map _).trans (perm_im (l := rng n) (List.Perm.refl _) ls)).trans hs
  · have e : colI (Ev.sgn m ss) c = (colI m c).map fun v => ss.getD v.toNat 0 := by
      unfold colI Ev.sgn
      rw [List.map_map, List.map_map]
      refine List.map_congr_left fun r hr => ?_
      have hl := L.rlen hr
      show (r.map _).getD c 0 = _
      rw [List.getD_eq_getElem?_getD, List.getElem?_map, List.getElem?_eq_getElem (by omega)]
      show _ = ss.getD (r.getD c 0).toNat 0
      rw [List.getD_eq_getElem?_getD (l := r), List.getElem?_eq_getElem (by omega)]
      rfl
    rw [e]
    exact (((L.col c hc).map _).trans (perm_im (l := rng n) (List.Perm.refl _) ls)).trans hs
/-! ### two places exchanged -/
theorem swap_perm (l : List Int) {i j : Nat} (hi : i < l.length) (hj : j < l.length) : ((l.set i (l.getD j 0)).set j (l.getD i 0)).Perm l := by
  have e := Array.swap_perm (xs := l.toArray) (i := i) (j := j) (by simpa using hi) (by simpa using hj)
  have e2 := Array.perm_iff_toList_perm.mp e
  rw [Array.toList_swap] at e2
  have g1 : l.toArray[i]'(by simpa using hi) = l.getD i 0 := by
    rw [List.getD_eq_getElem?_getD, List.getElem?_eq_getElem hi]; rfl
  have g2 : l.toArray[j]'(by simpa using hj) = l.getD j 0 := by
    rw [List.getD_eq_getElem?_getD, List.getElem?_eq_getElem hj]; rfl
  rw [g1, g2] at e2
  exact e2
/-! ### the first pair that stands twice -/
abbrev Sn := List ((Int × Int) × (Nat × Nat))
def cellS (f g : Nat → Nat → Int) (r c : Nat) (s : Sn) : Sum (List Int) Sn := match s.lookup (f r c, g r c) with
  | some p => .inl [(p.1 : Int), (p.2 : Int), (r : Int), (c : Int)]
  | none => .inr (s ++ [((f r c, g r c), (r, c))])
def rowS (f g : Nat → Nat → Int) (r : Nat) : List Nat → Sn → Sum (List Int) Sn
  | [], s => .inr s
  | c :: cs, s => match cellS f g r c s with
    | .inl x => .inl x
    | .inr s' => rowS f g r cs s'
def allS (f g : Nat → Nat → Int) (n : Nat) : List Nat → Sn → Sum (List Int) Sn
  | [], s => .inr s
  | r :: rs, s => match rowS f g r (List.range n) s with
    | .inl x => .inl x
    | .inr s' => allS f g n rs s'
def repS (f g : Nat → Nat → Int) (n : Nat) : Option (List Int) := match allS f g n (List.range n) [] with
  | .inl x => some x
  | .inr _ => none
def toKV (s : Sn) : List (DKey × D) := s.map fun p => (.inr [.inl p.1.1, .inl p.1.2], .tup [.int (p.2.1 : Nat), .int (p.2.2 : Nat)])
theorem toKV_get (s : Sn) (a b : Int) : dget (toKV s) (.inr [.inl a, .inl b]) = (s.lookup (a, b)).map fun p => D.tup [.int (p.1 : Nat), .int (p.2 : Nat)] := by
  induction s with
  | nil => rfl
  | cons p s ih =>
    obtain ⟨⟨x, y⟩, q⟩ := p
    unfold toKV dget at ih ⊢
    rw [List.map_cons, List.find?_cons, List.lookup_cons]
    by_cases e : (a, b) = (x, y)
    · cases e
      simp
    · have e1 : ((a, b) == (x, y)) = false := by simpa using e
      have e2 : decide ((Sum.inr [Sum.inl x, Sum.inl y] : DKey) = Sum.inr [Sum.inl a, Sum.inl b]) = false := by
        rw [decide_eq_false_iff_not]
        intro z
        injection z with z
        injection z with z1 z2
        injection z2 with z2 _
        injection z1 with z1
        injection z2 with z2
        exact e (by rw [z1, z2])
      rw [e1]
      simp only [e2]
      exact ih
theorem toKV_put (s : Sn) (a b : Int) (r c : Nat) (h : s.lookup (a, b) = none) : dput (toKV s) (.inr [.inl a, .inl b]) (.tup [.int (r : Nat), .int (c : Nat)]) = toKV (s ++ [((a, b), (r, c))]) := by
  have hn : (toKV s).any (fun kv => decide (kv.1 = (.inr [.inl a, .inl b] : DKey))) = false := by
    have := toKV_get s a b
    rw [h] at this
    unfold dget at this
    rw [Option.map_none, Option.map_eq_none_iff, List.find?_eq_none] at this
    rw [List.any_eq_false]
    exact this
  unfold dput
  rw [hn]
  unfold toKV
  rw [List.map_append]; rfl
theorem toKV_len (s : Sn) : (toKV s).length = s.length := by unfold toKV; rw [List.length_map]
/-- what a walk over pairs gives back -/
def repD : Option (List Int) → D
  | some x => .tup (x.map .int)
  | none => .non
theorem cellS_len {f g : Nat → Nat → Int} {r c : Nat} {s s' : Sn} (h : cellS f g r c s = .inr s') : s'.length = s.length + 1 := by
  unfold cellS at h
  split at h
  · cases h
  · cases h; rw [List.length_append]; rfl
theorem rowS_len {f g : Nat → Nat → Int} {r : Nat} : ∀ {cs : List Nat} {s s' : Sn}, rowS f g r cs s = .inr s' → s'.length = s.length + cs.length
  | [], s, s', h => by unfold rowS at h; cases h; rfl
  | c :: cs, s, s', h => by
    unfold rowS at h
    split at h
    · cases h
    · rename_i s1 e
      rw [rowS_len h, cellS_len e, List.length_cons]; omega
/-- the inner loop -/
theorem in_rep {cf : Cfg} {ic : Nat} {b : Env → Hs → Out} {f g : Nat → Nat → Int} {r : Nat} {E : Option D → Option D → Env}
    (hset : ∀ u t (j : Nat), ic < (E u t).length ∧ (E u t).set ic (some (.int (j : Nat))) = E (some (.int (j : Nat))) t)
    (cs : List Nat) (hb : ∀ j ∈ cs, ∀ t (s : Sn), s.length < LN → b (E (some (.int (j : Nat))) t) [.dct true (toKV s)] = match cellS f g r j s with
      | .inl x => .ret (.tup (x.map .int)) [.dct true (toKV s)]
      | .inr s' => .nx (E (some (.int (j : Nat))) (some (.tup [.int (f r j), .int (g r j)]))) [.dct true (toKV s')]) :
    ∀ u t (s : Sn), s.length + cs.length < LN → ∃ u' t' s', forD (Tg.den cf (.name ic)) b (cs.map fun k => D.int (k : Nat)) (E u t) [.dct true (toKV s)] = match rowS f g r cs s with
      | .inl x => .ret (.tup (x.map .int)) [.dct true (toKV s')]
      | .inr s' => .nx (E u' t') [.dct true (toKV s')] := by
  induction cs with
  | nil => exact fun u t s _ => ⟨u, t, s, rfl⟩
  | cons c cs ih =>
    intro u t s hl
    have h1 := hb c List.mem_cons_self t s (by simp at hl; omega)
    obtain ⟨hlt, hs⟩ := hset u t c
    rw [List.map_cons]
    unfold forD rowS
    rw [tg_name, if_pos hlt, hs]
    simp only []
    rw [h1]
    cases e : cellS f g r c s with
    | inl x => exact ⟨u, t, s, rfl⟩
    | inr s1 =>
      obtain ⟨u', t', s', q⟩ := ih (fun j hj => hb j (List.mem_cons_of_mem _ hj)) (some (.int (c : Nat))) (some (.tup [.int (f r c), .int (g r c)])) s1 (by rw [cellS_len e]; simp at hl; omega)
      exact ⟨u', t', s', q⟩
/-- both loops -/
theorem out_rep {cf : Cfg} {ir : Nat} {b : Env → Hs → Out} {f g : Nat → Nat → Int} {n : Nat} {E : Option D → Option D → Option D → Env}
    (hset : ∀ v u t (j : Nat), ir < (E v u t).length ∧ (E v u t).set ir (some (.int (j : Nat))) = E (some (.int (j : Nat))) u t)
    (rs : List Nat) (hb : ∀ j ∈ rs, ∀ u t (s : Sn), s.length + n < LN → ∃ u' t' s', b (E (some (.int (j : Nat))) u t) [.dct true (toKV s)] = match rowS f g j (List.range n) s with
      | .inl x => .ret (.tup (x.map .int)) [.dct true (toKV s')]
      | .inr s' => .nx (E (some (.int (j : Nat))) u' t') [.dct true (toKV s')]) :
    ∀ v u t (s : Sn), s.length + rs.length * n < LN → n < LN → ∃ v' u' t' s', forD (Tg.den cf (.name ir)) b (rs.map fun k => D.int (k : Nat)) (E v u t) [.dct true (toKV s)] = match allS f g n rs s with
      | .inl x => .ret (.tup (x.map .int)) [.dct true (toKV s')]
      | .inr s' => .nx (E v' u' t') [.dct true (toKV s')] := by
  induction rs with
  | nil => exact fun v u t s _ _ => ⟨v, u, t, s, rfl⟩
  | cons r rs ih =>
    intro v u t s hl hn
    have hm : (r :: rs).length * n = n + rs.length * n := by rw [List.length_cons, Nat.succ_mul, Nat.add_comm]
    obtain ⟨u1, t1, s1, h1⟩ := hb r List.mem_cons_self u t s (by rw [hm] at hl; omega)
    obtain ⟨hlt, hs⟩ := hset v u t r
    rw [List.map_cons]
    unfold forD allS
    rw [tg_name, if_pos hlt, hs]
    simp only []
    rw [h1]
    cases e : rowS f g r (List.range n) s with
    | inl x => exact ⟨v, u, t, s1, rfl⟩
    | inr s2 =>
      obtain ⟨v', u', t', s', q⟩ := ih (fun j hj => hb j (List.mem_cons_of_mem _ hj)) (some (.int (r : Nat))) u1 t1 s2 (by rw [rowS_len e, List.length_range]; rw [hm] at hl; omega) hn
      exact ⟨v', u', t', s', q⟩
end Ev
set_option maxHeartbeats 1000000
/-! Ev, part Sr: data compared, kind by kind; loops that look and raise; squares as data. -/
namespace Ev
open PySem PySem.Spec PyProof.Rows L2
/-! ### compared -/
/-- how values of a type lie as data: equality is equality -/
structure Emb {α : Type} [DecidableEq α] (f : α → D) (k : Nat) : Prop where
  ex : ∃ g : α → PyData, (∀ a h, (f a).pyH h = some (g a) ∧ (f a).py = some (g a)) ∧ (∀ a b, PyData.eqv (g a) (g b) = decide (a = b)) ∧ ∀ a, (g a).canLay0 = true ∧ (g a).depth ≤ k
  ns : ∀ a b, strEq (f a) (f b) = none
section
variable {α : Type} [DecidableEq α] {f : α → D} {k : Nat}
theorem Emb.eq (E : Emb f k) (hk : k ≤ 64) (a b : α) (h : Hs) : cmpD .eq (f a) (f b) h = .ok (.bl (decide (a = b))) h := by
  obtain ⟨g, h1, h2, h3⟩ := E.ex
  unfold cmpD
  dsimp only
  rw [E.ns a b]
  dsimp only
  rw [(h1 a h).1, (h1 b h).1]
  have s : ∀ a, SeqAt.shaped (g a) = true := fun a => by
    unfold SeqAt.shaped
    rw [(h3 a).1, decide_eq_true (Nat.le_trans (h3 a).2 hk)]; rfl
  dsimp only
  rw [s a, s b, h2 a b]; rfl
theorem Emb.ne (E : Emb f k) (hk : k ≤ 64) (a b : α) (h : Hs) : cmpD .ne (f a) (f b) h = .ok (.bl (!decide (a = b))) h := by
  obtain ⟨g, h1, h2, h3⟩ := E.ex
  unfold cmpD
  dsimp only
  rw [E.ns a b]
  dsimp only
  rw [(h1 a h).1, (h1 b h).1]
  have s : ∀ a, SeqAt.shaped (g a) = true := fun a => by
    unfold SeqAt.shaped
    rw [(h3 a).1, decide_eq_true (Nat.le_trans (h3 a).2 hk)]; rfl
  dsimp only
  rw [s a, s b, h2 a b]; rfl
theorem emb_int : Emb D.int 0 := ⟨⟨PyData.int, fun _ _ => ⟨rfl, rfl⟩, fun a b => by simp [PyData.eqv]; rfl, fun a => by simp [PyData.canLay0, PyData.depth]⟩, fun _ _ => rfl⟩
theorem all_py {g : α → PyData} (h1 : ∀ a h, (f a).pyH h = some (g a) ∧ (f a).py = some (g a)) : ∀ xs : List α, D.pys (xs.map f) = some (xs.map g)
  | [] => rfl
  | x :: xs => by
    rw [List.map_cons, List.map_cons]
    unfold D.pys
    rw [(h1 x []).2, all_py h1 xs]
theorem all_eqv {g : α → PyData} (h2 : ∀ a b, PyData.eqv (g a) (g b) = decide (a = b)) : ∀ xs ys : List α, PyData.eqvAll (xs.map g) (ys.map g) = decide (xs = ys)
  | [], [] => by simp [PyData.eqvAll]
  | [], _ :: _ => by simp [PyData.eqvAll]
  | _ :: _, [] => by simp [PyData.eqvAll]
  | x :: xs, y :: ys => by
    rw [List.map_cons, List.map_cons]
    unfold PyData.eqvAll
    rw [h2, all_eqv h2 xs ys]
    by_cases e1 : x = y <;> by_cases e2 : xs = ys <;> simp [e1, e2]
theorem all_lay {g : α → PyData} (h3 : ∀ a, (g a).canLay0 = true ∧ (g a).depth ≤ k) : ∀ xs : List α, PyData.canLayAll0 (xs.map g) = true ∧ PyData.depthAll (xs.map g) ≤ k
  | [] => by simp [PyData.canLayAll0, PyData.depthAll]
  | x :: xs => by
    obtain ⟨a, b⟩ := all_lay h3 xs
    have c := h3 x
    rw [List.map_cons]
    refine ⟨by simp [PyData.canLayAll0, c.1, a], ?_⟩
    simp only [PyData.depthAll]
    omega
theorem emb_lst (E : Emb f k) : Emb (fun xs : List α => D.lst (xs.map f)) (k + 1) := by
  obtain ⟨g, h1, h2, h3⟩ := E.ex
  refine ⟨⟨fun xs => .list (xs.map g), fun xs h => ?_, fun a b => ?_, fun a => ?_⟩, fun _ _ => rfl⟩
  · have := all_py h1 xs
    constructor
    · show (D.pys (xs.map f)).map PyData.list = _
      rw [this]; rfl
    · show (D.pys (xs.map f)).map PyData.list = _
      rw [this]; rfl
  · rw [PyData.eqv]; exact all_eqv h2 a b
  · obtain ⟨q1, q2⟩ := all_lay h3 a
    refine ⟨by rw [PyData.canLay0]; exact q1, ?_⟩
    rw [PyData.depth]; omega
theorem emb_tup (E : Emb f k) : Emb (fun xs : List α => D.tup (xs.map f)) (k + 1) := by
  obtain ⟨g, h1, h2, h3⟩ := E.ex
  refine ⟨⟨fun xs => .tuple (xs.map g), fun xs h => ?_, fun a b => ?_, fun a => ?_⟩, fun _ _ => rfl⟩
  · have := all_py h1 xs
    constructor
    · show (D.pys (xs.map f)).map PyData.tuple = _
      rw [this]; rfl
    · show (D.pys (xs.map f)).map PyData.tuple = _
      rw [this]; rfl
  · rw [PyData.eqv]; exact all_eqv h2 a b
  · obtain ⟨q1, q2⟩ := all_lay h3 a
    refine ⟨by rw [PyData.canLay0]; exact q1, ?_⟩
    rw [PyData.depth]; omega
/-- .. or nothing -/
theorem emb_opt (E : Emb (fun xs : List α => D.tup (xs.map f)) (k + 1)) (hf : ∃ g : α → PyData, (∀ a h, (f a).pyH h = some (g a) ∧ (f a).py = some (g a)) ∧ (∀ a b, PyData.eqv (g a) (g b) = decide (a = b)) ∧ ∀ a, (g a).canLay0 = true ∧ (g a).depth ≤ k) :
    Emb (fun o : Option (List α) => match o with | some xs => D.tup (xs.map f) | none => .non) (k + 1) := by
  obtain ⟨g, h1, h2, h3⟩ := hf
  refine ⟨⟨fun o => match o with | some xs => .tuple (xs.map g) | none => .none, fun o h => ?_, fun a b => ?_, fun a => ?_⟩, fun a b => ?_⟩
  · cases o with
    | none => exact ⟨rfl, rfl⟩
    | some xs =>
      have := all_py h1 xs
      constructor
      · show (D.pys (xs.map f)).map PyData.tuple = some (.tuple (xs.map g))
        rw [this]; rfl
      · show (D.pys (xs.map f)).map PyData.tuple = some (.tuple (xs.map g))
        rw [this]; rfl
  · cases a with
    | none => cases b with
      | none => simp [PyData.eqv]
      | some y => simp [PyData.eqv]
    | some x => cases b with
      | none => simp [PyData.eqv]
      | some y =>
        show PyData.eqv (.tuple (x.map g)) (.tuple (y.map g)) = _
        rw [PyData.eqv, all_eqv h2]
        simp
  · cases a with
    | none => exact ⟨by simp [PyData.canLay0], by simp [PyData.depth]⟩
    | some xs =>
      obtain ⟨q1, q2⟩ := all_lay h3 xs
      refine ⟨by show (PyData.tuple _).canLay0 = true; rw [PyData.canLay0]; exact q1, ?_⟩
      show (PyData.tuple _).depth ≤ _
      rw [PyData.depth]; omega
  · cases a <;> cases b <;> rfl
end
theorem Emb.congr {α : Type} [DecidableEq α] {f g : α → D} {k : Nat} (E : Emb f k) (h : ∀ a, f a = g a) : Emb g k := by
  have e : f = g := funext h
  rw [← e]; exact E
theorem emb_rep : Emb repD 1 := (emb_opt (emb_tup emb_int) emb_int.ex).congr fun o => by cases o <;> rfl
/-! ### loops that look and raise -/
theorem for_chk {cf : Cfg} {i : Nat} {α : Type} {k : Str} (f : α → D) (ok : α → Bool) {b : Env → Hs → Out} {h : Hs} {E : Option D → Env} (hE : ∀ t x, i < (E t).length ∧ (E t).set i (some x) = E (some x)) :
    ∀ (xs : List α), (∀ x ∈ xs, b (E (some (f x))) h = if ok x = true then .nx (E (some (f x))) h else .exc k none (E (some (f x))) h) → ∀ t,
    ∃ t', forD (Tg.den cf (.name i)) b (xs.map f) (E t) h = if xs.all ok = true then .nx (E t') h else .exc k none (E t') h
  | [], _, t => ⟨t, rfl⟩
  | x :: xs, hb, t => by
    obtain ⟨h1, h2⟩ := hE t (f x)
    have q := hb x List.mem_cons_self
    rw [List.map_cons]
    unfold forD
    rw [tg_name, if_pos h1, h2]
    simp only []
    rw [q]
    by_cases e : ok x = true
    · obtain ⟨t', q2⟩ := for_chk f ok hE xs (fun y hy => hb y (List.mem_cons_of_mem _ hy)) (some (f x))
      refine ⟨t', ?_⟩
      rw [if_pos e]
      simp only []
      rw [q2, List.all_cons, e, Bool.true_and]
    · refine ⟨some (f x), ?_⟩
      rw [if_neg e, List.all_cons, Bool.eq_false_iff.mpr e]; rfl
/-! ### squares as data -/
def mkD (t : Bool) (xs : List D) : D := if t then .tup xs else .lst xs
def rowU (u : Bool) (r : List Int) : D := mkD u (r.map .int)
def sqD (t u : Bool) (m : List (List Int)) : D := mkD t (m.map (rowU u))
abbrev sqT (m : List (List Int)) : D := .tup (m.map fun r => .tup (r.map .int))
theorem rowU_pure (u : Bool) (r : List Int) : (rowU u r).pure = true := by
  cases u <;> exact pures_ints r
theorem pures_map {α : Type} {f : α → D} (h : ∀ a, (f a).pure = true) : ∀ xs : List α, D.pures (xs.map f) = true
  | [] => rfl
  | x :: xs => by
    show ((f x).pure && D.pures (xs.map f)) = true
    rw [h x, pures_map h xs]; rfl
theorem sqD_pure (t u : Bool) (m : List (List Int)) : (sqD t u m).pure = true := by
  cases t <;> exact pures_map (rowU_pure u) m
theorem sqT_eq (m : List (List Int)) : sqT m = sqD true true m := rfl
theorem sqT_pure (m : List (List Int)) : (sqT m).pure = true := sqD_pure true true m
theorem ints_map : ∀ xs : List Int, D.ints (xs.map .int) = some xs
  | [] => rfl
  | x :: xs => by
    show (D.ints (xs.map .int)).map (x :: ·) = _
    rw [ints_map xs]; rfl
theorem pr_sortU {fz : Bool} {u : Bool} (r : List Int) (h : Hs) : primD .sorted fz [rowU u r] h = newL fz ((sortI r).map .int) h := by
  cases u
  · show (match D.ints (r.map .int) with | some ns => newL fz ((sortI ns).map .int) h | none => .stuck) = _
    rw [ints_map]
  · show (match D.ints (r.map .int) with | some ns => newL fz ((sortI ns).map .int) h | none => .stuck) = _
    rw [ints_map]
theorem pr_sortT {fz : Bool} (r : List Int) (h : Hs) : primD .sorted fz [.tup (r.map .int)] h = newL fz ((sortI r).map .int) h := pr_sortU (u := true) r h
theorem pr_sortL {fz : Bool} (r : List Int) (h : Hs) : primD .sorted fz [.lst (r.map .int)] h = newL fz ((sortI r).map .int) h := pr_sortU (u := false) r h
theorem pr_tupU {fz : Bool} {u : Bool} (r : List Int) (h : Hs) : primD .tupleOf fz [rowU u r] h = .ok (.tup (r.map .int)) h := by cases u <;> rfl
theorem pr_lstU {u : Bool} (r : List Int) (h : Hs) (q : r.length ≤ LN) : primD .listOf true [rowU u r] h = .ok (.lst (r.map .int)) h := by
  cases u
  · show newL true _ h = _; exact new_fz (by rw [List.length_map]; exact q)
  · show newL true _ h = _; exact new_fz (by rw [List.length_map]; exact q)
theorem tups_sq : ∀ m : List (List Int), tupsOf (m.map fun r => D.tup (r.map .int)) = some (m.map fun r => r.map .int)
  | [] => rfl
  | r :: m => by
    show (tupsOf (m.map fun r => D.tup (r.map .int))).map (_ :: ·) = _
    rw [tups_sq m]; rfl
theorem cols_sq {m : List (List Int)} {n : Nat} (hn : m ≠ []) (h13 : m.length ≤ 13) (hr : ∀ r ∈ m, r.length = n) : colsD (m.map fun r => r.map .int) = some ((List.range n).map fun c => D.tup ((colI m c).map .int)) := by
  cases m with
  | nil => exact absurd rfl hn
  | cons r rs =>
    rw [List.map_cons]
    unfold colsD
    dsimp only
    have hr0 := hr r List.mem_cons_self
    have e1 : (rs.map fun r => r.map D.int).all (fun x => x.length == (r.map D.int).length) = true := by
      rw [List.all_map, List.all_eq_true]
      intro x hx
      simp [hr x (List.mem_cons_of_mem _ hx), hr0]
    have e2 : decide (((r.map D.int) :: rs.map fun r => r.map D.int).length ≤ 13) = true := by
      simpa using h13
    rw [e1, e2, Bool.and_self, if_pos rfl, List.length_map, hr0]
    congr 1
    refine List.map_congr_left fun c hc => ?_
    have hc' := List.mem_range.mp hc
    congr 1
    show ((r :: rs).map fun r => r.map D.int).map _ = _
    unfold colI
    rw [List.map_map, List.map_map]
    refine List.map_congr_left fun x hx => ?_
    have hl := hr x hx
    show (x.map D.int).getD c .non = D.int (x.getD c 0)
    rw [List.getD_eq_getElem?_getD, List.getElem?_map, List.getElem?_eq_getElem (by omega), List.getD_eq_getElem?_getD, List.getElem?_eq_getElem (by omega)]
    rfl
/-! ### comprehensions, whole -/
theorem lc_den {c : Cfg} {α : Type} {fz : Bool} {x : Str} {i : Nat} {it : Itx} {elt : Ex} {ρ : Env} {h : Hs} (g f : α → D) (xs : List α) (hl : i < ρ.length) (hz : xs.length ≤ LN) (hit : it.den c ρ h = .ok (xs.map g) h)
    (he : ∀ y ∈ xs, (elt.dt c).1 (ρ.set i (some (g y))) h = .ok (f y) h) : (Ex.dt c (.lc fz [(x, i)] (.name i) it .nil elt)).1 ρ h = newL fz (xs.map f) h := by
  rw [den_lc, hit, bd_ok]
  show (lcD (Tg.den c (.name i)) (Exs.tsts c .nil) (elt.dt c).1 (ρ.set i none) (xs.map g) [] h).bd _ _ = _
  rw [lc_any g f (by rw [List.length_set]; exact hl) xs [] (fun y hy => by rw [List.set_set]; exact he y hy) (by simpa using hz)]
  rfl
/-- .. frozen -/
theorem lc_denF {c : Cfg} {α : Type} {x : Str} {i : Nat} {it : Itx} {elt : Ex} {ρ : Env} {h : Hs} (g f : α → D) (xs : List α) (hl : i < ρ.length) (hz : xs.length ≤ LN) (hit : it.den c ρ h = .ok (xs.map g) h)
    (he : ∀ y ∈ xs, (elt.dt c).1 (ρ.set i (some (g y))) h = .ok (f y) h) : (Ex.dt c (.lc true [(x, i)] (.name i) it .nil elt)).1 ρ h = .ok (.lst (xs.map f)) h := by
  rw [lc_den g f xs hl hz hit he, new_fz (by rw [List.length_map]; exact hz)]
theorem it_rng1 {c : Cfg} {e : Ex} {ρ : Env} {h : Hs} {n : Nat} (he : (e.dt c).1 ρ h = .ok (.int (n : Nat)) h) (hn : n ≤ LN) : Itx.den c (.range (.cons e .nil)) ρ h = .ok ((List.range n).map fun k : Nat => D.int (k : Nat)) h := by
  have : -(LN : Int) ≤ (n : Int) ∧ (n : Int) ≤ (LN : Int) := by omega
  rw [it_range, dens_cons, he, bd_ok, dens_nil, bd_ok, bd_ok]
  show (if _ then _ else _) = _
  rw [if_pos this, Int.toNat_natCast]
theorem it_sqD {c : Cfg} {e : Ex} {ρ : Env} {h : Hs} {t u : Bool} {m : List (List Int)} (he : (e.dt c).1 ρ h = .ok (sqD t u m) h) : Itx.den c (.seq e) ρ h = .ok (m.map (rowU u)) h := by
  rw [it_seq, he, bd_ok]
  cases t <;> rfl
end Ev
set_option maxHeartbeats 1000000
/-! Ev, part Ss: places in squares; pairs in a dict; rows shuffled. -/
namespace Ev
open PySem PySem.Spec PyProof.Rows L2
theorem at_nat {xs : List D} {r : Nat} (h : r < xs.length) : atI xs (r : Nat) = some (xs.getD r .non) := by
  unfold atI
  rw [ix_ok (by omega) (by omega), Int.toNat_natCast]
  show xs[r]? = _
  rw [List.getD_eq_getElem?_getD, List.getElem?_eq_getElem h]; rfl
theorem idx_tN {xs : List D} {r : Nat} {h : Hs} (q : r < xs.length) : idxD (.tup xs) (.int (r : Nat)) h = .ok (xs.getD r .non) h := by
  show (match atI xs (r : Nat) with | some v => R.ok v h | none => R.stuck) = _
  rw [at_nat q]
theorem idx_lN {xs : List D} {r : Nat} {h : Hs} (q : r < xs.length) : idxD (.lst xs) (.int (r : Nat)) h = .ok (xs.getD r .non) h := by
  show (match atI xs (r : Nat) with | some v => R.ok v h | none => R.stuck) = _
  rw [at_nat q]
theorem getD_map {α : Type} {f : α → D} {xs : List α} {r : Nat} (q : r < xs.length) (d : α) : (xs.map f).getD r .non = f (xs.getD r d) := by
  rw [List.getD_eq_getElem?_getD, List.getElem?_map, List.getElem?_eq_getElem q, List.getD_eq_getElem?_getD, List.getElem?_eq_getElem q]; rfl
theorem idx_sq {t u : Bool} {m : List (List Int)} {r : Nat} {h : Hs} (q : r < m.length) : idxD (sqD t u m) (.int (r : Nat)) h = .ok (rowU u (m.getD r [])) h := by
  have q' : r < (m.map (rowU u)).length := by rw [List.length_map]; exact q
  cases t
  · show idxD (.lst _) _ h = _; rw [idx_lN q', getD_map q []]
  · show idxD (.tup _) _ h = _; rw [idx_tN q', getD_map q []]
theorem idx_row {u : Bool} {m : List Int} {r : Nat} {h : Hs} (q : r < m.length) : idxD (rowU u m) (.int (r : Nat)) h = .ok (.int (m.getD r 0)) h := by
  have q' : r < (m.map D.int).length := by rw [List.length_map]; exact q
  cases u
  · show idxD (.lst _) _ h = _; rw [idx_lN q', getD_map q 0]
  · show idxD (.tup _) _ h = _; rw [idx_tN q', getD_map q 0]
theorem len_sq {fz : Bool} {t u : Bool} {m : List (List Int)} {h : Hs} : primD .len fz [sqD t u m] h = .ok (.int m.length) h := by
  cases t
  · show R.ok (D.int ((m.map (rowU u)).length : Nat)) h = _; rw [List.length_map]
  · show R.ok (D.int ((m.map (rowU u)).length : Nat)) h = _; rw [List.length_map]
def cel (m : List (List Int)) (r c : Nat) : Int := (m.getD r []).getD c 0
/-! ### pairs in a dict -/
theorem in_kv (s : Sn) (a b : Int) : cmpD .isin (.tup [.int a, .int b]) (.ref 0) [.dct true (toKV s)] = .ok (.bl (s.lookup (a, b)).isSome) [.dct true (toKV s)] := by
  show (R.bind (R.ok (D.bl (dget (toKV s) (.inr [.inl a, .inl b])).isSome) [Cell.dct true (toKV s)]) _) = _
  rw [toKV_get]
  cases s.lookup (a, b) <;> rfl
theorem get_kv (s : Sn) (a b : Int) {p : Nat × Nat} (e : s.lookup (a, b) = some p) : idxD (.ref 0) (.tup [.int a, .int b]) [.dct true (toKV s)] = .ok (.tup [.int (p.1 : Nat), .int (p.2 : Nat)]) [.dct true (toKV s)] := by
  show (match dget (toKV s) (.inr [.inl a, .inl b]) with | some v => R.ok v [Cell.dct true (toKV s)] | none => .stuck) = _
  rw [toKV_get, e]; rfl
theorem set_kv (s : Sn) (a b : Int) {r c : Nat} (e : s.lookup (a, b) = none) (l : s.length < LN) : setD (.ref 0) (.tup [.int a, .int b]) (.tup [.int (r : Nat), .int (c : Nat)]) [.dct true (toKV s)] = some [.dct true (toKV (s ++ [((a, b), (r, c))]))] := by
  show (if _ ∧ _ then some (List.set [Cell.dct true (toKV s)] 0 (.dct true (dput (toKV s) (.inr [.inl a, .inl b]) (.tup [.int (r : Nat), .int (c : Nat)])))) else none) = _
  rw [if_pos ⟨rfl, by rw [toKV_len]; exact l⟩, toKV_put s a b r c e]; rfl
theorem is_rep (o : Option (List Int)) (h : Hs) : cmpD .is (repD o) .non h = .ok (.bl o.isNone) h := by cases o <;> rfl
theorem isnot_rep (o : Option (List Int)) (h : Hs) : cmpD .isnot (repD o) .non h = .ok (.bl o.isSome) h := by cases o <;> rfl
theorem rep_pure (o : Option (List Int)) : (repD o).pure = true := by
  cases o
  · rfl
  · exact pures_ints _
theorem idx_sqI {t u : Bool} {m : List (List Int)} {v : Int} {h : Hs} (h0 : 0 ≤ v) (q : v < m.length) : idxD (sqD t u m) (.int v) h = .ok (rowU u (m.getD v.toNat [])) h := by
  have := idx_sq (t := t) (u := u) (m := m) (r := v.toNat) (h := h) (by omega)
  rwa [show ((v.toNat : Nat) : Int) = v from by omega] at this
theorem idx_rowI {u : Bool} {m : List Int} {v : Int} {h : Hs} (h0 : 0 ≤ v) (q : v < m.length) : idxD (rowU u m) (.int v) h = .ok (.int (m.getD v.toNat 0)) h := by
  have := idx_row (u := u) (m := m) (r := v.toNat) (h := h) (by omega)
  rwa [show ((v.toNat : Nat) : Int) = v from by omega] at this
/-! ### tables -/
theorem lc_tabT {c : Cfg} {x y : Str} {i j : Nat} {e e' el : Ex} {ρ : Env} {h : Hs} {n k : Nat} (F : Nat → Nat → Int) (hi : i < ρ.length) (hj : j < ρ.length) (hn : n ≤ LN) (hk : k ≤ LN)
    (he : (e.dt c).1 ρ h = .ok (.int (n : Nat)) h) (he' : ∀ r, r < n → (e'.dt c).1 (ρ.set i (some (.int (r : Nat)))) h = .ok (.int (k : Nat)) h)
    (hel : ∀ r, r < n → ∀ s, s < k → (el.dt c).1 ((ρ.set i (some (.int (r : Nat)))).set j (some (.int (s : Nat)))) h = .ok (.int (F r s)) h) :
    (Ex.dt c (.lc true [(x, i)] (.name i) (.range (.cons e .nil)) .nil (.prim .tupleOf true (.cons (.lc true [(y, j)] (.name j) (.range (.cons e' .nil)) .nil el) .nil)))).1 ρ h = .ok (.lst ((List.range n).map fun r => .tup ((List.range k).map fun s => .int (F r s)))) h := by
  refine lc_denF (fun r : Nat => D.int (r : Nat)) _ (List.range n) hi (by rw [List.length_range]; exact hn) (it_rng1 he hn) fun r hr => ?_
  have hr' := List.mem_range.mp hr
  have q := lc_denF (c := c) (x := y) (i := j) (it := .range (.cons e' .nil)) (elt := el) (ρ := ρ.set i (some (.int (r : Nat)))) (h := h) (fun s : Nat => D.int (s : Nat)) (fun s => D.int (F r s)) (List.range k) (by rw [List.length_set]; exact hj) (by rw [List.length_range]; exact hk) (it_rng1 (he' r hr') hk) fun s hs => hel r hr' s (List.mem_range.mp hs)
  rw [den_prim, dens_cons, q, bd_ok, dens_nil, bd_ok, bd_ok]; rfl
theorem lc_tabL {c : Cfg} {x y : Str} {i j : Nat} {e e' el : Ex} {ρ : Env} {h : Hs} {n k : Nat} (F : Nat → Nat → Int) (hi : i < ρ.length) (hj : j < ρ.length) (hn : n ≤ LN) (hk : k ≤ LN)
    (he : (e.dt c).1 ρ h = .ok (.int (n : Nat)) h) (he' : ∀ r, r < n → (e'.dt c).1 (ρ.set i (some (.int (r : Nat)))) h = .ok (.int (k : Nat)) h)
    (hel : ∀ r, r < n → ∀ s, s < k → (el.dt c).1 ((ρ.set i (some (.int (r : Nat)))).set j (some (.int (s : Nat)))) h = .ok (.int (F r s)) h) :
    (Ex.dt c (.lc true [(x, i)] (.name i) (.range (.cons e .nil)) .nil (.lc true [(y, j)] (.name j) (.range (.cons e' .nil)) .nil el))).1 ρ h = .ok (.lst ((List.range n).map fun r => .lst ((List.range k).map fun s => .int (F r s)))) h := by
  refine lc_denF (fun r : Nat => D.int (r : Nat)) _ (List.range n) hi (by rw [List.length_range]; exact hn) (it_rng1 he hn) fun r hr => ?_
  have hr' := List.mem_range.mp hr
  exact lc_denF (c := c) (x := y) (i := j) (it := .range (.cons e' .nil)) (elt := el) (ρ := ρ.set i (some (.int (r : Nat)))) (h := h) (fun s : Nat => D.int (s : Nat)) (fun s => D.int (F r s)) (List.range k) (by rw [List.length_set]; exact hj) (by rw [List.length_range]; exact hk) (it_rng1 (he' r hr') hk) fun s hs => hel r hr' s (List.mem_range.mp hs)
theorem tab_map {α β : Type} (d : α) (f : α → β) {n : Nat} {l : List α} (hl : l.length = n) : (List.range n).map (fun i => f (l.getD i d)) = l.map f := by
  rw [← hl]; exact map_getD f d l
theorem ren_tab {P : List (List Int)} {rs cs ss : List Int} {n : Nat} (hr : rs.length = n) (hc : cs.length = n) :
    ((List.range n).map fun r => D.tup ((List.range n).map fun s => .int (ss.getD (at2 P (rs.getD r 0) (cs.getD s 0)).toNat 0))) = (ren P rs cs ss).map fun r => D.tup (r.map .int) := by
  rw [show ((List.range n).map fun r => D.tup ((List.range n).map fun s => .int (ss.getD (at2 P (rs.getD r 0) (cs.getD s 0)).toNat 0))) = rs.map (fun r => D.tup ((List.range n).map fun s => .int (ss.getD (at2 P r (cs.getD s 0)).toNat 0))) from tab_map 0 (fun r => D.tup ((List.range n).map fun s => D.int (ss.getD (at2 P r (cs.getD s 0)).toNat 0))) hr]
  unfold ren
  rw [List.map_map]
  refine List.map_congr_left fun r _ => ?_
  show D.tup _ = D.tup ((cs.map _).map D.int)
  rw [List.map_map, tab_map 0 (fun c => D.int (ss.getD (at2 P r c).toNat 0)) hc]; rfl
/-! ### the same two by two: exchanged -/
def swS (s : Sn) : Sn := s.map fun p => ((p.1.2, p.1.1), p.2)
theorem sw_get (s : Sn) (a b : Int) : (swS s).lookup (b, a) = s.lookup (a, b) := by
  induction s with
  | nil => rfl
  | cons p s ih =>
    obtain ⟨⟨x, y⟩, q⟩ := p
    unfold swS at ih ⊢
    rw [List.map_cons, List.lookup_cons, List.lookup_cons, ih]
    have : ((b, a) == (y, x)) = ((a, b) == (x, y)) := by
      rw [Bool.eq_iff_iff, beq_iff_eq, beq_iff_eq]
      constructor
      · intro e; cases e; rfl
      · intro e; cases e; rfl
    rw [this]
theorem sw_cell (f g : Nat → Nat → Int) (r c : Nat) (s : Sn) : cellS g f r c (swS s) = match cellS f g r c s with | .inl x => .inl x | .inr s' => .inr (swS s') := by
  unfold cellS
  rw [sw_get]
  cases s.lookup (f r c, g r c) with
  | some p => rfl
  | none => simp [swS]
theorem sw_row (f g : Nat → Nat → Int) (r : Nat) : ∀ (cs : List Nat) (s : Sn), rowS g f r cs (swS s) = match rowS f g r cs s with | .inl x => .inl x | .inr s' => .inr (swS s')
  | [], s => rfl
  | c :: cs, s => by
    unfold rowS
    rw [sw_cell]
    cases cellS f g r c s with
    | inl x => rfl
    | inr s' => exact sw_row f g r cs s'
theorem sw_all (f g : Nat → Nat → Int) (n : Nat) : ∀ (rs : List Nat) (s : Sn), allS g f n rs (swS s) = match allS f g n rs s with | .inl x => .inl x | .inr s' => .inr (swS s')
  | [], s => rfl
  | r :: rs, s => by
    unfold allS
    rw [sw_row]
    cases rowS f g r (List.range n) s with
    | inl x => rfl
    | inr s' => exact sw_all f g n rs s'
theorem rep_sw (f g : Nat → Nat → Int) (n : Nat) : repS g f n = repS f g n := by
  unfold repS
  have := sw_all f g n (List.range n) []
  rw [show swS [] = [] from rfl] at this
  rw [this]
  cases allS f g n (List.range n) [] <;> rfl
end Ev
set_option maxHeartbeats 1000000
/-! Ev, part Su: lists that grow in the last cell, in the first; families by formula; the first two that meet twice. -/
namespace Ev
open PySem PySem.Spec PyProof.Rows L2
section
variable {H : Hs} {xs : List D} {y : D} {h : Hs}
theorem seq_last : seqOf (H ++ [.lst xs]) (.ref H.length) = some (xs, true) := by
  unfold seqOf
  dsimp only
  rw [cell_at]
theorem app_last (q : xs.length < LN) : methD .append (.ref H.length) [y] (H ++ [Cell.lst xs]) = .ok .non (H ++ [Cell.lst (xs ++ [y])]) := by
  rw [m_append (cell_at H (Cell.lst xs)) q]
  congr 1
  rw [List.set_append_right _ _ (Nat.le_refl _), Nat.sub_self]; rfl
theorem app_first (q : xs.length < LN) : methD .append (.ref 0) [y] (.lst xs :: h) = .ok .non (.lst (xs ++ [y]) :: h) := by
  rw [m_append (xs := xs) rfl q]; rfl
theorem tup_last {fz : Bool} : primD .tupleOf fz [.ref H.length] (H ++ [.lst xs]) = .ok (.tup xs) (H ++ [.lst xs]) := by
  unfold primD
  dsimp only
  rw [seq_last]
theorem len_c0 {fz : Bool} : primD .len fz [.ref 0] (.lst xs :: h) = .ok (.int xs.length) (.lst xs :: h) := rfl
theorem idx_c0 {r : Nat} (q : r < xs.length) : idxD (.ref 0) (.int (r : Nat)) (.lst xs :: h) = .ok (xs.getD r .non) (.lst xs :: h) := by
  show (match atI xs (r : Nat) with | some v => R.ok v (Cell.lst xs :: h) | none => R.stuck) = _
  rw [at_nat q]
theorem set_c0 {r : Nat} (q : r < xs.length) : setD (.ref 0) (.int (r : Nat)) y (.lst xs :: h) = some (.lst (xs.set r y) :: h) := by
  show (ixN xs.length (r : Nat)).map _ = _
  rw [ix_ok (by omega) (by omega), Int.toNat_natCast]; rfl
theorem ins_c0 {r : Nat} (q : r ≤ xs.length) (l : xs.length < LN) : methD .insert (.ref 0) [.int (r : Nat), y] (.lst xs :: h) = .ok .non (.lst (xs.take r ++ y :: xs.drop r) :: h) := by
  show (if 0 ≤ ((r : Nat) : Int) ∧ ((r : Nat) : Int) ≤ xs.length ∧ xs.length < LN then R.ok D.non (List.set (Cell.lst xs :: h) 0 (.lst (xs.take ((r : Nat) : Int).toNat ++ y :: xs.drop ((r : Nat) : Int).toNat))) else .stuck) = _
  rw [if_pos ⟨by omega, by omega, l⟩, Int.toNat_natCast]; rfl
end
def hdS : Sms → Sm
  | .cons s _ => s
  | .nil => .pass
theorem stepS {c : Cfg} {b b' : Sms} {s : Sm} {ρ ρ' : Env} {h h' : Hs} (e : b = .cons s b') (q : Sm.den c s ρ h = .nx ρ' h') : Sms.den c b ρ h = Sms.den c b' ρ' h' := by
  rw [e, sms_cons, q, tn_nx]
/-! ### families by formula -/
def fP4 : Nat → List (List Int)
  | 1 => [[0, 1, 2, 3], [1, 0, 3, 2], [2, 3, 0, 1], [3, 2, 1, 0]]
  | 2 => [[0, 2, 3, 1], [1, 3, 2, 0], [2, 0, 1, 3], [3, 1, 0, 2]]
  | _ => [[0, 3, 1, 2], [1, 2, 0, 3], [2, 1, 3, 0], [3, 0, 2, 1]]
def fP (n t : Nat) : List (List Int) := if n = 4 then fP4 t else (List.range n).map fun r => (List.range n).map fun c => (((r : Nat) : Int) + t * ((c : Nat) : Int)) % n
def FC (n M : Nat) : Prop := (n = 3 ∧ M = 2) ∨ (n = 4 ∧ 2 ≤ M ∧ M ≤ 3) ∨ ((n = 5 ∨ n = 7) ∧ 2 ≤ M ∧ M ≤ 4)
instance (n M : Nat) : Decidable (FC n M) := by unfold FC; infer_instance
theorem fP_ok : ∀ n, n < 8 → ∀ M, M < 5 → FC n M → ∀ t, t < M → latB (fP n (t + 1)) = true ∧ (fP n (t + 1)).length = n := by decide +kernel
theorem FC.lt {n M : Nat} (h : FC n M) : 3 ≤ n ∧ n < 8 ∧ 2 ≤ M ∧ M < 5 := by unfold FC at h; omega
theorem at2_fP {n t : Nat} (h4 : n ≠ 4) {r c : Int} (r0 : 0 ≤ r) (r1 : r < n) (c0 : 0 ≤ c) (c1 : c < n) : at2 (fP n t) r c = (r + t * c) % n := by
  unfold at2 fP
  rw [if_neg h4]
  have er : ((List.range n).map fun r => (List.range n).map fun c => (((r : Nat) : Int) + t * ((c : Nat) : Int)) % n).getD r.toNat [] = (List.range n).map fun c => (r + t * ((c : Nat) : Int)) % n := by
    rw [List.getD_eq_getElem?_getD, List.getElem?_map, List.getElem?_range (by omega)]
    show (List.range n).map (fun c => (((r.toNat : Nat) : Int) + t * ((c : Nat) : Int)) % n) = _
    rw [show ((r.toNat : Nat) : Int) = r from by omega]
  rw [er, List.getD_eq_getElem?_getD, List.getElem?_map, List.getElem?_range (by omega)]
  show (r + t * ((c.toNat : Nat) : Int)) % n = _
  rw [show ((c.toNat : Nat) : Int) = c from by omega]
/-- the squares of a family as drawn -/
structure Fmy (n M : Nat) (rs cl : List Int) (sg : Nat → List Int) : Prop where
  c : FC n M
  r : rs.Perm (rng n)
  l : cl.Perm (rng n)
  s : ∀ t, t < M → (sg t).Perm (rng n)
def fms (n M : Nat) (rs cl : List Int) (sg : Nat → List Int) : List (List (List Int)) := (List.range M).map fun t => ren (fP n (t + 1)) rs cl (sg t)
theorem Fmy.sq {n M : Nat} {rs cl : List Int} {sg : Nat → List Int} (F : Fmy n M rs cl sg) : ∀ m ∈ fms n M rs cl sg, latB m = true ∧ m.length = n := fun m hm => by
  unfold fms at hm
  obtain ⟨t, ht, rfl⟩ := List.mem_map.mp hm
  have ht' := List.mem_range.mp ht
  have b := F.c.lt
  obtain ⟨q1, q2⟩ := fP_ok n b.2.1 M b.2.2.2 F.c t ht'
  have L := (lat_of q1).1
  rw [q2] at L
  have R := L.ren F.r F.l (F.s t ht')
  exact ⟨R.b (by omega) (by omega), R.len⟩
theorem fms_len {n M : Nat} {rs cl : List Int} {sg : Nat → List Int} : (fms n M rs cl sg).length = M := by unfold fms; rw [List.length_map, List.length_range]
/-! ### the first two that meet twice -/
def meet (ms : List (List (List Int))) (n : Nat) (i j : Nat) : Option (List Int) := (repS (cel (ms.getD i [])) (cel (ms.getD j [])) n).map fun x => [((i + 1 : Nat) : Int), ((j + 1 : Nat) : Int)] ++ x
def later (m i : Nat) : List Nat := (List.range (m - (i + 1))).map (i + 1 + ·)
def famS (ms : List (List (List Int))) (n : Nat) : Option (List Int) := (List.range ms.length).findSome? fun i => (later ms.length i).findSome? (meet ms n i)
/-- folded: the first one stays -/
def orO : Option (List Int) → Option (List Int) → Option (List Int)
  | some x, _ => some x
  | none, y => y
theorem orO_no (a : Option (List Int)) : orO a none = a := by cases a <;> rfl
theorem fold_find {α : Type} (v : α → Option (List Int)) : ∀ (xs : List α) (a : Option (List Int)), xs.foldl (fun a x => orO a (v x)) a = orO a (xs.findSome? v)
  | [], a => by cases a <;> rfl
  | x :: xs, a => by
    rw [List.foldl_cons, fold_find v xs, List.findSome?_cons]
    cases a <;> cases v x <;> rfl
/-- a loop that looks and returns -/
theorem forD_find {α : Type} {g : D → Env → Hs → Out} {b : Env → Hs → Out} (I : Env → Hs → Prop) (f : α → D) (v : α → Option (List Int)) : ∀ (xs : List α) (ρ : Env) (h : Hs), I ρ h →
    (∀ x ∈ xs, ∀ ρ h, I ρ h → ∃ ρ1 h1, g (f x) ρ h = .nx ρ1 h1 ∧ ((∃ y, v x = some y ∧ ∃ h', b ρ1 h1 = .ret (.tup (y.map .int)) h') ∨ (v x = none ∧ ∃ ρ' h', b ρ1 h1 = .nx ρ' h' ∧ I ρ' h'))) →
    (∃ y, xs.findSome? v = some y ∧ ∃ h', forD g b (xs.map f) ρ h = .ret (.tup (y.map .int)) h') ∨ (xs.findSome? v = none ∧ ∃ ρ' h', forD g b (xs.map f) ρ h = .nx ρ' h' ∧ I ρ' h')
  | [], ρ, h, hi, _ => .inr ⟨rfl, ρ, h, rfl, hi⟩
  | x :: xs, ρ, h, hi, hs => by
    obtain ⟨ρ1, h1, e1, q⟩ := hs x List.mem_cons_self ρ h hi
    rw [List.map_cons, List.findSome?_cons]
    unfold forD
    rw [e1]
    dsimp only
    rcases q with ⟨y, e2, h', e3⟩ | ⟨e2, ρ', h', e3, hi'⟩
    · rw [e2, e3]
      exact .inl ⟨y, rfl, h', rfl⟩
    · rw [e2, e3]
      dsimp only
      exact forD_find I f v xs ρ' h' hi' fun y hy => hs y (List.mem_cons_of_mem _ hy)
theorem enum1 {xs : List D} : (List.range xs.length).zipWith (fun j x => D.tup [.int ((1 + j : Nat) : Int), x]) xs = (List.range xs.length).map fun j => .tup [.int ((1 + j : Nat) : Int), xs.getD j .non] := by
  refine List.ext_getElem? fun i => ?_
  rw [List.getElem?_zipWith, List.getElem?_map]
  by_cases h : i < xs.length
  · rw [List.getElem?_range h, List.getElem?_eq_getElem h]
    show some (D.tup [.int ((1 + i : Nat) : Int), xs[i]]) = some (D.tup [.int ((1 + i : Nat) : Int), xs.getD i .non])
    rw [List.getD_eq_getElem?_getD, List.getElem?_eq_getElem h]; rfl
  · rw [List.getElem?_eq_none (l := List.range xs.length) (by simpa using h)]; rfl
theorem cell_res {f g : Nat → Nat → Int} {r c : Nat} {s : Sn} {x : List Int} (h : cellS f g r c s = .inl x) : x.length = 4 := by
  unfold cellS at h
  split at h
  · cases h; rfl
  · cases h
theorem row_res {f g : Nat → Nat → Int} {r : Nat} : ∀ {cs : List Nat} {s : Sn} {x : List Int}, rowS f g r cs s = .inl x → x.length = 4
  | [], s, x, h => by unfold rowS at h; cases h
  | c :: cs, s, x, h => by
    unfold rowS at h
    split at h
    · rename_i e; cases h; exact cell_res e
    · exact row_res h
theorem all_res {f g : Nat → Nat → Int} {n : Nat} : ∀ {rs : List Nat} {s : Sn} {x : List Int}, allS f g n rs s = .inl x → x.length = 4
  | [], s, x, h => by unfold allS at h; cases h
  | r :: rs, s, x, h => by
    unfold allS at h
    split at h
    · rename_i e; cases h; exact row_res e
    · exact all_res h
theorem rep_len {f g : Nat → Nat → Int} {n : Nat} {x : List Int} (h : repS f g n = some x) : x.length = 4 := by
  unfold repS at h
  split at h
  · rename_i e; cases h; exact all_res e
  · cases h
end Ev
set_option maxHeartbeats 1000000
/-! Ev, part Sv: tuples cut and joined. -/
namespace Ev
open PySem PySem.Spec PyProof.Rows L2
/-! ### tuples cut, joined -/
theorem sl_from {fz : Bool} {xs : List D} {s : Nat} {h : Hs} (s1 : 1 ≤ s) (s2 : s ≤ xs.length) : sliceD fz (.tup xs) (some (s : Nat)) none h = .ok (.tup (xs.drop s)) h := by
  have q : HT.sIx xs.length 0 (some ((s : Nat) : Int)) = s := by rw [HT.sIx_nat]; omega
  have q2 : HT.sIx xs.length xs.length none = xs.length := rfl
  show (if HT.sIx xs.length 0 (some ((s : Nat) : Int)) = 0 ∧ _ then R.ok (D.tup xs) h else R.ok (D.tup ((xs.drop (HT.sIx xs.length 0 (some ((s : Nat) : Int)))).take (HT.sIx xs.length xs.length none - HT.sIx xs.length 0 (some ((s : Nat) : Int))))) h) = _
  rw [q, q2, if_neg (by omega), List.take_of_length_le (by rw [List.length_drop]; exact Nat.le_refl _)]
theorem sl_to {fz : Bool} {xs : List D} {s : Nat} {h : Hs} (s2 : s < xs.length) : sliceD fz (.tup xs) none (some (s : Nat)) h = .ok (.tup (xs.take s)) h := by
  have q : HT.sIx xs.length xs.length (some ((s : Nat) : Int)) = s := by rw [HT.sIx_nat]; omega
  have q2 : HT.sIx xs.length 0 none = 0 := rfl
  show (if HT.sIx xs.length 0 none = 0 ∧ HT.sIx xs.length xs.length (some ((s : Nat) : Int)) = xs.length then R.ok (D.tup xs) h else R.ok (D.tup ((xs.drop (HT.sIx xs.length 0 none)).take (HT.sIx xs.length xs.length (some ((s : Nat) : Int)) - HT.sIx xs.length 0 none))) h) = _
  rw [q, q2, if_neg (by omega)]; rfl
theorem add_tt {fz : Bool} {xs ys : List D} {h : Hs} (l : xs.length + ys.length ≤ LN) (x0 : 0 < xs.length) (y0 : 0 < ys.length) : binD .add fz (.tup xs) (.tup ys) h = .ok (.tup (xs ++ ys)) h := by
  cases ys with
  | nil => simp at y0
  | cons y ys =>
    show (if _ ∧ _ then R.ok (D.tup (xs ++ y :: ys)) h else .stuck) = _
    rw [if_pos ⟨l, by intro z; subst z; simp at x0⟩]
end Ev
set_option maxHeartbeats 1000000
/-! Ev, part Sw: mates by formula; the words of a family, told from any two places. -/
namespace Ev
open PySem PySem.Spec PyProof.Rows L2
/-- two functions on cells that tell the cell -/
def Inj2 (n : Nat) (f g : Nat → Nat → Int) : Prop := ∀ r c r' c', r < n → c < n → r' < n → c' < n → f r c = f r' c' → g r c = g r' c' → r = r' ∧ c = c'
theorem Inj2.swap {n : Nat} {f g : Nat → Nat → Int} (h : Inj2 n f g) : Inj2 n g f := fun r c r' c' a b d e x y => h r c r' c' a b d e y x
/-! ### no pair stands twice -/
def Before (n : Nat) (f g : Nat → Nat → Int) (r c : Nat) (s : Sn) : Prop := ∀ k p, s.lookup k = some p → k = (f p.1 p.2, g p.1 p.2) ∧ p.1 < n ∧ p.2 < n ∧ (p.1 < r ∨ (p.1 = r ∧ p.2 < c))
theorem lookup_snoc {s : Sn} {k : Int × Int} {p : Nat × Nat} (q : Int × Int) {p' : Nat × Nat} (h : (s ++ [(k, p)]).lookup q = some p') : s.lookup q = some p' ∨ (q = k ∧ p' = p) := by
  induction s with
  | nil =>
    rw [List.nil_append, List.lookup_cons] at h
    by_cases e : (q == k) = true
    · rw [e] at h; cases h; exact .inr ⟨eq_of_beq e, rfl⟩
    · rw [Bool.eq_false_iff.mpr e] at h; cases h
  | cons x s ih =>
    obtain ⟨a, b⟩ := x
    rw [List.cons_append, List.lookup_cons] at h
    rw [List.lookup_cons]
    by_cases e : (q == a) = true
    · rw [e] at h ⊢; exact .inl h
    · rw [Bool.eq_false_iff.mpr e] at h ⊢; exact ih h
section
variable {n : Nat} {f g : Nat → Nat → Int} (I : Inj2 n f g)
include I
theorem cell_none {r c : Nat} (hr : r < n) (hc : c < n) {s : Sn} (B : Before n f g r c s) : ∃ s', cellS f g r c s = .inr s' ∧ Before n f g r (c + 1) s' := by
  unfold cellS
  cases e : s.lookup (f r c, g r c) with
  | some p =>
    obtain ⟨q1, q2, q3, q4⟩ := B _ _ e
    have e1 : f r c = f p.1 p.2 := congrArg Prod.fst q1
    have e2 : g r c = g p.1 p.2 := congrArg Prod.snd q1
    have := I r c p.1 p.2 hr hc q2 q3 e1 e2
    omega
  | none =>
    refine ⟨_, rfl, fun k p h => ?_⟩
    rcases lookup_snoc k h with h | ⟨h1, h2⟩
    · obtain ⟨q1, q2, q3, q4⟩ := B k p h
      exact ⟨q1, q2, q3, by omega⟩
    · subst h1 h2
      exact ⟨rfl, hr, hc, .inr ⟨rfl, Nat.lt_succ_self _⟩⟩
theorem row_none {r : Nat} (hr : r < n) : ∀ (k c : Nat) (s : Sn), c + k ≤ n → Before n f g r c s → ∃ s', rowS f g r (List.range' c k) s = .inr s' ∧ Before n f g r (c + k) s'
  | 0, c, s, _, B => ⟨s, rfl, B⟩
  | k + 1, c, s, h, B => by
    obtain ⟨s1, e1, B1⟩ := cell_none I hr (show c < n by omega) B
    obtain ⟨s2, e2, B2⟩ := row_none hr k (c + 1) s1 (by omega) B1
    refine ⟨s2, ?_, by rwa [show c + (k + 1) = c + 1 + k from by omega]⟩
    rw [List.range'_succ]
    unfold rowS
    rw [e1]
    exact e2
theorem all_none : ∀ (k r : Nat) (s : Sn), r + k ≤ n → Before n f g r 0 s → ∃ s', allS f g n (List.range' r k) s = .inr s' ∧ Before n f g (r + k) 0 s'
  | 0, r, s, _, B => ⟨s, rfl, B⟩
  | k + 1, r, s, h, B => by
    obtain ⟨s1, e1, B1⟩ := row_none I (show r < n by omega) n 0 s (by omega) B
    have B1' : Before n f g (r + 1) 0 s1 := fun k p h => by
      obtain ⟨q1, q2, q3, q4⟩ := B1 k p h
      exact ⟨q1, q2, q3, by omega⟩
    obtain ⟨s2, e2, B2⟩ := all_none k (r + 1) s1 (by omega) B1'
    refine ⟨s2, ?_, by rwa [show r + (k + 1) = r + 1 + k from by omega]⟩
    rw [List.range'_succ]
    unfold allS
    rw [List.range_eq_range', e1]
    exact e2
theorem rep_none : repS f g n = none := by
  obtain ⟨s, e, _⟩ := all_none I n 0 [] (by omega) (fun k p h => by cases h)
  unfold repS
  rw [List.range_eq_range', e]
end
/-! ### tables that are mates -/
theorem m4T : ((List.range 3).all fun s => (List.range 3).all fun t => s == t || (List.range 4).all fun r => (List.range 4).all fun c => (List.range 4).all fun r' => (List.range 4).all fun c' =>
    !(at2 (fP4 (s + 1)) (r : Nat) (c : Nat) == at2 (fP4 (s + 1)) (r' : Nat) (c' : Nat)) || !(at2 (fP4 (t + 1)) (r : Nat) (c : Nat) == at2 (fP4 (t + 1)) (r' : Nat) (c' : Nat)) || (r == r' && c == c')) = true := by decide +kernel
theorem mate4 {s t r c r' c' : Nat} (hs : s < 3) (ht : t < 3) (hne : s ≠ t) (hr : r < 4) (hc : c < 4) (hr' : r' < 4) (hc' : c' < 4) (e1 : at2 (fP4 (s + 1)) (r : Nat) (c : Nat) = at2 (fP4 (s + 1)) (r' : Nat) (c' : Nat))
    (e2 : at2 (fP4 (t + 1)) (r : Nat) (c : Nat) = at2 (fP4 (t + 1)) (r' : Nat) (c' : Nat)) : r = r' ∧ c = c' := by
  have q := List.all_eq_true.mp (List.all_eq_true.mp m4T s (List.mem_range.mpr hs)) t (List.mem_range.mpr ht)
  rw [show (s == t) = false from beq_false_of_ne hne, Bool.false_or] at q
  have q := List.all_eq_true.mp (List.all_eq_true.mp (List.all_eq_true.mp (List.all_eq_true.mp q r (List.mem_range.mpr hr)) c (List.mem_range.mpr hc)) r' (List.mem_range.mpr hr')) c' (List.mem_range.mpr hc')
  rw [e1, e2, beq_self_eq_true, beq_self_eq_true] at q
  simpa using q
theorem mateP : ∀ n, (n = 3 ∨ n = 5 ∨ n = 7) → ∀ M, FC n M → ∀ s t : Nat, s < M → t < M → s ≠ t → ∀ r c r' c' : Int, 0 ≤ r → r < n → 0 ≤ c → c < n → 0 ≤ r' → r' < n → 0 ≤ c' → c' < n →
    (r + ((s + 1 : Nat) : Int) * c) % n = (r' + ((s + 1 : Nat) : Int) * c') % n → (r + ((t + 1 : Nat) : Int) * c) % n = (r' + ((t + 1 : Nat) : Int) * c') % n → r = r' ∧ c = c' := by
  intro n hn M hM s t hs ht hne r c r' c' a1 a2 a3 a4 a5 a6 a7 a8 e1 e2
  have hM5 : M ≤ 4 := by unfold FC at hM; omega
  have hM2 : n = 3 → M = 2 := by intro q; unfold FC at hM; omega
  have s4 : s = 0 ∨ s = 1 ∨ s = 2 ∨ s = 3 := by omega
  have t4 : t = 0 ∨ t = 1 ∨ t = 2 ∨ t = 3 := by omega
  rcases hn with rfl | rfl | rfl
  · have := hM2 rfl
    rcases s4 with rfl | rfl | rfl | rfl <;> rcases t4 with rfl | rfl | rfl | rfl <;> simp at e1 e2 <;> omega
  · rcases s4 with rfl | rfl | rfl | rfl <;> rcases t4 with rfl | rfl | rfl | rfl <;> simp at e1 e2 <;> omega
  · rcases s4 with rfl | rfl | rfl | rfl <;> rcases t4 with rfl | rfl | rfl | rfl <;> simp at e1 e2 <;> omega
/-! ### .. and renamed -/
theorem nodup_rng (n : Nat) : (rng n).Nodup := by
  unfold rng
  rw [List.nodup_iff_pairwise_ne, List.pairwise_map]
  exact List.Pairwise.imp (fun h => by omega) (List.pairwise_lt_range (n := n))
theorem perm_inj {n : Nat} {p : List Int} (hp : p.Perm (rng n)) {i j : Nat} (hi : i < n) (hj : j < n) (e : p.getD i 0 = p.getD j 0) : i = j := by
  have nd : p.Nodup := hp.nodup_iff.mpr (nodup_rng n)
  have lp : p.length = n := by rw [hp.length_eq, rng_len]
  rw [List.getD_eq_getElem?_getD, List.getD_eq_getElem?_getD, List.getElem?_eq_getElem (by omega), List.getElem?_eq_getElem (by omega)] at e
  exact (List.getElem_inj nd).mp e
theorem perm_in {n : Nat} {p : List Int} (hp : p.Perm (rng n)) {i : Nat} (hi : i < n) : 0 ≤ p.getD i 0 ∧ p.getD i 0 < n := by
  have lp : p.length = n := by rw [hp.length_eq, rng_len]
  refine rng_mem.mp (hp.subset ?_)
  rw [List.getD_eq_getElem?_getD, List.getElem?_eq_getElem (by omega)]; exact List.getElem_mem _
theorem cel_ren {P : List (List Int)} {rs cl ss : List Int} {r c : Nat} (hr : r < rs.length) (hc : c < cl.length) : cel (ren P rs cl ss) r c = ss.getD (at2 P (rs.getD r 0) (cl.getD c 0)).toNat 0 := by
  unfold cel ren
  have e : (rs.map fun r => cl.map fun c => ss.getD (at2 P r c).toNat 0).getD r [] = cl.map fun c => ss.getD (at2 P (rs.getD r 0) c).toNat 0 := by
    rw [List.getD_eq_getElem?_getD, List.getElem?_map, List.getElem?_eq_getElem hr, List.getD_eq_getElem?_getD, List.getElem?_eq_getElem hr]; rfl
  rw [e, List.getD_eq_getElem?_getD, List.getElem?_map, List.getElem?_eq_getElem hc, List.getD_eq_getElem?_getD (l := cl), List.getElem?_eq_getElem hc]; rfl
theorem at2_in {n : Nat} {P : List (List Int)} (L : Lat n P) {r c : Int} (r0 : 0 ≤ r) (r1 : r < n) (c0 : 0 ≤ c) (c1 : c < n) : 0 ≤ at2 P r c ∧ at2 P r c < n := by
  have hm := L.at (r := r.toNat) (by omega)
  refine rng_mem.mp ((L.row _ hm).subset ?_)
  unfold at2
  rw [List.getD_eq_getElem?_getD (l := P.getD _ _), List.getElem?_eq_getElem (by rw [L.rlen hm]; omega)]; exact List.getElem_mem _
theorem cel_in {n : Nat} {P : List (List Int)} (L : Lat n P) {r c : Nat} (r1 : r < n) (c1 : c < n) : 0 ≤ cel P r c ∧ cel P r c < n := by
  have := at2_in L (r := (r : Nat)) (c := (c : Nat)) (by omega) (by omega) (by omega) (by omega)
  unfold at2 at this
  rwa [Int.toNat_natCast, Int.toNat_natCast] at this
theorem lat_row {n : Nat} {m : List (List Int)} (L : Lat n m) : Inj2 n (fun r _ => (r : Nat)) (cel m) := fun r c r' c' a b d e x y => by
  have x : ((r : Nat) : Int) = (r' : Nat) := x
  have q : r = r' := by omega
  subst q
  exact ⟨rfl, perm_inj (L.row _ (L.at a)) b e y⟩
theorem lat_col {n : Nat} {m : List (List Int)} (L : Lat n m) : Inj2 n (fun _ c => (c : Nat)) (cel m) := fun r c r' c' a b d e x y => by
  have x : ((c : Nat) : Int) = (c' : Nat) := x
  have q : c = c' := by omega
  subst q
  refine ⟨perm_inj (L.col c b) a d ?_, rfl⟩
  have k : ∀ i, i < n → (colI m c).getD i 0 = cel m i c := fun i hi => by
    unfold colI cel
    have : i < m.length := by rw [L.len]; exact hi
    rw [List.getD_eq_getElem?_getD, List.getElem?_map, List.getElem?_eq_getElem this, List.getD_eq_getElem?_getD (l := m), List.getElem?_eq_getElem this]; rfl
  rw [k r a, k r' d]; exact y
theorem row_col (n : Nat) : Inj2 n (fun r _ => (r : Nat)) (fun _ c => (c : Nat)) := fun r c r' c' a b d e x y => by
  have x : ((r : Nat) : Int) = (r' : Nat) := x
  have y : ((c : Nat) : Int) = (c' : Nat) := y
  omega
theorem Fmy.lat {n M : Nat} {rs cl : List Int} {sg : Nat → List Int} (F : Fmy n M rs cl sg) {t : Nat} (ht : t < M) : Lat n (fP n (t + 1)) := by
  have b := F.c.lt
  obtain ⟨q1, q2⟩ := fP_ok n b.2.1 M b.2.2.2 F.c t ht
  have L := (lat_of q1).1
  rwa [q2] at L
theorem Fmy.mate {n M : Nat} {rs cl : List Int} {sg : Nat → List Int} (F : Fmy n M rs cl sg) {s t : Nat} (hs : s < M) (ht : t < M) (hne : s ≠ t) : Inj2 n (cel (ren (fP n (s + 1)) rs cl (sg s))) (cel (ren (fP n (t + 1)) rs cl (sg t))) := fun r c r' c' a b d e x y => by
  have lr : rs.length = n := by rw [F.r.length_eq, rng_len]
  have ll : cl.length = n := by rw [F.l.length_eq, rng_len]
  rw [cel_ren (by omega) (by omega), cel_ren (by omega) (by omega)] at x y
  have R := perm_in F.r a
  have R' := perm_in F.r d
  have C := perm_in F.l b
  have C' := perm_in F.l e
  have L1 := F.lat hs
  have L2 := F.lat ht
  have p1 := at2_in L1 R.1 R.2 C.1 C.2
  have p2 := at2_in L1 R'.1 R'.2 C'.1 C'.2
  have p3 := at2_in L2 R.1 R.2 C.1 C.2
  have p4 := at2_in L2 R'.1 R'.2 C'.1 C'.2
  have x := perm_inj (F.s s hs) (by omega) (by omega) x
  have y := perm_inj (F.s t ht) (by omega) (by omega) y
  have key : rs.getD r 0 = rs.getD r' 0 ∧ cl.getD c 0 = cl.getD c' 0 := by
    generalize rs.getD r 0 = u1 at *
    generalize rs.getD r' 0 = u2 at *
    generalize cl.getD c 0 = u3 at *
    generalize cl.getD c' 0 = u4 at *
    have x' : at2 (fP n (s + 1)) u1 u3 = at2 (fP n (s + 1)) u2 u4 := by omega
    have y' : at2 (fP n (t + 1)) u1 u3 = at2 (fP n (t + 1)) u2 u4 := by omega
    have c := F.c
    by_cases h4 : n = 4
    · subst h4
      obtain ⟨v1, rfl⟩ : ∃ v : Nat, u1 = v := ⟨u1.toNat, by omega⟩
      obtain ⟨v2, rfl⟩ : ∃ v : Nat, u2 = v := ⟨u2.toNat, by omega⟩
      obtain ⟨v3, rfl⟩ : ∃ v : Nat, u3 = v := ⟨u3.toNat, by omega⟩
      obtain ⟨v4, rfl⟩ : ∃ v : Nat, u4 = v := ⟨u4.toNat, by omega⟩
      have m3 : M ≤ 3 := by unfold FC at c; omega
      have := mate4 (s := s) (t := t) (by omega) (by omega) hne (r := v1) (c := v3) (r' := v2) (c' := v4) (by omega) (by omega) (by omega) (by omega) x' y'
      omega
    · rw [at2_fP h4 R.1 R.2 C.1 C.2, at2_fP h4 R'.1 R'.2 C'.1 C'.2] at x' y'
      exact mateP n (by unfold FC at c; omega) M c s t hs ht hne u1 u3 u2 u4 R.1 R.2 C.1 C.2 R'.1 R'.2 C'.1 C'.2 x' y'
  exact ⟨perm_inj F.r a d key.1, perm_inj F.l b e key.2⟩
theorem fms_at {n M : Nat} {rs cl : List Int} {sg : Nat → List Int} {i : Nat} (h : i < M) : (fms n M rs cl sg).getD i [] = ren (fP n (i + 1)) rs cl (sg i) := by
  unfold fms
  rw [List.getD_eq_getElem?_getD, List.getElem?_map, List.getElem?_range h]; rfl
/-- a drawn family has no fault -/
theorem Fmy.good {n M : Nat} {rs cl : List Int} {sg : Nat → List Int} (F : Fmy n M rs cl sg) : famS (fms n M rs cl sg) n = none := by
  unfold famS
  rw [List.findSome?_eq_none_iff]
  intro i hi
  rw [List.findSome?_eq_none_iff]
  intro j hj
  rw [fms_len] at hi hj
  have hi' := List.mem_range.mp hi
  unfold later at hj
  obtain ⟨k, hk, rfl⟩ := List.mem_map.mp hj
  have hk' := List.mem_range.mp hk
  unfold meet
  rw [fms_at hi', fms_at (by show i + 1 + k < M; omega), rep_none (F.mate hi' (by omega) (by omega))]; rfl
end Ev
set_option maxHeartbeats 1000000
/-! Ev, part Sx: words of a family; comprehensions with a test, with two clauses. -/
namespace Ev
open PySem PySem.Spec PyProof.Rows L2
/-! ### comprehensions -/
theorem lcD_G {c : Cfg} {α : Type} {tg : Tg} {conds : Exs} {e : Env → Hs → R D} {ρ : Env} {h : Hs} (g : α → D) (E : α → Env) (p : α → Bool) (f : α → D) : ∀ (xs : List α) (acc : List D),
    (∀ y ∈ xs, tg.den c (g y) ρ h = .nx (E y) h) → (∀ y ∈ xs, Exs.tsts c conds (E y) h = .ok (p y) h) → (∀ y ∈ xs, p y = true → e (E y) h = .ok (f y) h) → acc.length + xs.length ≤ LN →
    lcD (tg.den c) (Exs.tsts c conds) e ρ (xs.map g) acc h = .ok (acc ++ (xs.filter p).map f) h
  | [], acc, _, _, _, _ => by
    show R.ok acc h = .ok (acc ++ []) h
    rw [List.append_nil]
  | x :: xs, acc, h1, h2, h3, hl => by
    have i1 := fun y hy => h1 y (List.mem_cons_of_mem _ hy)
    have i2 := fun y hy => h2 y (List.mem_cons_of_mem _ hy)
    have i3 := fun y hy => h3 y (List.mem_cons_of_mem _ hy)
    rw [List.map_cons]
    unfold lcD
    rw [h1 x List.mem_cons_self]
    dsimp only
    rw [h2 x List.mem_cons_self]
    cases q : p x with
    | true =>
      dsimp only
      rw [h3 x List.mem_cons_self q]
      dsimp only
      rw [if_pos (by simp at hl; omega), lcD_G g E p f xs _ i1 i2 i3 (by simp at hl ⊢; omega), List.filter_cons, if_pos q, List.map_cons, List.append_assoc]; rfl
    | false =>
      dsimp only
      rw [lcD_G g E p f xs _ i1 i2 i3 (by simp at hl ⊢; omega), List.filter_cons, if_neg (by rw [q]; exact Bool.false_ne_true)]
theorem lcG {c : Cfg} {α : Type} {own : List (Str × Nat)} {tg : Tg} {it : Itx} {conds : Exs} {elt : Ex} {ρ : Env} {h : Hs} (g : α → D) (E : α → Env) (p : α → Bool) (f : α → D) (xs : List α) (hit : it.den c ρ h = .ok (xs.map g) h)
    (h1 : ∀ y ∈ xs, tg.den c (g y) (wipeE ρ (own.map (·.2))) h = .nx (E y) h) (h2 : ∀ y ∈ xs, Exs.tsts c conds (E y) h = .ok (p y) h) (h3 : ∀ y ∈ xs, p y = true → (elt.dt c).1 (E y) h = .ok (f y) h) (hl : xs.length ≤ LN) :
    (Ex.dt c (.lc true own tg it conds elt)).1 ρ h = .ok (.lst ((xs.filter p).map f)) h := by
  rw [den_lc, hit, bd_ok, lcD_G g E p f xs [] h1 h2 h3 (by simpa using hl), bd_ok, List.nil_append]
  exact new_fz (by rw [List.length_map]; exact Nat.le_trans (List.length_filter_le _ _) hl)
theorem lc2D_G {c : Cfg} {α β : Type} {tg tg1 : Tg} {it1 : Itx} {e : Env → Hs → R D} {ρ : Env} {vs1 : List Nat} {h : Hs} (g : α → D) (E : α → Env) (k : β → D) (E2 : α → β → Env) (ys : α → List β) (f : α → β → D) : ∀ (xs : List α) (acc : List D),
    (∀ x ∈ xs, tg.den c (g x) ρ h = .nx (E x) h) → (∀ x ∈ xs, it1.den c (E x) h = .ok ((ys x).map k) h) → (∀ x ∈ xs, ∀ y ∈ ys x, tg1.den c (k y) (wipeE (E x) vs1) h = .nx (E2 x y) h) → (∀ x ∈ xs, ∀ y ∈ ys x, e (E2 x y) h = .ok (f x y) h) →
    acc.length + (xs.flatMap ys).length ≤ LN → lc2D (tg.den c) (it1.den c) (tg1.den c) (Exs.tsts c .nil) e ρ vs1 (xs.map g) acc h = .ok (acc ++ xs.flatMap fun x => (ys x).map (f x)) h
  | [], acc, _, _, _, _, _ => by
    show R.ok acc h = .ok (acc ++ []) h
    rw [List.append_nil]
  | x :: xs, acc, h1, h2, h3, h4, hl => by
    rw [List.map_cons]
    unfold lc2D
    rw [h1 x List.mem_cons_self]
    dsimp only
    rw [h2 x List.mem_cons_self]
    dsimp only
    rw [List.flatMap_cons, List.length_append] at hl
    rw [lcD_G (c := c) (conds := .nil) k (E2 x) (fun _ => true) (f x) (ys x) acc (h3 x List.mem_cons_self) (fun y hy => rfl) (fun y hy _ => h4 x List.mem_cons_self y hy) (by omega)]
    dsimp only
    have ft : (ys x).filter (fun _ => true) = ys x := by simp
    rw [ft, lc2D_G g E k E2 ys f xs _ (fun y hy => h1 y (List.mem_cons_of_mem _ hy)) (fun y hy => h2 y (List.mem_cons_of_mem _ hy)) (fun y hy => h3 y (List.mem_cons_of_mem _ hy)) (fun y hy => h4 y (List.mem_cons_of_mem _ hy)) (by rw [List.length_append, List.length_map]; omega), List.flatMap_cons, List.append_assoc]
theorem lc2G {c : Cfg} {α β : Type} {own : List (Str × Nat)} {vs1 : List Nat} {tg tg1 : Tg} {it it1 : Itx} {elt : Ex} {ρ : Env} {h : Hs} (g : α → D) (E : α → Env) (k : β → D) (E2 : α → β → Env) (xs : List α) (ys : α → List β) (f : α → β → D) (hit : it.den c ρ h = .ok (xs.map g) h)
    (h1 : ∀ x ∈ xs, tg.den c (g x) (wipeE ρ (own.map (·.2))) h = .nx (E x) h) (h2 : ∀ x ∈ xs, it1.den c (E x) h = .ok ((ys x).map k) h) (h3 : ∀ x ∈ xs, ∀ y ∈ ys x, tg1.den c (k y) (wipeE (E x) vs1) h = .nx (E2 x y) h)
    (h4 : ∀ x ∈ xs, ∀ y ∈ ys x, (elt.dt c).1 (E2 x y) h = .ok (f x y) h) (hl : (xs.flatMap ys).length ≤ LN) :
    (Ex.dt c (.lc2 true own vs1 tg it tg1 it1 .nil elt)).1 ρ h = .ok (.lst (xs.flatMap fun x => (ys x).map (f x))) h := by
  rw [den_lc2, hit, bd_ok, lc2D_G g E k E2 ys f xs [] h1 h2 h3 h4 (by simpa using hl), bd_ok, List.nil_append]
  refine new_fz ?_
  have e : (xs.flatMap fun x => (ys x).map (f x)).length = (xs.flatMap ys).length := by
    rw [List.length_flatMap, List.length_flatMap]
    congr 1
    refine List.map_congr_left fun x _ => ?_
    rw [List.length_map]
  rw [e]; exact hl
/-! ### cells in a row -/
theorem flat_rng {α : Type} (F : Nat → Nat → α) {m : Nat} (hm : 0 < m) : ∀ n, ((List.range n).flatMap fun r => (List.range m).map fun c => F r c) = (List.range (n * m)).map fun k => F (k / m) (k % m)
  | 0 => by rw [Nat.zero_mul]; rfl
  | n + 1 => by
    rw [List.range_succ, List.flatMap_append, flat_rng F hm n, Nat.succ_mul, List.range_add, List.map_append, List.map_map]
    congr 1
    rw [List.flatMap_cons, List.flatMap_nil, List.append_nil]
    refine List.map_congr_left fun c hc => ?_
    have := List.mem_range.mp hc
    show F n c = F ((n * m + c) / m) ((n * m + c) % m)
    rw [Nat.mul_comm, Nat.mul_add_div hm, Nat.div_eq_of_lt this, Nat.mul_add_mod, Nat.mod_eq_of_lt this, Nat.add_zero]
theorem nodup_len {α : Type} [DecidableEq α] : ∀ (l m : List α), l.Nodup → (∀ x ∈ l, x ∈ m) → l.length ≤ m.length
  | [], m, _, _ => Nat.zero_le _
  | x :: l, m, h, s => by
    rw [List.nodup_cons] at h
    have hx := s x List.mem_cons_self
    have := nodup_len l (m.erase x) h.2 fun y hy => by
      have ne : y ≠ x := fun z => h.1 (by rw [← z]; exact hy)
      exact (List.mem_erase_of_ne ne).mpr (s y (List.mem_cons_of_mem _ hy))
    rw [List.length_erase_of_mem hx] at this
    have := List.length_pos_of_mem hx
    rw [List.length_cons]; omega
theorem pig {N : Nat} (h : Nat → Nat) (hb : ∀ k, k < N → h k < N) (hi : ∀ j k, j < N → k < N → h j = h k → j = k) : ∀ v, v < N → ∃ k, k < N ∧ h k = v := fun v hv => by
  refine Classical.byContradiction fun z => ?_
  have nd : ((List.range N).map h).Nodup := by
    rw [List.nodup_iff_pairwise_ne, List.pairwise_map]
    refine List.Pairwise.imp_of_mem (R := fun a b => a ≠ b) (fun {a b} ha hb' hab e => hab (hi a b (List.mem_range.mp ha) (List.mem_range.mp hb') e)) ?_
    exact List.nodup_iff_pairwise_ne.mp List.nodup_range
  have := nodup_len (v :: (List.range N).map h) (List.range N) (List.nodup_cons.mpr ⟨fun m => by
    obtain ⟨k, hk, e⟩ := List.mem_map.mp m
    exact z ⟨k, List.mem_range.mp hk, e⟩, nd⟩) (fun x hx => by
    rcases List.mem_cons.mp hx with rfl | hx
    · exact List.mem_range.mpr hv
    · obtain ⟨k, hk, rfl⟩ := List.mem_map.mp hx
      exact List.mem_range.mpr (hb k (List.mem_range.mp hk)))
  rw [List.length_cons, List.length_map, List.length_range] at this
  omega
/-- two functions that tell the cell take every pair of values -/
theorem Inj2.onto {n : Nat} {f g : Nat → Nat → Int} (I : Inj2 n f g) (hf : ∀ r c, r < n → c < n → 0 ≤ f r c ∧ f r c < n) (hg : ∀ r c, r < n → c < n → 0 ≤ g r c ∧ g r c < n) {u v : Int} (u0 : 0 ≤ u) (u1 : u < n) (v0 : 0 ≤ v) (v1 : v < n) : ∃ r c, r < n ∧ c < n ∧ f r c = u ∧ g r c = v := by
  have n0 : 0 < n := by omega
  have dv : ∀ k, k < n * n → k / n < n ∧ k % n < n := fun k hk => ⟨Nat.div_lt_of_lt_mul hk, Nat.mod_lt _ n0⟩
  have un : ∀ a b c d : Nat, b < n → d < n → a * n + b = c * n + d → a = c ∧ b = d := fun a b c d hb hd e => by
    have h1 : (a * n + b) / n = a := by rw [Nat.mul_comm, Nat.mul_add_div n0, Nat.div_eq_of_lt hb, Nat.add_zero]
    have h2 : (c * n + d) / n = c := by rw [Nat.mul_comm, Nat.mul_add_div n0, Nat.div_eq_of_lt hd, Nat.add_zero]
    have q : a = c := by rw [← h1, ← h2, e]
    subst q
    exact ⟨rfl, by omega⟩
  obtain ⟨k, hk, e⟩ := pig (N := n * n) (fun k => (f (k / n) (k % n)).toNat * n + (g (k / n) (k % n)).toNat) (fun k hk => by
    obtain ⟨a, b⟩ := dv k hk
    have x := hf _ _ a b
    have y := hg _ _ a b
    have : (f (k / n) (k % n)).toNat * n ≤ (n - 1) * n := Nat.mul_le_mul_right n (by omega)
    have e : (n - 1) * n + n = n * n := by rw [← Nat.succ_mul, Nat.succ_eq_add_one, Nat.sub_add_cancel n0]
    show (f (k / n) (k % n)).toNat * n + (g (k / n) (k % n)).toNat < n * n
    omega) (fun j k hj hk e => by
    obtain ⟨a, b⟩ := dv j hj
    obtain ⟨a', b'⟩ := dv k hk
    have x := hf _ _ a b
    have y := hg _ _ a b
    have x' := hf _ _ a' b'
    have y' := hg _ _ a' b'
    obtain ⟨e1, e2⟩ := un _ _ _ _ (by omega) (by omega) e
    obtain ⟨q1, q2⟩ := I _ _ _ _ a b a' b' (by omega) (by omega)
    rw [← Nat.div_add_mod j n, ← Nat.div_add_mod k n, q1, q2]) (u.toNat * n + v.toNat) (by
    have : u.toNat * n ≤ (n - 1) * n := Nat.mul_le_mul_right n (by omega)
    have e : (n - 1) * n + n = n * n := by rw [← Nat.succ_mul, Nat.succ_eq_add_one, Nat.sub_add_cancel n0]
    omega)
  obtain ⟨a, b⟩ := dv k hk
  have x := hf _ _ a b
  have y := hg _ _ a b
  obtain ⟨e1, e2⟩ := un _ _ _ _ (by omega) (by omega) e
  exact ⟨_, _, a, b, by omega, by omega⟩
/-! ### words -/
def word (ms : List (List (List Int))) (r c : Nat) : List Int := (r : Int) :: (c : Int) :: ms.map fun m => cel m r c
def words (ms : List (List (List Int))) (n : Nat) : List (List Int) := (List.range n).flatMap fun r => (List.range n).map fun c => word ms r c
def wcol (ms : List (List (List Int))) : Nat → Nat → Nat → Int
  | 0 => fun r _ => (r : Int)
  | 1 => fun _ c => (c : Int)
  | k + 2 => cel (ms.getD k [])
theorem word_len {ms : List (List (List Int))} {r c : Nat} : (word ms r c).length = ms.length + 2 := by unfold word; simp
theorem word_get {ms : List (List (List Int))} {r c : Nat} : ∀ x, x < ms.length + 2 → (word ms r c).getD x 0 = wcol ms x r c
  | 0, _ => rfl
  | 1, _ => rfl
  | k + 2, h => by
    show (ms.map fun m => cel m r c).getD k 0 = cel (ms.getD k []) r c
    have : k < ms.length := by omega
    rw [List.getD_eq_getElem?_getD, List.getElem?_map, List.getElem?_eq_getElem this, List.getD_eq_getElem?_getD, List.getElem?_eq_getElem this]; rfl
theorem words_rng {ms : List (List (List Int))} {n : Nat} (hn : 0 < n) : words ms n = (List.range (n * n)).map fun k => word ms (k / n) (k % n) := flat_rng (word ms) hn n
theorem words_len {ms : List (List (List Int))} {n : Nat} (hn : 0 < n) : (words ms n).length = n * n := by rw [words_rng hn, List.length_map, List.length_range]
section
variable {n M : Nat} {rs cl : List Int} {sg : Nat → List Int} (F : Fmy n M rs cl sg)
include F
theorem Fmy.lat_at {i : Nat} (h : i < M) : Lat n ((fms n M rs cl sg).getD i []) := by
  have hm : (fms n M rs cl sg).getD i [] ∈ fms n M rs cl sg := by
    rw [List.getD_eq_getElem?_getD, List.getElem?_eq_getElem (by rw [fms_len]; exact h)]; exact List.getElem_mem _
  obtain ⟨b, l⟩ := F.sq _ hm
  have L := (lat_of b).1
  rwa [l] at L
theorem Fmy.inj : ∀ {x y : Nat}, x < M + 2 → y < M + 2 → x ≠ y → Inj2 n (wcol (fms n M rs cl sg) x) (wcol (fms n M rs cl sg) y)
  | 0, 0, _, _, h => absurd rfl h
  | 1, 1, _, _, h => absurd rfl h
  | 0, 1, _, _, _ => row_col n
  | 1, 0, _, _, _ => (row_col n).swap
  | 0, k + 2, _, h, _ => lat_row (F.lat_at (by omega))
  | k + 2, 0, h, _, _ => (lat_row (F.lat_at (by omega))).swap
  | 1, k + 2, _, h, _ => lat_col (F.lat_at (by omega))
  | k + 2, 1, h, _, _ => (lat_col (F.lat_at (by omega))).swap
  | k + 2, j + 2, h, h', ne => by
    show Inj2 n (cel ((fms n M rs cl sg).getD k [])) (cel ((fms n M rs cl sg).getD j []))
    rw [fms_at (by omega), fms_at (by omega)]
    exact F.mate (by omega) (by omega) (by omega)
theorem Fmy.col_in : ∀ {x : Nat}, x < M + 2 → ∀ r c, r < n → c < n → 0 ≤ wcol (fms n M rs cl sg) x r c ∧ wcol (fms n M rs cl sg) x r c < n
  | 0, _, r, c, hr, hc => ⟨Int.natCast_nonneg r, Int.ofNat_lt.mpr hr⟩
  | 1, _, r, c, hr, hc => ⟨Int.natCast_nonneg c, Int.ofNat_lt.mpr hc⟩
  | k + 2, h, r, c, hr, hc => cel_in (F.lat_at (by omega)) hr hc
end
end Ev
set_option maxHeartbeats 1000000
/-! Ev, part Sy: words with lost signs. -/
namespace Ev
open PySem PySem.Spec PyProof.Rows L2
def oD : Option Int → D
  | some v => .int v
  | none => .non
theorem oD_pure : ∀ o, (oD o).pure = true
  | some _ => rfl
  | none => rfl
structure Wd (N l : Nat) (wd : List (Option Int)) : Prop where
  len : wd.length = l
  inn : ∀ v, some v ∈ wd → 0 ≤ v ∧ v < N
def kept (wd : List (Option Int)) : List Nat := (List.range wd.length).filter fun i => (wd.getD i none).isSome
def fits (wd : List (Option Int)) (w : List Int) : Bool := (kept wd).all fun i => decide (w.getD i 0 = (wd.getD i none).getD 0)
theorem kept_lt {wd : List (Option Int)} {i : Nat} (h : i ∈ kept wd) : i < wd.length ∧ ∃ v, wd.getD i none = some v := by
  unfold kept at h
  obtain ⟨h1, h2⟩ := List.mem_filter.mp h
  exact ⟨List.mem_range.mp h1, Option.isSome_iff_exists.mp h2⟩
theorem enum0 {xs : List D} : (List.range xs.length).zipWith (fun k x => D.tup [.int (k : Nat), x]) xs = (List.range xs.length).map fun j => .tup [.int (j : Nat), xs.getD j .non] := by
  refine List.ext_getElem? fun i => ?_
  rw [List.getElem?_zipWith, List.getElem?_map]
  by_cases h : i < xs.length
  · rw [List.getElem?_range h, List.getElem?_eq_getElem h]
    show some (D.tup [.int (i : Nat), xs[i]]) = some (D.tup [.int (i : Nat), xs.getD i .non])
    rw [List.getD_eq_getElem?_getD, List.getElem?_eq_getElem h]; rfl
  · rw [List.getElem?_eq_none (l := List.range xs.length) (by simpa using h)]; rfl
theorem is_oD (o : Option Int) (h : Hs) : cmpD .is (oD o) .non h = .ok (.bl o.isNone) h := by cases o <;> rfl
theorem isnot_oD (o : Option Int) (h : Hs) : cmpD .isnot (oD o) .non h = .ok (.bl o.isSome) h := by cases o <;> rfl
/-! ### the greatest -/
theorem best_max {m : Int} : ∀ (ns : List Int) (n : Int), n ≤ m → (∀ x ∈ ns, x ≤ m) → (m = n ∨ m ∈ ns) → bestL (fun x y => decide (x > y)) n ns = m
  | [], n, _, _, h => by
    rcases h with h | h
    · exact h.symm
    · cases h
  | x :: ns, n, h1, h2, h3 => by
    show bestL _ (if decide (x > n) = true then x else n) ns = m
    have hx := h2 x List.mem_cons_self
    by_cases q : x > n
    · rw [if_pos (decide_eq_true q)]
      refine best_max ns x hx (fun y hy => h2 y (List.mem_cons_of_mem _ hy)) ?_
      rcases h3 with h | h
      · omega
      · exact (List.mem_cons.mp h).imp id id
    · rw [if_neg (by simpa using q)]
      refine best_max ns n h1 (fun y hy => h2 y (List.mem_cons_of_mem _ hy)) ?_
      rcases h3 with h | h
      · exact .inl h
      · rcases List.mem_cons.mp h with h | h
        · left; omega
        · exact .inr h
theorem pr_max1 {fz : Bool} {xs : List Int} {m : Int} {h : Hs} (h1 : ∀ x ∈ xs, x ≤ m) (h2 : m ∈ xs) : primD .max1 fz [.lst (xs.map .int)] h = .ok (.int m) h := by
  cases xs with
  | nil => cases h2
  | cons x xs =>
    show (match D.ints ((x :: xs).map .int) with | some (n :: ns) => R.ok (D.int (bestL (fun x y => decide (x > y)) n ns)) h | _ => .stuck) = _
    rw [ints_map]
    dsimp only
    rw [best_max xs x (h1 x List.mem_cons_self) (fun y hy => h1 y (List.mem_cons_of_mem _ hy)) (List.mem_cons.mp h2)]
/-! ### from any two places -/
section
variable {n M : Nat} {rs cl : List Int} {sg : Nat → List Int} (F : Fmy n M rs cl sg) {wd : List (Option Int)} (W : Wd n (M + 2) wd)
include F W
theorem fit_uniq (hk : 2 ≤ (kept wd).length) {a b : Nat} (ha : a < n * n) (hb : b < n * n) (fa : fits wd (word (fms n M rs cl sg) (a / n) (a % n)) = true) (fb : fits wd (word (fms n M rs cl sg) (b / n) (b % n)) = true) : a = b := by
  have n0 : 0 < n := by have := F.c.lt; omega
  have dv : ∀ k, k < n * n → k / n < n ∧ k % n < n := fun k hk => ⟨Nat.div_lt_of_lt_mul hk, Nat.mod_lt _ n0⟩
  obtain ⟨x, y, hx, hy, ne⟩ : ∃ x y, x ∈ kept wd ∧ y ∈ kept wd ∧ x ≠ y := by
    have nd : (kept wd).Nodup := List.nodup_range.filter _
    match e : kept wd, hk with
    | x :: y :: r, _ =>
      rw [e] at nd
      exact ⟨x, y, by simp, by simp, fun z => by subst z; simp at nd⟩
  have lx := (kept_lt hx).1
  have ly := (kept_lt hy).1
  rw [W.len] at lx ly
  have e1 := of_decide_eq_true (List.all_eq_true.mp fa x hx)
  have e2 := of_decide_eq_true (List.all_eq_true.mp fb x hx)
  have e3 := of_decide_eq_true (List.all_eq_true.mp fa y hy)
  have e4 := of_decide_eq_true (List.all_eq_true.mp fb y hy)
  rw [word_get x (by rw [fms_len]; exact lx)] at e1 e2
  rw [word_get y (by rw [fms_len]; exact ly)] at e3 e4
  obtain ⟨q1, q2⟩ := F.inj lx ly ne _ _ _ _ (dv a ha).1 (dv a ha).2 (dv b hb).1 (dv b hb).2 (by rw [e1, e2]) (by rw [e3, e4])
  rw [← Nat.div_add_mod a n, ← Nat.div_add_mod b n, q1, q2]
theorem fit_ex (hk : (kept wd).length = 2) : ∃ a, a < n * n ∧ fits wd (word (fms n M rs cl sg) (a / n) (a % n)) = true := by
  have n0 : 0 < n := by have := F.c.lt; omega
  obtain ⟨x, y, e⟩ : ∃ x y, kept wd = [x, y] := by
    match e : kept wd, hk with
    | [x, y], _ => exact ⟨x, y, rfl⟩
  have nd : (kept wd).Nodup := List.nodup_range.filter _
  have hx : x ∈ kept wd := by rw [e]; simp
  have hy : y ∈ kept wd := by rw [e]; simp
  have ne : x ≠ y := fun z => by rw [e, z] at nd; simp at nd
  obtain ⟨lx, u, hu⟩ := kept_lt hx
  obtain ⟨ly, v, hv⟩ := kept_lt hy
  have mem : ∀ i o, i < wd.length → wd.getD i none = some o → some o ∈ wd := fun i o hi h => by
    rw [← h, List.getD_eq_getElem?_getD, List.getElem?_eq_getElem hi]; exact List.getElem_mem _
  have hu2 := W.inn u (mem x u lx hu)
  have hv2 := W.inn v (mem y v ly hv)
  rw [W.len] at lx ly
  obtain ⟨r, c, hr, hc, f1, f2⟩ := (F.inj lx ly ne).onto (fun r c hr hc => F.col_in lx r c hr hc) (fun r c hr hc => F.col_in ly r c hr hc) hu2.1 hu2.2 hv2.1 hv2.2
  have d1 : (r * n + c) / n = r := by rw [Nat.mul_comm, Nat.mul_add_div n0, Nat.div_eq_of_lt hc, Nat.add_zero]
  have d2 : (r * n + c) % n = c := by rw [Nat.mul_comm, Nat.mul_add_mod, Nat.mod_eq_of_lt hc]
  refine ⟨r * n + c, ?_, ?_⟩
  · have : r * n ≤ (n - 1) * n := Nat.mul_le_mul_right n (by omega)
    have e : (n - 1) * n + n = n * n := by rw [← Nat.succ_mul, Nat.succ_eq_add_one, Nat.sub_add_cancel n0]
    omega
  · rw [d1, d2]
    unfold fits
    rw [e]
    simp only [List.all_cons, List.all_nil, Bool.and_true, Bool.and_eq_true, decide_eq_true_eq]
    rw [word_get x (by rw [fms_len]; exact lx), word_get y (by rw [fms_len]; exact ly), hu, hv]
    exact ⟨f1, f2⟩
theorem filt_uniq {N : Nat} {p : Nat → Bool} (h : ∀ a b, a < N → b < N → p a = true → p b = true → a = b) : ((List.range N).filter p).length ≤ 1 := by
  have nd : ((List.range N).filter p).Nodup := List.nodup_range.filter _
  match e : (List.range N).filter p with
  | [] => exact Nat.zero_le _
  | [x] => exact Nat.le_refl _
  | x :: y :: r =>
    rw [e] at nd
    have hx : x ∈ (List.range N).filter p := by rw [e]; simp
    have hy : y ∈ (List.range N).filter p := by rw [e]; simp
    obtain ⟨x1, x2⟩ := List.mem_filter.mp hx
    obtain ⟨y1, y2⟩ := List.mem_filter.mp hy
    have := h x y (List.mem_range.mp x1) (List.mem_range.mp y1) x2 y2
    subst this
    simp at nd
theorem due_le (hk : 2 ≤ (kept wd).length) : ((words (fms n M rs cl sg) n).filter (fits wd)).length ≤ 1 := by
  have n0 : 0 < n := by have := F.c.lt; omega
  rw [words_rng n0, List.filter_map, List.length_map]
  exact filt_uniq F W fun a b ha hb fa fb => fit_uniq F W hk ha hb fa fb
theorem due_one (hk : (kept wd).length = 2) : ((words (fms n M rs cl sg) n).filter (fits wd)).length = 1 := by
  have n0 : 0 < n := by have := F.c.lt; omega
  have le := due_le F W (by omega)
  obtain ⟨a, ha, fa⟩ := fit_ex F W hk
  have : word (fms n M rs cl sg) (a / n) (a % n) ∈ (words (fms n M rs cl sg) n).filter (fits wd) := List.mem_filter.mpr ⟨by
    rw [words_rng n0]; exact List.mem_map.mpr ⟨a, List.mem_range.mpr ha, rfl⟩, fa⟩
  have := List.length_pos_of_mem this
  omega
end
def findO (wd : List (Option Int)) (ws : List (List Int)) : Option (List Int) := ws.findSome? fun w => if fits wd w = true then some w else none
theorem find_head (wd : List (Option Int)) : ∀ ws : List (List Int), findO wd ws = (ws.filter (fits wd)).head?
  | [] => rfl
  | w :: ws => by
    unfold findO
    rw [List.findSome?_cons, List.filter_cons]
    by_cases q : fits wd w = true
    · rw [if_pos q, if_pos q]; rfl
    · rw [if_neg q, if_neg q]; exact find_head wd ws
end Ev
set_option maxHeartbeats 1000000
/-! Ev, part Sz: a table in cells: rows in cells under a list in a cell. -/
namespace Ev
open PySem PySem.Spec PyProof.Rows L2
theorem erase_map {α β : Type} (f : α → β) : ∀ (l : List α) (i : Nat), (l.map f).eraseIdx i = (l.eraseIdx i).map f
  | [], _ => rfl
  | _ :: _, 0 => rfl
  | x :: l, i + 1 => by
    show f x :: (l.map f).eraseIdx i = f x :: (l.eraseIdx i).map f
    rw [erase_map f l i]
structure MH (h : Hs) (q : Nat) (ks : List Nat) (m : List (List Int)) : Prop where
  out : h[q]? = some (.lst (ks.map .ref))
  nq : ∀ k ∈ ks, k ≠ q
  nd : ks.Nodup
  len : ks.length = m.length
  row : ∀ i, i < m.length → h[ks.getD i 0]? = some (.lst ((m.getD i []).map .int))
section
variable {h : Hs} {q : Nat} {ks : List Nat} {m : List (List Int)} (Z : MH h q ks m)
include Z
theorem MH.mem {i : Nat} (hi : i < m.length) : ks.getD i 0 ∈ ks := by
  rw [List.getD_eq_getElem?_getD, List.getElem?_eq_getElem (by rw [Z.len]; exact hi)]; exact List.getElem_mem _
theorem MH.lt {i : Nat} (hi : i < m.length) : ks.getD i 0 < h.length := (List.getElem?_eq_some_iff.mp (Z.row i hi)).1
theorem MH.qlt : q < h.length := (List.getElem?_eq_some_iff.mp Z.out).1
theorem MH.inj {i j : Nat} (hi : i < m.length) (hj : j < m.length) (e : ks.getD i 0 = ks.getD j 0) : i = j := by
  rw [List.getD_eq_getElem?_getD, List.getD_eq_getElem?_getD, List.getElem?_eq_getElem (by rw [Z.len]; exact hi), List.getElem?_eq_getElem (by rw [Z.len]; exact hj)] at e
  exact (List.getElem_inj Z.nd).mp e
theorem MH.seq : seqOf h (.ref q) = some (ks.map .ref, true) := by unfold seqOf; dsimp only; rw [Z.out]
theorem MH.seqr {i : Nat} (hi : i < m.length) : seqOf h (.ref (ks.getD i 0)) = some ((m.getD i []).map .int, true) := by unfold seqOf; dsimp only; rw [Z.row i hi]
theorem MH.at {i : Nat} (hi : i < m.length) : idxD (.ref q) (.int (i : Nat)) h = .ok (.ref (ks.getD i 0)) h := by
  unfold idxD dctOf
  dsimp only
  rw [Z.out]
  dsimp only
  rw [Z.seq]
  dsimp only
  rw [at_nat (by rw [List.length_map, Z.len]; exact hi), getD_map (by rw [Z.len]; exact hi) 0]
theorem MH.cel {i c : Nat} (hi : i < m.length) (hc : c < (m.getD i []).length) : idxD (.ref (ks.getD i 0)) (.int (c : Nat)) h = .ok (.int ((m.getD i []).getD c 0)) h := by
  unfold idxD dctOf
  dsimp only
  rw [Z.row i hi]
  dsimp only
  rw [Z.seqr hi]
  dsimp only
  rw [at_nat (by rw [List.length_map]; exact hc), getD_map hc 0]
/-- a row replaced -/
theorem MH.upd {i : Nat} (hi : i < m.length) (x : List Int) : MH (h.set (ks.getD i 0) (.lst (x.map .int))) q ks (m.set i x) where
  out := by
    rw [List.getElem?_set_ne (Z.nq _ (Z.mem hi)), Z.out]
  nq := Z.nq
  nd := Z.nd
  len := by rw [List.length_set, Z.len]
  row := fun j hj => by
    rw [List.length_set] at hj
    by_cases e : i = j
    · subst e
      rw [List.getElem?_set_self (Z.lt hi), List.getD_eq_getElem?_getD (l := m.set i x), List.getElem?_set_self hj]; rfl
    · rw [List.getElem?_set_ne (fun z => e (Z.inj hi hj z)), Z.row j hj, List.getD_eq_getElem?_getD (l := m.set i x), List.getElem?_set_ne e, List.getD_eq_getElem?_getD]
theorem MH.put {i c : Nat} {v : Int} (hi : i < m.length) (hc : c < (m.getD i []).length) : setD (.ref (ks.getD i 0)) (.int (c : Nat)) (.int v) h = some (h.set (ks.getD i 0) (.lst (((m.getD i []).set c v).map .int))) := by
  unfold setD
  dsimp only
  rw [Z.row i hi]
  show (ixN ((m.getD i []).map D.int).length (c : Nat)).map _ = _
  rw [List.length_map, ix_ok (by omega) (by omega), Int.toNat_natCast, List.map_set]; rfl
theorem MH.appr {i : Nat} {v : Int} (hi : i < m.length) (hl : (m.getD i []).length < LN) : methD .append (.ref (ks.getD i 0)) [.int v] h = .ok .non (h.set (ks.getD i 0) (.lst ((m.getD i [] ++ [v]).map .int))) := by
  rw [m_append (Z.row i hi) (by rw [List.length_map]; exact hl), List.map_append]; rfl
theorem MH.popr {i c : Nat} (hi : i < m.length) (hc : c < (m.getD i []).length) (hl : (m.getD i []).length ≤ LN) : ∃ d, methD .popAt (.ref (ks.getD i 0)) [.int (c : Nat)] h = .ok d (h.set (ks.getD i 0) (.lst (((m.getD i []).eraseIdx c).map .int))) := by
  unfold methD
  dsimp only
  rw [Z.row i hi]
  dsimp only
  rw [if_pos ⟨by omega, by rw [List.length_map]; omega, by rw [List.length_map]; exact hl⟩, Int.toNat_natCast, List.getElem?_map, List.getElem?_eq_getElem hc]
  refine ⟨.int ((m.getD i [])[c]), ?_⟩
  show R.ok _ (h.set _ (.lst (((m.getD i []).map D.int).eraseIdx c))) = _
  congr 3
  rw [erase_map]
/-- a row taken out -/
theorem MH.pop {i : Nat} (hi : i < m.length) (hl : m.length ≤ LN) : ∃ d, methD .popAt (.ref q) [.int (i : Nat)] h = .ok d (h.set q (.lst ((ks.eraseIdx i).map .ref))) := by
  unfold methD
  dsimp only
  rw [Z.out]
  dsimp only
  have hk : i < ks.length := by rw [Z.len]; exact hi
  rw [if_pos ⟨by omega, by rw [List.length_map]; omega, by rw [List.length_map, Z.len]; exact hl⟩, Int.toNat_natCast, List.getElem?_map, List.getElem?_eq_getElem hk]
  refine ⟨.ref (ks[i]), ?_⟩
  show R.ok _ (h.set _ (.lst ((ks.map D.ref).eraseIdx i))) = _
  congr 3
  rw [erase_map]
theorem MH.popped {i : Nat} (hi : i < m.length) : MH (h.set q (.lst ((ks.eraseIdx i).map .ref))) q (ks.eraseIdx i) (m.eraseIdx i) where
  out := List.getElem?_set_self Z.qlt
  nq := fun k hk => Z.nq k (List.mem_of_mem_eraseIdx hk)
  nd := Z.nd.sublist (List.eraseIdx_sublist ks i)
  len := by rw [List.length_eraseIdx_of_lt (by rw [Z.len]; exact hi), List.length_eraseIdx_of_lt hi, Z.len]
  row := fun j hj => by
    rw [List.length_eraseIdx_of_lt hi] at hj
    have g : ∀ {α : Type} (l : List α) (d : α), (l.eraseIdx i).getD j d = l.getD (if j < i then j else j + 1) d := fun l d => by
      rw [List.getD_eq_getElem?_getD, List.getD_eq_getElem?_getD, List.getElem?_eraseIdx]
      split <;> rfl
    rw [g, g]
    have hj' : (if j < i then j else j + 1) < m.length := by split <;> omega
    rw [List.getElem?_set_ne (fun z => Z.nq _ (Z.mem hj') z.symm)]
    exact Z.row _ hj'
/-- a copy of a row in a row's stead -/
theorem MH.copy {i j : Nat} (hi : i < m.length) (hj : j < m.length) (hl : (m.getD j []).length ≤ LN) : primD .listOf false [.ref (ks.getD j 0)] h = .ok (.ref h.length) (h ++ [.lst ((m.getD j []).map .int)]) := by
  unfold primD
  dsimp only
  rw [Z.seqr hj]
  exact new_cell (by rw [List.length_map]; exact hl)
theorem MH.putrow {i : Nat} {c : Cell} (hi : i < m.length) : setD (.ref q) (.int (i : Nat)) (.ref h.length) (h ++ [c]) = some ((h ++ [c]).set q (.lst ((ks.set i h.length).map .ref))) := by
  unfold setD
  dsimp only
  rw [List.getElem?_append_left Z.qlt, Z.out]
  show (ixN (ks.map D.ref).length (i : Nat)).map _ = _
  rw [List.length_map, ix_ok (by omega) (by rw [Z.len]; omega), Int.toNat_natCast, List.map_set]; rfl
theorem MH.copied {i : Nat} (hi : i < m.length) (x : List Int) : MH ((h ++ [Cell.lst (x.map .int)]).set q (.lst ((ks.set i h.length).map .ref))) q (ks.set i h.length) (m.set i x) where
  out := List.getElem?_set_self (by rw [List.length_append]; exact Nat.lt_add_right _ Z.qlt)
  nq := fun k hk => by
    rcases List.mem_or_eq_of_mem_set hk with z | z
    · exact Z.nq k z
    · rw [z]; have := Z.qlt; omega
  nd := by
    have nm : ∀ k ∈ ks, k < h.length := fun k hk => by
      obtain ⟨j, hj⟩ := List.mem_iff_getElem?.mp hk
      have hjl := (List.getElem?_eq_some_iff.mp hj).1
      have := Z.lt (i := j) (by rw [← Z.len]; exact hjl)
      rw [List.getD_eq_getElem?_getD, hj] at this
      exact this
    have hk : i < ks.length := by rw [Z.len]; exact hi
    rw [List.nodup_iff_pairwise_ne, List.pairwise_iff_getElem]
    intro a b ha hb hab
    rw [List.length_set] at ha hb
    rw [List.getElem_set, List.getElem_set]
    have l1 := nm _ (List.getElem_mem ha)
    have l2 := nm _ (List.getElem_mem hb)
    have ne : ks[a] ≠ ks[b] := fun z => by
      have := (List.getElem_inj Z.nd).mp z
      omega
    split <;> split <;> omega
  len := by rw [List.length_set, List.length_set, Z.len]
  row := fun j hj => by
    rw [List.length_set] at hj
    have hk : i < ks.length := by rw [Z.len]; exact hi
    by_cases e : i = j
    · subst e
      rw [List.getD_eq_getElem?_getD (l := ks.set _ _), List.getElem?_set_self hk, List.getD_eq_getElem?_getD (l := m.set i x), List.getElem?_set_self hj]
      show ((h ++ [Cell.lst (x.map .int)]).set q _)[h.length]? = some (.lst (x.map .int))
      rw [List.getElem?_set_ne (by have := Z.qlt; omega)]
      exact cell_at _ _
    · rw [List.getD_eq_getElem?_getD (l := ks.set _ _), List.getElem?_set_ne e, ← List.getD_eq_getElem?_getD, List.getD_eq_getElem?_getD (l := m.set i x), List.getElem?_set_ne e, ← List.getD_eq_getElem?_getD]
      rw [List.getElem?_set_ne (fun z => Z.nq _ (Z.mem hj) z.symm), List.getElem?_append_left (Z.lt hj)]
      exact Z.row j hj
end
/-! ### frozen whole -/
theorem fzL_ints {k : Nat} {h : Hs} : ∀ xs : List Int, fzL (k + 1) (xs.map .int) h = some (xs.map .int, h)
  | [] => by unfold fzL; rfl
  | x :: xs => by
    have e : fzD (k + 1) (.int x) h = some (.int x, h) := by unfold fzD; rw [if_pos (show (D.int x).pure = true from rfl)]
    rw [List.map_cons]
    unfold fzL
    rw [e]
    dsimp only
    rw [fzL_ints xs]
theorem fz_row {k n : Nat} {h : Hs} {r : List Int} (e : h[n]? = some (.lst (r.map .int))) : fzD (k + 2) (.ref n) h = some (.lst (r.map .int), h.set n .dead) := by
  unfold fzD
  rw [if_neg (by show ¬ (false = true); exact Bool.false_ne_true)]
  dsimp only
  rw [e]
  dsimp only
  rw [fzL_ints]
  dsimp only
  rw [e]
theorem fz_rows {k : Nat} : ∀ (ks : List Nat) (m : List (List Int)) (h : Hs), ks.length = m.length → ks.Nodup → (∀ i, i < m.length → h[ks.getD i 0]? = some (.lst ((m.getD i []).map .int))) →
    ∃ h', fzL (k + 2) (ks.map .ref) h = some (m.map fun r => .lst (r.map .int), h') ∧ ∀ j, j ∉ ks → h'[j]? = h[j]?
  | [], [], h, _, _, _ => ⟨h, by unfold fzL; rfl, fun _ _ => rfl⟩
  | [], _ :: _, _, e, _, _ => by simp at e
  | _ :: _, [], _, e, _, _ => by simp at e
  | k0 :: ks, r :: m, h, e, nd, hr => by
    rw [List.nodup_cons] at nd
    have e0 := hr 0 (by simp)
    have e0 : h[k0]? = some (.lst (r.map .int)) := e0
    obtain ⟨h', q1, q2⟩ := fz_rows (k := k) ks m (h.set k0 .dead) (by simpa using e) nd.2 fun i hi => by
      have := hr (i + 1) (by simpa using hi)
      have hk : ks.getD i 0 ∈ ks := by
        rw [List.getD_eq_getElem?_getD, List.getElem?_eq_getElem (by simp at e; omega)]; exact List.getElem_mem _
      rw [List.getElem?_set_ne (fun z => nd.1 (by rw [z]; exact hk))]
      exact this
    refine ⟨h', ?_, fun j hj => ?_⟩
    · rw [List.map_cons]
      unfold fzL
      rw [fz_row e0]
      dsimp only
      rw [q1]; rfl
    · rw [q2 j (fun z => hj (List.mem_cons_of_mem _ z)), List.getElem?_set_ne (fun z => hj (by rw [← z]; exact List.mem_cons_self))]
theorem MH.fz {h : Hs} {q : Nat} {ks : List Nat} {m : List (List Int)} (Z : MH h q ks m) : ∃ h', fzD DEEPF (.ref q) h = some (sqD false false m, h') := by
  obtain ⟨h', q1, q2⟩ := fz_rows (k := 3) ks m h Z.len Z.nd Z.row
  have qn : q ∉ ks := fun z => Z.nq q z rfl
  refine ⟨h'.set q .dead, ?_⟩
  show fzD 6 (.ref q) h = _
  unfold fzD
  rw [if_neg (by show ¬ (false = true); exact Bool.false_ne_true)]
  dsimp only
  rw [Z.out]
  dsimp only
  rw [q1]
  dsimp only
  rw [q2 q qn, Z.out]; rfl
/-! ### made by a comprehension -/
theorem lcD_cells {c : Cfg} {α : Type} {i : Nat} {e : Env → Hs → R D} {ρ : Env} (g : α → D) (f : α → List Int) (hl : i < ρ.length) (he : ∀ y hh, e (ρ.set i (some (g y))) hh = .ok (.ref hh.length) (hh ++ [.lst ((f y).map .int)])) : ∀ (xs : List α) (acc : List D) (h : Hs), acc.length + xs.length ≤ LN →
    lcD (Tg.den c (.name i)) (Exs.tsts c .nil) e ρ (xs.map g) acc h = .ok (acc ++ (List.range' h.length xs.length).map .ref) (h ++ xs.map fun y => .lst ((f y).map .int))
  | [], acc, h, _ => by
    show R.ok acc h = .ok (acc ++ []) (h ++ [])
    rw [List.append_nil, List.append_nil]
  | x :: xs, acc, h, hz => by
    rw [List.map_cons]
    unfold lcD
    rw [tg_name, if_pos hl]
    dsimp only
    rw [tsts_nil]
    dsimp only
    rw [he]
    dsimp only
    rw [if_pos (by simp at hz; omega), lcD_cells g f hl he xs _ _ (by simp at hz ⊢; omega)]
    congr 1
    · rw [List.length_cons, List.range'_succ, List.map_cons, List.append_assoc, List.length_append]; rfl
    · rw [List.map_cons, List.append_assoc]; rfl
theorem lc_cells {c : Cfg} {α : Type} {x : Str} {i : Nat} {it : Itx} {elt : Ex} {ρ : Env} {h : Hs} (g : α → D) (f : α → List Int) (xs : List α) (hl : i < ρ.length) (hz : xs.length ≤ LN) (hit : it.den c ρ h = .ok (xs.map g) h)
    (he : ∀ y hh, (elt.dt c).1 (ρ.set i (some (g y))) hh = .ok (.ref hh.length) (hh ++ [.lst ((f y).map .int)])) : ∃ q ks h', (Ex.dt c (.lc false [(x, i)] (.name i) it .nil elt)).1 ρ h = .ok (.ref q) h' ∧ MH h' q ks (xs.map f) := by
  refine ⟨h.length + xs.length, List.range' h.length xs.length, (h ++ xs.map fun y => .lst ((f y).map .int)) ++ [.lst ((List.range' h.length xs.length).map .ref)], ?_, ?_⟩
  · rw [den_lc, hit, bd_ok]
    show (lcD (Tg.den c (.name i)) (Exs.tsts c .nil) (elt.dt c).1 (ρ.set i none) (xs.map g) [] h).bd _ _ = _
    rw [lcD_cells g f (by rw [List.length_set]; exact hl) (fun y hh => by rw [List.set_set]; exact he y hh) xs [] h (by simpa using hz), bd_ok]
    show newL false ([] ++ (List.range' h.length xs.length).map .ref) _ = _
    rw [List.nil_append, new_cell (by rw [List.length_map, List.length_range']; exact hz), List.length_append, List.length_map]
  · refine ⟨?_, fun k hk => ?_, List.nodup_range', ?_, fun j hj => ?_⟩
    · have := cell_at (h ++ xs.map fun y => Cell.lst ((f y).map .int)) (.lst ((List.range' h.length xs.length).map .ref))
      rwa [List.length_append, List.length_map] at this
    · have := List.mem_range'_1.mp hk
      omega
    · rw [List.length_range', List.length_map]
    · rw [List.length_map] at hj
      have e : (List.range' h.length xs.length).getD j 0 = h.length + j := by
        rw [List.getD_eq_getElem?_getD, List.getElem?_range' hj]; simp
      rw [e, List.getElem?_append_left (by rw [List.length_append, List.length_map]; omega), List.getElem?_append_right (by omega), Nat.add_sub_cancel_left, List.getElem?_map, List.getElem?_eq_getElem hj, List.getD_eq_getElem?_getD, List.getElem?_map, List.getElem?_eq_getElem hj]; rfl
end Ev
set_option maxHeartbeats 1000000
/-! Ev, part Tz: words with wrong signs. -/
namespace Ev
open PySem PySem.Spec PyProof.Rows L2
/-- the places at which two words agree, and those at which they differ -/
def agr (a b : List Int) : List Nat := (List.range a.length).filter fun i => decide (a.getD i 0 = b.getD i 0)
def dif (a b : List Int) : List Nat := (List.range a.length).filter fun i => !decide (a.getD i 0 = b.getD i 0)
theorem filt2 {α : Type} (A : α → Bool) : ∀ xs : List α, (xs.filter A).length + (xs.filter fun i => !A i).length = xs.length
  | [] => rfl
  | x :: xs => by
    have := filt2 A xs
    cases h : A x <;> simp [List.filter_cons, h] <;> omega
theorem filt3 {α : Type} (A B : α → Bool) : ∀ xs : List α, xs.length ≤ (xs.filter fun i => A i && B i).length + (xs.filter fun i => !A i).length + (xs.filter fun i => !B i).length
  | [] => Nat.le_refl _
  | x :: xs => by
    have := filt3 A B xs
    cases h : A x <;> cases h' : B x <;> simp [List.filter_cons, h, h'] <;> omega
theorem agr_dif (a b : List Int) : (agr a b).length + (dif a b).length = a.length := by
  have := filt2 (fun i => decide (a.getD i 0 = b.getD i 0)) (List.range a.length)
  rwa [List.length_range] at this
def near (w a : List Int) : Bool := decide ((dif a w).length < 2)
def findN (w : List Int) (ws : List (List Int)) : Option (List Int) := ws.findSome? fun a => if near w a = true then some a else none
theorem findN_head (w : List Int) : ∀ ws : List (List Int), findN w ws = (ws.filter (near w)).head?
  | [] => rfl
  | a :: ws => by
    unfold findN
    rw [List.findSome?_cons, List.filter_cons]
    by_cases q : near w a = true
    · rw [if_pos q, if_pos q]; rfl
    · rw [if_neg q, if_neg q]; exact findN_head w ws
section
variable {n M : Nat} {rs cl : List Int} {sg : Nat → List Int} (F : Fmy n M rs cl sg) {w : List Int}
include F
theorem near_uniq {a b : Nat} (ha : a < n * n) (hb : b < n * n) (fa : near w (word (fms n M rs cl sg) (a / n) (a % n)) = true) (fb : near w (word (fms n M rs cl sg) (b / n) (b % n)) = true) : a = b := by
  have bb := F.c.lt
  have n0 : 0 < n := by omega
  have dv : ∀ k, k < n * n → k / n < n ∧ k % n < n := fun k hk => ⟨Nat.div_lt_of_lt_mul hk, Nat.mod_lt _ n0⟩
  have la : ∀ a, (word (fms n M rs cl sg) (a / n) (a % n)).length = M + 2 := fun a => by rw [word_len, fms_len]
  have fa := of_decide_eq_true fa
  have fb := of_decide_eq_true fb
  unfold dif at fa fb
  rw [la] at fa fb
  have c := filt3 (fun i => decide ((word (fms n M rs cl sg) (a / n) (a % n)).getD i 0 = w.getD i 0)) (fun i => decide ((word (fms n M rs cl sg) (b / n) (b % n)).getD i 0 = w.getD i 0)) (List.range (M + 2))
  rw [List.length_range] at c
  obtain ⟨S, hS⟩ : ∃ S, S = (List.range (M + 2)).filter fun i => decide ((word (fms n M rs cl sg) (a / n) (a % n)).getD i 0 = w.getD i 0) && decide ((word (fms n M rs cl sg) (b / n) (b % n)).getD i 0 = w.getD i 0) := ⟨_, rfl⟩
  rw [← hS] at c
  have two : 2 ≤ S.length := by omega
  have nd : S.Nodup := by rw [hS]; exact List.nodup_range.filter _
  obtain ⟨x, y, hx, hy, ne⟩ : ∃ x y, x ∈ S ∧ y ∈ S ∧ x ≠ y := by
    match e : S, two with
    | x :: y :: r, _ => exact ⟨x, y, by simp, by simp, fun z => by subst z; simp at nd⟩
  rw [hS] at hx hy
  obtain ⟨lx, hx⟩ := List.mem_filter.mp hx
  obtain ⟨ly, hy⟩ := List.mem_filter.mp hy
  have lx := List.mem_range.mp lx
  have ly := List.mem_range.mp ly
  rw [Bool.and_eq_true, decide_eq_true_eq, decide_eq_true_eq] at hx hy
  obtain ⟨e1, e2⟩ := hx
  obtain ⟨e3, e4⟩ := hy
  rw [word_get x (by rw [fms_len]; exact lx)] at e1 e2
  rw [word_get y (by rw [fms_len]; exact ly)] at e3 e4
  obtain ⟨q1, q2⟩ := F.inj lx ly ne _ _ _ _ (dv a ha).1 (dv a ha).2 (dv b hb).1 (dv b hb).2 (by rw [e1, e2]) (by rw [e3, e4])
  rw [← Nat.div_add_mod a n, ← Nat.div_add_mod b n, q1, q2]
theorem near_le : ((words (fms n M rs cl sg) n).filter (near w)).length ≤ 1 := by
  have n0 : 0 < n := by have := F.c.lt; omega
  rw [words_rng n0, List.filter_map, List.length_map]
  have nd : ((List.range (n * n)).filter (near w ∘ fun k => word (fms n M rs cl sg) (k / n) (k % n))).Nodup := List.nodup_range.filter _
  match e : (List.range (n * n)).filter (near w ∘ fun k => word (fms n M rs cl sg) (k / n) (k % n)) with
  | [] => exact Nat.zero_le _
  | [x] => exact Nat.le_refl _
  | x :: y :: r =>
    rw [e] at nd
    have hx : x ∈ (List.range (n * n)).filter (near w ∘ fun k => word (fms n M rs cl sg) (k / n) (k % n)) := by rw [e]; simp
    have hy : y ∈ (List.range (n * n)).filter (near w ∘ fun k => word (fms n M rs cl sg) (k / n) (k % n)) := by rw [e]; simp
    obtain ⟨x1, x2⟩ := List.mem_filter.mp hx
    obtain ⟨y1, y2⟩ := List.mem_filter.mp hy
    have := near_uniq F (List.mem_range.mp x1) (List.mem_range.mp y1) x2 y2
    subst this
    simp at nd
end
theorem len_row {u : Bool} {w : List Int} {fz : Bool} {h : Hs} : primD .len fz [rowU u w] h = .ok (.int (w.length : Nat)) h := by
  cases u
  · show primD .len fz [.lst _] h = _; rw [pr_lenL, List.length_map]
  · show primD .len fz [.tup _] h = _; rw [pr_lenT, List.length_map]
theorem it_words {c : Cfg} {i j : Nat} {ρ : Env} {h : Hs} {u v : Bool} {a b : List Int} (hi : ρ[i]? = some (some (rowU v a))) (hj : ρ[j]? = some (some (rowU u b))) (e : a.length = b.length) :
    Itx.den c (.enumZ (.var i) (.var j)) ρ h = .ok ((List.range a.length).map fun i : Nat => D.tup [.int (i : Nat), .tup [.int (a.getD i 0), .int (b.getD i 0)]]) h := by
  rw [it_enumZ, den_var, hi]
  dsimp only
  rw [bd_ok, den_var, hj]
  dsimp only
  rw [bd_ok]
  have e1 : (if (a.map D.int).length = (b.map D.int).length then (R.ok ((List.range (a.map D.int).length).map fun j => D.tup [.int (j : Nat), .tup [(a.map D.int).getD j .non, (b.map D.int).getD j .non]]) h) else .stuck) = .ok ((List.range a.length).map fun i : Nat => D.tup [.int (i : Nat), .tup [.int (a.getD i 0), .int (b.getD i 0)]]) h := by
    rw [if_pos (by rw [List.length_map, List.length_map, e]), List.length_map]
    congr 1
    apply List.map_congr_left
    intro i hi
    have hi := List.mem_range.mp hi
    rw [getD_map hi 0, getD_map (by omega) 0]
  cases u <;> cases v <;> exact e1
theorem lc_agr {c : Cfg} {h : Hs} {u v : Bool} {a b : List Int} {x2 x3 x4 : Option D} (e : a.length = b.length) (hl : a.length ≤ LN) :
    (Ex.dt c (.lc true [(("place" : Str), 2), (("first" : Str), 3), (("second" : Str), 4)] (.tup (.cons (.name 2) (.cons (.tup (.cons (.name 3) (.cons (.name 4) .nil))) .nil))) (.enumZ (.var 0) (.var 1)) (.cons (.cmp .eq (.var 3) (.var 4)) .nil) (.var 2))).1 [some (rowU v a), some (rowU u b), x2, x3, x4] h = .ok (.lst ((agr a b).map fun i => .int (i : Nat))) h := by
  unfold agr
  exact lcG (fun i : Nat => D.tup [.int (i : Nat), .tup [.int (a.getD i 0), .int (b.getD i 0)]]) (fun i => [some (rowU v a), some (rowU u b), some (.int (i : Nat)), some (.int (a.getD i 0)), some (.int (b.getD i 0))]) (fun i => decide (a.getD i 0 = b.getD i 0)) (fun i => D.int (i : Nat)) (List.range a.length)
    (it_words rfl rfl e) (fun i _ => by simp [wipeE]) (fun i hi => by simp) (fun i _ _ => rfl) (by rw [List.length_range]; omega)
theorem lc_dif {c : Cfg} {h : Hs} {u v : Bool} {a w : List Int} {fd : Option D} {x3 x4 x5 : Option D} (e : a.length = w.length) (hl : a.length ≤ LN) :
    (Ex.dt c (.lc true [(("place" : Str), 4), (("sign" : Str), 5)] (.tup (.cons (.name 4) (.cons (.name 5) .nil))) (.enum (.var 2)) (.cons (.cmp .ne (.var 5) (.idx (.var 1) (.var 4))) .nil) (.var 4))).1 [fd, some (rowU u w), some (rowU v a), x3, x4, x5] h = .ok (.lst ((dif a w).map fun i => .int (i : Nat))) h := by
  unfold dif
  refine lcG (fun i : Nat => D.tup [.int (i : Nat), .int (a.getD i 0)]) (fun i => [fd, some (rowU u w), some (rowU v a), x3, some (.int (i : Nat)), some (.int (a.getD i 0))]) (fun i => !decide (a.getD i 0 = w.getD i 0)) (fun i => D.int (i : Nat)) (List.range a.length)
    ?_ (fun i _ => by simp [wipeE]) (fun i hi => ?_) (fun i _ _ => rfl) (by rw [List.length_range]; omega)
  · have q := enum0 (xs := a.map D.int)
    rw [List.length_map] at q
    have q2 : (List.range a.length).map (fun j => D.tup [.int (j : Nat), (a.map D.int).getD j .non]) = (List.range a.length).map fun i : Nat => D.tup [.int (i : Nat), .int (a.getD i 0)] := by
      apply List.map_congr_left
      intro i hi
      rw [getD_map (List.mem_range.mp hi) 0]
    rw [← q2, ← q, it_enum]
    cases v
    · show R.ok (List.zipWith _ (List.range (a.map D.int).length) (a.map D.int)) h = _
      rw [List.length_map]
    · show R.ok (List.zipWith _ (List.range (a.map D.int).length) (a.map D.int)) h = _
      rw [List.length_map]
  · have x : ∀ h, idxD (rowU u w) (.int (i : Nat)) h = .ok (.int (w.getD i 0)) h := fun h => idx_row (by have := List.mem_range.mp hi; omega)
    generalize rowU u w = wd at *
    generalize a.getD i 0 = p at *
    generalize w.getD i 0 = q at *
    simp [x]
end Ev
set_option maxHeartbeats 1000000
/-! Ev, part Ta: rows that show a pair twice; words that agree twice; tables in cells turned. -/
namespace Ev
open PySem PySem.Spec PyProof.Rows L2
/-! ### a pair that stands twice, row by row -/
abbrev SpN := List ((Int × Int) × Nat)
def toKP (s : SpN) : List (DKey × D) := s.map fun p => (.inr [.inl p.1.1, .inl p.1.2], .int (p.2 : Nat))
theorem toKP_get (s : SpN) (a b : Int) : dget (toKP s) (.inr [.inl a, .inl b]) = (s.lookup (a, b)).map fun p => D.int (p : Nat) := by
  induction s with
  | nil => rfl
  | cons p s ih =>
    obtain ⟨⟨x, y⟩, q⟩ := p
    unfold toKP dget at ih ⊢
    rw [List.map_cons, List.find?_cons, List.lookup_cons]
    by_cases e : (a, b) = (x, y)
    · cases e
      simp
    · have e1 : ((a, b) == (x, y)) = false := by simpa using e
      have e2 : decide ((Sum.inr [Sum.inl x, Sum.inl y] : DKey) = Sum.inr [Sum.inl a, Sum.inl b]) = false := by
        rw [decide_eq_false_iff_not]
        intro z
        injection z with z
        injection z with z1 z2
        injection z2 with z2 _
        injection z1 with z1
        injection z2 with z2
        exact e (by rw [z1, z2])
      rw [e1]
      simp only [e2]
      exact ih
theorem toKP_put (s : SpN) (a b : Int) (r : Nat) (h : s.lookup (a, b) = none) : dput (toKP s) (.inr [.inl a, .inl b]) (.int (r : Nat)) = toKP (s ++ [((a, b), r)]) := by
  have hn : (toKP s).any (fun kv => decide (kv.1 = (.inr [.inl a, .inl b] : DKey))) = false := by
    have := toKP_get s a b
    rw [h] at this
    unfold dget at this
    rw [Option.map_none, Option.map_eq_none_iff, List.find?_eq_none] at this
    rw [List.any_eq_false]
    exact this
  unfold dput
  rw [hn]
  unfold toKP
  rw [List.map_append]; rfl
theorem in_kp (s : SpN) (a b : Int) {H : Hs} {n : Nat} (e : H[n]? = some (.dct true (toKP s))) : cmpD .isin (.tup [.int a, .int b]) (.ref n) H = .ok (.bl (s.lookup (a, b)).isSome) H := by
  have q : cmpD.inD (.tup [.int a, .int b]) (.ref n) H = .ok (.bl (dget (toKP s) (.inr [.inl a, .inl b])).isSome) H := by
    unfold cmpD.inD dctOf
    dsimp only
    rw [e]; rfl
  unfold cmpD
  dsimp only
  rw [q, toKP_get]
  cases s.lookup (a, b) <;> rfl
theorem get_kp (s : SpN) (a b : Int) {p : Nat} (l : s.lookup (a, b) = some p) {H : Hs} {n : Nat} (e : H[n]? = some (.dct true (toKP s))) : idxD (.ref n) (.tup [.int a, .int b]) H = .ok (.int (p : Nat)) H := by
  unfold idxD dctOf
  dsimp only
  rw [e]
  show (match dget (toKP s) (.inr [.inl a, .inl b]) with | some v => R.ok v H | none => .stuck) = _
  rw [toKP_get, l]; rfl
theorem set_kp (s : SpN) (a b : Int) {r : Nat} (l : s.lookup (a, b) = none) (q : s.length < LN) {H : Hs} {n : Nat} (e : H[n]? = some (.dct true (toKP s))) : setD (.ref n) (.tup [.int a, .int b]) (.int (r : Nat)) H = some (H.set n (.dct true (toKP (s ++ [((a, b), r)])))) := by
  unfold setD
  dsimp only
  rw [e]
  show (if _ ∧ _ then some (H.set n (.dct true (dput (toKP s) (.inr [.inl a, .inl b]) (.int (r : Nat))))) else none) = _
  rw [if_pos ⟨rfl, by unfold toKP; rw [List.length_map]; exact q⟩, toKP_put s a b r l]
def scnP (p : Nat → Int × Int) : List Nat → SpN → Sum (Nat × Nat) SpN
  | [], s => .inr s
  | j :: js, s => match s.lookup (p j) with
    | some a => .inl (a, j)
    | none => scnP p js (s ++ [(p j, j)])
def isR {α β : Type} : Sum α β → Bool
  | .inl _ => false
  | .inr _ => true
theorem look_app {s : SpN} {k a : Int × Int} {j : Nat} : (s ++ [(a, j)]).lookup k = none ↔ s.lookup k = none ∧ a ≠ k := by
  induction s with
  | nil =>
    rw [List.nil_append, List.lookup_cons]
    by_cases e : k = a
    · subst e; simp
    · have : (k == a) = false := by simpa using e
      rw [this]
      simp only [List.lookup_nil, true_and]
      exact ⟨fun _ z => e z.symm, fun _ => trivial⟩
  | cons p s ih =>
    obtain ⟨x, y⟩ := p
    rw [List.cons_append, List.lookup_cons, List.lookup_cons]
    cases k == x with
    | true => simp
    | false => exact ih
theorem scan_no (p : Nat → Int × Int) : ∀ (js : List Nat) (s : SpN), isR (scnP p js s) = true ↔ (∀ j ∈ js, s.lookup (p j) = none) ∧ js.Pairwise (fun a b => p a ≠ p b)
  | [], s => by simp [scnP, isR]
  | j :: js, s => by
    unfold scnP
    cases e : s.lookup (p j) with
    | some a =>
      constructor
      · intro z; cases z
      · intro ⟨z, _⟩
        have := z j List.mem_cons_self
        rw [e] at this; cases this
    | none =>
      dsimp only
      rw [scan_no p js, List.pairwise_cons]
      constructor
      · intro ⟨z, w⟩
        refine ⟨fun i hi => ?_, fun i hi => (look_app.mp (z i hi)).2, w⟩
        rcases List.mem_cons.mp hi with rfl | hi
        · exact e
        · exact (look_app.mp (z i hi)).1
      · intro ⟨z, w, v⟩
        exact ⟨fun i hi => look_app.mpr ⟨z i (List.mem_cons_of_mem _ hi), w i hi⟩, v⟩
theorem range_pw {P : Nat → Nat → Prop} {N : Nat} : (List.range N).Pairwise P ↔ ∀ a b, a < b → b < N → P a b := by
  rw [List.pairwise_iff_getElem]
  constructor
  · intro h a b hab hb
    have := h a b (by rw [List.length_range]; omega) (by rw [List.length_range]; exact hb) hab
    rwa [List.getElem_range, List.getElem_range] at this
  · intro h i j hi hj hij
    rw [List.getElem_range, List.getElem_range]
    rw [List.length_range] at hj
    exact h i j hij hj
/-- the pair of two columns in a row -/
def pairW (W : List (List Int)) (x y : Nat) (j : Nat) : Int × Int := ((W.getD j []).getD x 0, (W.getD j []).getD y 0)
def pfS (W : List (List Int)) (x y : Nat) : Option (List Int) := match scnP (pairW W x y) (List.range W.length) [] with
  | .inl (a, b) => some [(x : Int), (y : Int), (a : Int), (b : Int)]
  | .inr _ => none
def afS (W : List (List Int)) (l : Nat) : Option (List Int) := (List.range l).findSome? fun x => (later l x).findSome? (pfS W x)
theorem pfS_no {W : List (List Int)} {x y : Nat} : pfS W x y = none ↔ ∀ a b, a < b → b < W.length → pairW W x y a ≠ pairW W x y b := by
  have s := scan_no (pairW W x y) (List.range W.length) []
  rw [← range_pw]
  unfold pfS
  constructor
  · intro e
    cases q : scnP (pairW W x y) (List.range W.length) [] with
    | inl z => rw [q] at e; cases e
    | inr z => rw [q] at s; exact (s.mp rfl).2
  · intro e
    have := s.mpr ⟨fun _ _ => rfl, e⟩
    cases q : scnP (pairW W x y) (List.range W.length) [] with
    | inl z => rw [q] at this; cases this
    | inr z => rfl
theorem later_mem {l x y : Nat} : y ∈ later l x ↔ x < y ∧ y < l := by
  unfold later
  rw [List.mem_map]
  constructor
  · rintro ⟨k, hk, rfl⟩
    have := List.mem_range.mp hk
    omega
  · intro h
    exact ⟨y - (x + 1), List.mem_range.mpr (by omega), by omega⟩
theorem afS_no {W : List (List Int)} {l : Nat} : afS W l = none ↔ ∀ x y, x < y → y < l → ∀ a b, a < b → b < W.length → pairW W x y a ≠ pairW W x y b := by
  unfold afS
  rw [List.findSome?_eq_none_iff]
  constructor
  · intro h x y hxy hy
    have := List.findSome?_eq_none_iff.mp (h x (List.mem_range.mpr (by omega))) y (later_mem.mpr ⟨hxy, hy⟩)
    exact pfS_no.mp this
  · intro h x hx
    rw [List.findSome?_eq_none_iff]
    intro y hy
    obtain ⟨h1, h2⟩ := later_mem.mp hy
    exact pfS_no.mpr (h x y h1 h2)
/-! ### words that agree twice -/
def twc (W : List (List Int)) (j i : Nat) : Option (List Int) := if 1 < (agr (W.getD i []) (W.getD j [])).length then some [(i : Int), (j : Int)] else none
def cfS (W : List (List Int)) : Option (List Int) := (List.range W.length).findSome? fun j => (List.range j).findSome? (twc W j)
theorem two_agr {a b : List Int} : 1 < (agr a b).length ↔ ∃ x y, x < y ∧ y < a.length ∧ a.getD x 0 = b.getD x 0 ∧ a.getD y 0 = b.getD y 0 := by
  have pw : (agr a b).Pairwise (· < ·) := List.Pairwise.filter _ List.pairwise_lt_range
  have mm : ∀ i, i ∈ agr a b ↔ i < a.length ∧ a.getD i 0 = b.getD i 0 := fun i => by
    unfold agr
    rw [List.mem_filter, List.mem_range, decide_eq_true_eq]
  constructor
  · intro h
    match e : agr a b, h with
    | x :: y :: r, _ =>
      rw [e] at pw mm
      rw [List.pairwise_cons] at pw
      have hx := (mm x).mp (by simp)
      have hy := (mm y).mp (by simp)
      exact ⟨x, y, pw.1 y (by simp), hy.1, hx.2, hy.2⟩
  · rintro ⟨x, y, h1, h2, h3, h4⟩
    have := nodup_len [x, y] (agr a b) (by simp; omega) (fun z hz => by
      simp at hz
      rcases hz with rfl | rfl
      · exact (mm z).mpr ⟨by omega, h3⟩
      · exact (mm z).mpr ⟨h2, h4⟩)
    rw [List.length_cons, List.length_cons, List.length_nil] at this
    omega
theorem twc_no {W : List (List Int)} {j i : Nat} : twc W j i = none ↔ ¬ 1 < (agr (W.getD i []) (W.getD j [])).length := by
  unfold twc
  split
  · rename_i h; exact ⟨(fun z => by cases z), fun z => absurd h z⟩
  · rename_i h; exact ⟨fun _ => h, fun _ => rfl⟩
theorem cfS_no {W : List (List Int)} : cfS W = none ↔ ∀ a b, a < b → b < W.length → ¬ 1 < (agr (W.getD a []) (W.getD b [])).length := by
  unfold cfS
  rw [List.findSome?_eq_none_iff]
  constructor
  · intro h a b hab hb
    have := List.findSome?_eq_none_iff.mp (h b (List.mem_range.mpr hb)) a (List.mem_range.mpr hab)
    exact twc_no.mp this
  · intro h b hb
    rw [List.findSome?_eq_none_iff]
    intro a ha
    exact twc_no.mpr (h a b (List.mem_range.mp ha) (List.mem_range.mp hb))
theorem code_array {W : List (List Int)} {l : Nat} (hl : ∀ w ∈ W, w.length = l) : (afS W l).isNone = (cfS W).isNone := by
  rw [Bool.eq_iff_iff, Option.isNone_iff_eq_none, Option.isNone_iff_eq_none, afS_no, cfS_no]
  have la : ∀ a, a < W.length → (W.getD a []).length = l := fun a ha => hl _ (by
    rw [List.getD_eq_getElem?_getD, List.getElem?_eq_getElem ha]; exact List.getElem_mem _)
  constructor
  · intro h a b hab hb z
    obtain ⟨x, y, h1, h2, h3, h4⟩ := two_agr.mp z
    rw [la a (by omega)] at h2
    exact h x y h1 h2 a b hab hb (by unfold pairW; rw [h3, h4])
  · intro h x y hxy hy a b hab hb z
    unfold pairW at z
    rw [Prod.mk.injEq] at z
    exact h a b hab hb (two_agr.mpr ⟨x, y, hxy, by rw [la a (by omega)]; exact hy, z.1, z.2⟩)
/-! ### a table in cells, turned -/
theorem getD_rot {α : Type} (l : List α) (d : α) {t i : Nat} (ht : t ≤ l.length) (hi : i < l.length) : (l.drop t ++ l.take t).getD i d = l.getD (if i < l.length - t then t + i else i - (l.length - t)) d := by
  rw [List.getD_eq_getElem?_getD, List.getD_eq_getElem?_getD]
  split
  · rename_i h
    rw [List.getElem?_append_left (by rw [List.length_drop]; exact h), List.getElem?_drop]
  · rename_i h
    rw [List.getElem?_append_right (by rw [List.length_drop]; omega), List.length_drop, List.getElem?_take, if_pos (by omega)]
theorem MH.rot {h : Hs} {q : Nat} {ks : List Nat} {m : List (List Int)} (Z : MH h q ks m) {t : Nat} (ht : t ≤ m.length) : MH (h ++ [.lst ((ks.drop t ++ ks.take t).map .ref)]) h.length (ks.drop t ++ ks.take t) (m.drop t ++ m.take t) where
  out := cell_at _ _
  nq := fun k hk => by
    have hk : k ∈ ks := by
      rcases List.mem_append.mp hk with hk | hk
      · exact List.mem_of_mem_drop hk
      · exact List.mem_of_mem_take hk
    obtain ⟨i, hi, e⟩ := List.mem_iff_getElem.mp hk
    have := Z.lt (i := i) (by rw [← Z.len]; exact hi)
    rw [List.getD_eq_getElem?_getD, List.getElem?_eq_getElem hi] at this
    have e' : k < h.length := by rw [← e]; exact this
    omega
  nd := by
    have p : (ks.drop t ++ ks.take t).Perm ks := List.perm_append_comm.trans (by rw [List.take_append_drop])
    exact p.nodup_iff.mpr Z.nd
  len := by simp [Z.len]
  row := fun i hi => by
    have hi : i < m.length := by simp at hi; omega
    have e := Z.len
    rw [getD_rot ks 0 (by omega) (by omega), getD_rot m [] ht hi, e]
    have b : (if i < m.length - t then t + i else i - (m.length - t)) < m.length := by split <;> omega
    rw [List.getElem?_append_left (Z.lt b)]
    exact Z.row _ b
/-! ### tests over lists -/
theorem bools_yes : ∀ xs : List D, (∀ x ∈ xs, x = .bl true) → D.bools xs = some (xs.map fun _ => true)
  | [], _ => rfl
  | x :: xs, h => by
    rw [h x List.mem_cons_self]
    show (D.bools xs).map (true :: ·) = _
    rw [bools_yes xs fun y hy => h y (List.mem_cons_of_mem _ hy)]; rfl
theorem bools_no : ∀ xs : List D, (∀ x ∈ xs, x = .bl false) → D.bools xs = some (xs.map fun _ => false)
  | [], _ => rfl
  | x :: xs, h => by
    rw [h x List.mem_cons_self]
    show (D.bools xs).map (false :: ·) = _
    rw [bools_no xs fun y hy => h y (List.mem_cons_of_mem _ hy)]; rfl
theorem all_yes {fz : Bool} {xs : List D} {h : Hs} (q : ∀ x ∈ xs, x = .bl true) : primD .all fz [.lst xs] h = .ok (.bl true) h := by
  show (match D.bools xs with | some bs => R.ok (D.bl (bs.all id)) h | none => .stuck) = _
  rw [bools_yes xs q]
  dsimp only
  congr 2
  simp
theorem any_no {fz : Bool} {xs : List D} {h : Hs} (q : ∀ x ∈ xs, x = .bl false) : primD .any fz [.lst xs] h = .ok (.bl false) h := by
  show (match D.bools xs with | some bs => R.ok (D.bl (bs.any id)) h | none => .stuck) = _
  rw [bools_no xs q]
  dsimp only
  congr 2
  simp
theorem cut_from {α : Type} {xs : List α} {k : Nat} (h : k ≤ xs.length) : cutD xs (some (k : Int)) none = xs.drop k := by
  unfold cutD
  have q : HT.sIx xs.length 0 (some ((k : Nat) : Int)) = k := by rw [HT.sIx_nat]; omega
  have q2 : HT.sIx xs.length xs.length none = xs.length := rfl
  rw [q, q2, List.take_of_length_le (by rw [List.length_drop]; exact Nat.le_refl _)]
/-- arrays: rows of one length, with signs -/
structure WW (n l : Nat) (W : List (List Int)) : Prop where
  n1 : 1 ≤ n
  n12 : n ≤ 12
  len : W.length = n * n
  row : ∀ w ∈ W, w.length = l
  l2 : 2 ≤ l
  l90 : l ≤ 90
  inn : ∀ w ∈ W, ∀ x ∈ w, 0 ≤ x ∧ x < (n : Int)
theorem WW.nn {n l : Nat} {W : List (List Int)} (Z : WW n l W) : W.length ≤ 144 ∧ 0 < W.length := by
  have : n * n ≤ 12 * 12 := Nat.mul_le_mul Z.n12 Z.n12
  have := Nat.mul_le_mul Z.n1 Z.n1
  rw [Z.len]; omega
theorem WW.at {n l : Nat} {W : List (List Int)} (Z : WW n l W) {j : Nat} (h : j < W.length) : W.getD j [] ∈ W ∧ (W.getD j []).length = l := by
  have : W.getD j [] ∈ W := by rw [List.getD_eq_getElem?_getD, List.getElem?_eq_getElem h]; exact List.getElem_mem _
  exact ⟨this, Z.row _ this⟩
/-! ### cells made by a comprehension -/
theorem lcD_cellsMm {c : Cfg} {α : Type} {i : Nat} {e : Env → Hs → R D} {ρ : Env} (g : α → D) (f : α → List Int) (hl : i < ρ.length) : ∀ (xs : List α) (acc : List D) (h : Hs), (∀ y ∈ xs, ∀ hh, e (ρ.set i (some (g y))) hh = .ok (.ref hh.length) (hh ++ [.lst ((f y).map .int)])) → acc.length + xs.length ≤ LN →
    lcD (Tg.den c (.name i)) (Exs.tsts c .nil) e ρ (xs.map g) acc h = .ok (acc ++ (List.range' h.length xs.length).map .ref) (h ++ xs.map fun y => .lst ((f y).map .int))
  | [], acc, h, _, _ => by
    show R.ok acc h = .ok (acc ++ []) (h ++ [])
    rw [List.append_nil, List.append_nil]
  | x :: xs, acc, h, he, hz => by
    rw [List.map_cons]
    unfold lcD
    rw [tg_name, if_pos hl]
    dsimp only
    rw [tsts_nil]
    dsimp only
    rw [he x List.mem_cons_self]
    dsimp only
    rw [if_pos (by simp at hz; omega), lcD_cellsMm g f hl xs _ _ (fun y hy => he y (List.mem_cons_of_mem _ hy)) (by simp at hz ⊢; omega)]
    congr 1
    · rw [List.length_cons, List.range'_succ, List.map_cons, List.append_assoc, List.length_append]; rfl
    · rw [List.map_cons, List.append_assoc]; rfl
theorem lc_cellsMm {c : Cfg} {α : Type} {x : Str} {i : Nat} {it : Itx} {elt : Ex} {ρ : Env} {h : Hs} (g : α → D) (f : α → List Int) (xs : List α) (hl : i < ρ.length) (hz : xs.length ≤ LN) (hit : it.den c ρ h = .ok (xs.map g) h)
    (he : ∀ y ∈ xs, ∀ hh, (elt.dt c).1 (ρ.set i (some (g y))) hh = .ok (.ref hh.length) (hh ++ [.lst ((f y).map .int)])) : ∃ q ks h', (Ex.dt c (.lc false [(x, i)] (.name i) it .nil elt)).1 ρ h = .ok (.ref q) h' ∧ MH h' q ks (xs.map f) := by
  refine ⟨h.length + xs.length, List.range' h.length xs.length, (h ++ xs.map fun y => .lst ((f y).map .int)) ++ [.lst ((List.range' h.length xs.length).map .ref)], ?_, ?_⟩
  · rw [den_lc, hit, bd_ok]
    show (lcD (Tg.den c (.name i)) (Exs.tsts c .nil) (elt.dt c).1 (ρ.set i none) (xs.map g) [] h).bd _ _ = _
    rw [lcD_cellsMm g f (by rw [List.length_set]; exact hl) xs [] h (fun y hy hh => by rw [List.set_set]; exact he y hy hh) (by simpa using hz), bd_ok]
    show newL false ([] ++ (List.range' h.length xs.length).map .ref) _ = _
    rw [List.nil_append, new_cell (by rw [List.length_map, List.length_range']; exact hz), List.length_append, List.length_map]
  · refine ⟨?_, fun k hk => ?_, List.nodup_range', ?_, fun j hj => ?_⟩
    · have := cell_at (h ++ xs.map fun y => Cell.lst ((f y).map .int)) (.lst ((List.range' h.length xs.length).map .ref))
      rwa [List.length_append, List.length_map] at this
    · have := List.mem_range'_1.mp hk
      omega
    · rw [List.length_range', List.length_map]
    · rw [List.length_map] at hj
      have e : (List.range' h.length xs.length).getD j 0 = h.length + j := by
        rw [List.getD_eq_getElem?_getD, List.getElem?_range' hj]; simp
      rw [e, List.getElem?_append_left (by rw [List.length_append, List.length_map]; omega), List.getElem?_append_right (by omega), Nat.add_sub_cancel_left, List.getElem?_map, List.getElem?_eq_getElem hj, List.getD_eq_getElem?_getD, List.getElem?_map, List.getElem?_eq_getElem hj]; rfl
/-! ### tests told -/
section
variable {c : Cfg} {ρ : Env} {h h1 : Hs} {a b : Ex} {k : Bool}
theorem or_F (ha : (Ex.dt c a).2 ρ h = .ok false h1) : (Ex.dt c (.or a b)).2 ρ h = (Ex.dt c b).2 ρ h1 := by
  rw [tst_or, ha, bd_ok]; rfl
theorem or_T (ha : (Ex.dt c a).2 ρ h = .ok true h1) : (Ex.dt c (.or a b)).2 ρ h = .ok true h1 := by
  rw [tst_or, ha, bd_ok]; rfl
theorem not_B (ha : (Ex.dt c a).2 ρ h = .ok k h1) : (Ex.dt c (.not a)).2 ρ h = .ok (!k) h1 := by
  rw [tst_not, ha, bd_ok]
theorem tru_F {f : Env → Hs → R D} (e : f ρ h = .ok (.bl k) h1) : truF f ρ h = .ok k h1 := by
  rw [truF_eq, e, bd_ok, tru_bl]
theorem t_cmp {o : COp} (e : (Ex.dt c (.cmp o a b)).1 ρ h = .ok (.bl k) h1) : (Ex.dt c (.cmp o a b)).2 ρ h = .ok k h1 := tru_F e
theorem t_chain {o o' : COp} {d : Ex} (e : (Ex.dt c (.chain o o' a b d)).1 ρ h = .ok (.bl k) h1) : (Ex.dt c (.chain o o' a b d)).2 ρ h = .ok k h1 := tru_F e
theorem t_prim {p : Prim} {fz : Bool} {es : Exs} (e : (Ex.dt c (.prim p fz es)).1 ρ h = .ok (.bl k) h1) : (Ex.dt c (.prim p fz es)).2 ρ h = .ok k h1 := tru_F e
theorem ite_F {s t : Sms} (e : (Ex.dt c a).2 ρ h = .ok false h1) : Sm.den c (.ite a s t) ρ h = t.den c ρ h1 := by
  rw [sm_ite, e, gq_ok]; rfl
theorem ite_T {s t : Sms} (e : (Ex.dt c a).2 ρ h = .ok true h1) : Sm.den c (.ite a s t) ρ h = s.den c ρ h1 := by
  rw [sm_ite, e, gq_ok]; rfl
end
end Ev
set_option maxHeartbeats 0
namespace K84
open PySem PySem.Spec PyProof.Rows L2 Ev
def FUEL : Nat := 2000000
def DEEP : Nat := 60
/-! the defs in their small forms (printed by wip/gen.py) -/
def b0_4 : Sms := .cons (.ret (.freeze (.var 2))) .nil
def b0_3a_1a_1 : Sms := .cons (.set 3 (.bin .fdiv true (.var 3) (.cint 1009))) .nil
def b0_3a_1a_0 : Sms := .cons (.expr (.meth .append (.var 2) (.cons (.bin .mod true (.prim .intOf true (.cons (.var 3) .nil)) (.cint 1009)) .nil))) b0_3a_1a_1
def b0_3a_1b_0 : Sms := .cons (.expr (.meth .append (.var 2) (.cons (.bin .mod true (.prim .intOf true (.cons (.bin .fdiv true (.var 4) (.cint 7)) .nil)) (.cint 1009)) .nil))) .nil
def b0_3a_1 : Sms := .cons (.ite (.cmp .ge (.prim .abs true (.cons (.var 0) .nil)) (.bin .pow true (.cint 10) (.cint 18))) b0_3a_1a_0 b0_3a_1b_0) .nil
def b0_3a_0 : Sms := .cons (.set 4 (.bin .mod true (.prim .intOf true (.cons (.bin .add true (.bin .mul true (.var 4) (.cint 16807)) (.bin .mul true (.cint 271) (.bin .add true (.var 5) (.cint 3)))) .nil)) (.cint 2147483629))) b0_3a_1
def b0_3 : Sms := .cons (.for (.name 5) (.range (.cons (.var 1) .nil)) b0_3a_0) b0_4
def b0_2 : Sms := .cons (.set 4 (.bin .mod true (.prim .intOf true (.cons (.bin .add true (.bin .mul true (.var 3) (.cint 48271)) (.cint 69621)) .nil)) (.cint 2147483647))) b0_3
def b0_1 : Sms := .cons (.set 3 (.prim .abs true (.cons (.var 0) .nil))) b0_2
def b0_0 : Sms := .cons (.set 2 (.lst false .nil)) b0_1
def f0 : Fn := ⟨("_law_row" : Str), ["_law_cell", "_law_many"], ["_law_cell", "_law_many", "_law_row_here", "_law_rest", "_law_mixed", "_law_k"], b0_0, false⟩
def b1_5 : Sms := .cons (.ret (.slice true (.var 4) .nil (.cons (.var 1) .nil))) .nil
def b1_4a_0 : Sms := .cons (.expr (.meth .append (.var 4) (.cons (.cint 0) .nil))) .nil
def b1_4 : Sms := .cons (.while (.cmp .lt (.prim .len true (.cons (.var 4) .nil)) (.var 1)) b1_4a_0) b1_5
def b1_3a_0a_0 : Sms := .cons (.expr (.meth .append (.var 4) (.cons (.var 6) .nil))) .nil
def b1_3a_0 : Sms := .cons (.for (.name 6) (.seq (.call 0 (.cons (.var 5) (.cons (.var 3) .nil)))) b1_3a_0a_0) .nil
def b1_3 : Sms := .cons (.for (.name 5) (.seq (.var 2)) b1_3a_0) b1_4
def b1_2 : Sms := .cons (.set 4 (.lst false .nil)) b1_3
def b1_1 : Sms := .cons (.set 3 (.bin .add true (.cint 1) (.bin .fdiv true (.var 1) (.prim .max2 true (.cons (.cint 1) (.cons (.prim .len true (.cons (.var 2) .nil)) .nil)))))) b1_2
def b1_0 : Sms := .cons (.set 2 (.slice true (.var 0) .nil (.cons (.cint 63) .nil))) b1_1
def f1 : Fn := ⟨("_law_numbers" : Str), ["_law_script", "_law_many"], ["_law_script", "_law_many", "_law_cells", "_law_each", "_law_numbers_here", "_law_cell", "_law_number"], b1_0, false⟩
def b2_4 : Sms := .cons (.ret (.var 2)) .nil
def b2_3a_0 : Sms := .cons (.raise ("InvalidQuestion" : Str)) .nil
def b2_3 : Sms := .cons (.ite (.not (.prim .all true (.cons (.lc2 true [(("row" : Str), 3), (("sign" : Str), 4)] [4] (.name 3) (.seq (.var 2)) (.name 4) (.seq (.var 3)) .nil (.chain .le .lt (.cint 0) (.var 4) (.var 0))) .nil))) b2_3a_0 .nil) b2_4
def b2_2a_0 : Sms := .cons (.raise ("InvalidQuestion" : Str)) .nil
def b2_2 : Sms := .cons (.ite (.or (.cmp .lt (.prim .len true (.cons (.idx (.var 2) (.cint 0)) .nil)) (.cint 2)) (.prim .any true (.cons (.lc true [(("row" : Str), 3)] (.name 3) (.seq (.var 2)) .nil (.cmp .ne (.prim .len true (.cons (.var 3) .nil)) (.prim .len true (.cons (.idx (.var 2) (.cint 0)) .nil)))) .nil))) b2_2a_0 .nil) b2_3
def b2_1a_0 : Sms := .cons (.raise ("InvalidQuestion" : Str)) .nil
def b2_1 : Sms := .cons (.ite (.or (.not (.chain .le .le (.cint 1) (.var 0) (.glob ("MOST_ORDER" : Str)))) (.cmp .ne (.prim .len true (.cons (.var 2) .nil)) (.bin .mul true (.var 0) (.var 0)))) b2_1a_0 .nil) b2_2
def b2_0 : Sms := .cons (.set 2 (.lc true [(("row" : Str), 3)] (.name 3) (.seq (.var 1)) .nil (.prim .tupleOf true (.cons (.var 3) .nil)))) b2_1
def f2 : Fn := ⟨("kept_array" : Str), ["order", "rows"], ["order", "rows", "found", "row", "sign"], b2_0, false⟩
def b3_2 : Sms := .cons (.ret .cnon) .nil
def b3_1a_0a_1a_2 : Sms := .cons (.asg (.idx (.var 5) (.var 8)) (.var 6)) .nil
def b3_1a_0a_1a_1a_0 : Sms := .cons (.ret (.tup (.cons (.var 3) (.cons (.var 4) (.cons (.idx (.var 5) (.var 8)) (.cons (.var 6) .nil)))))) .nil
def b3_1a_0a_1a_1 : Sms := .cons (.ite (.cmp .isin (.var 8) (.var 5)) b3_1a_0a_1a_1a_0 .nil) b3_1a_0a_1a_2
def b3_1a_0a_1a_0 : Sms := .cons (.set 8 (.tup (.cons (.idx (.var 7) (.var 3)) (.cons (.idx (.var 7) (.var 4)) .nil)))) b3_1a_0a_1a_1
def b3_1a_0a_1 : Sms := .cons (.for (.tup (.cons (.name 6) (.cons (.name 7) .nil))) (.enum (.var 2)) b3_1a_0a_1a_0) .nil
def b3_1a_0a_0 : Sms := .cons (.set 5 (.dnew true)) b3_1a_0a_1
def b3_1a_0 : Sms := .cons (.for (.name 4) (.range (.cons (.bin .add true (.var 3) (.cint 1)) (.cons (.prim .len true (.cons (.idx (.var 2) (.cint 0)) .nil)) .nil))) b3_1a_0a_0) .nil
def b3_1 : Sms := .cons (.for (.name 3) (.range (.cons (.prim .len true (.cons (.idx (.var 2) (.cint 0)) .nil)) .nil)) b3_1a_0) b3_2
def b3_0 : Sms := .cons (.set 2 (.call 2 (.cons (.var 0) (.cons (.var 1) .nil)))) b3_1
def f3 : Fn := ⟨("array_fault" : Str), ["order", "rows"], ["order", "rows", "found", "one", "other", "seen", "number", "row", "pair"], b3_0, false⟩
def b4_1 : Sms := .cons (.ret (.lc true [(("place" : Str), 2), (("first" : Str), 3), (("second" : Str), 4)] (.tup (.cons (.name 2) (.cons (.tup (.cons (.name 3) (.cons (.name 4) .nil))) .nil))) (.enumZ (.var 0) (.var 1)) (.cons (.cmp .eq (.var 3) (.var 4)) .nil) (.var 2))) .nil
def b4_0a_0 : Sms := .cons (.raise ("InvalidQuestion" : Str)) .nil
def b4_0 : Sms := .cons (.ite (.cmp .ne (.prim .len true (.cons (.var 0) .nil)) (.prim .len true (.cons (.var 1) .nil))) b4_0a_0 .nil) b4_1
def f4 : Fn := ⟨("agreements" : Str), ["one", "other"], ["one", "other", "place", "first", "second"], b4_0, false⟩
def b5_2 : Sms := .cons (.ret .cnon) .nil
def b5_1a_0a_0a_0 : Sms := .cons (.ret (.tup (.cons (.var 4) (.cons (.var 3) .nil)))) .nil
def b5_1a_0a_0 : Sms := .cons (.ite (.cmp .gt (.prim .len true (.cons (.call 4 (.cons (.idx (.var 2) (.var 4)) (.cons (.idx (.var 2) (.var 3)) .nil))) .nil)) (.cint 1)) b5_1a_0a_0a_0 .nil) .nil
def b5_1a_0 : Sms := .cons (.for (.name 4) (.range (.cons (.var 3) .nil)) b5_1a_0a_0) .nil
def b5_1 : Sms := .cons (.for (.name 3) (.range (.cons (.prim .len true (.cons (.var 2) .nil)) .nil)) b5_1a_0) b5_2
def b5_0 : Sms := .cons (.set 2 (.call 2 (.cons (.var 0) (.cons (.var 1) .nil)))) b5_1
def f5 : Fn := ⟨("code_fault" : Str), ["order", "words"], ["order", "words", "found", "other", "one"], b5_0, false⟩
def b6_0 : Sms := .cons (.ret (.bin .mod true (.prim .intOf true (.cons (.idx (.var 0) (.var 1)) .nil)) (.var 2))) .nil
def f6 : Fn := ⟨("_law_pick" : Str), ["_law_numbers_here", "_law_at", "_law_most"], ["_law_numbers_here", "_law_at", "_law_most"], b6_0, false⟩
def b7_3 : Sms := .cons (.ret (.var 3)) .nil
def b7_2a_3 : Sms := .cons (.set 4 (.bin .mul true (.var 4) (.var 0))) .nil
def b7_2a_2 : Sms := .cons (.set 2 (.prim .intOf true (.cons (.bin .fdiv true (.var 2) (.var 0)) .nil))) b7_2a_3
def b7_2a_1 : Sms := .cons (.set 1 (.prim .intOf true (.cons (.bin .fdiv true (.var 1) (.var 0)) .nil))) b7_2a_2
def b7_2a_0 : Sms := .cons (.set 3 (.bin .add true (.var 3) (.bin .mul true (.bin .mod true (.prim .intOf true (.cons (.bin .add true (.bin .mod true (.prim .intOf true (.cons (.var 1) .nil)) (.var 0)) (.bin .mod true (.prim .intOf true (.cons (.var 2) .nil)) (.var 0))) .nil)) (.var 0)) (.var 4)))) b7_2a_1
def b7_2 : Sms := .cons (.for (.name 5) (.range (.cons (.cint 4) .nil)) b7_2a_0) b7_3
def b7_1 : Sms := .cons (.set 4 (.cint 1)) b7_2
def b7_0 : Sms := .cons (.set 3 (.cint 0)) b7_1
def f7 : Fn := ⟨("_law_field_sum" : Str), ["_law_p", "_law_a", "_law_b"], ["_law_p", "_law_a", "_law_b", "_law_total", "_law_step", "_law_k"], b7_0, false⟩
def b8_2 : Sms := .cons (.ret (.ctup (.cons (.cint 1) (.cons (.cint 4) (.cons (.cint 6) (.cons (.cint 7) (.cons (.cint 2) (.cons (.cint 8) (.cons (.cint 3) (.cons (.cint 5) .nil)))))))))) .nil
def b8_1a_0 : Sms := .cons (.ret (.ctup (.cons (.cint 1) (.cons (.cint 2) (.cons (.cint 4) (.cons (.cint 3) (.cons (.cint 6) (.cons (.cint 7) (.cons (.cint 5) .nil))))))))) .nil
def b8_1 : Sms := .cons (.ite (.cmp .eq (.var 0) (.cint 8)) b8_1a_0 .nil) b8_2
def b8_0a_0 : Sms := .cons (.ret (.ctup (.cons (.cint 1) (.cons (.cint 2) (.cons (.cint 3) .nil))))) .nil
def b8_0 : Sms := .cons (.ite (.cmp .eq (.var 0) (.cint 4)) b8_0a_0 .nil) b8_1
def f8 : Fn := ⟨("_law_powers" : Str), ["_law_q"], ["_law_q"], b8_0, false⟩
def b9_2 : Sms := .cons (.ret (.idx (.var 3) (.bin .mod true (.bin .add true (.meth .tindex (.var 3) (.cons (.var 1) .nil)) (.meth .tindex (.var 3) (.cons (.var 2) .nil))) (.bin .sub true (.var 0) (.cint 1))))) .nil
def b9_1 : Sms := .cons (.set 3 (.call 8 (.cons (.var 0) .nil))) b9_2
def b9_0a_0 : Sms := .cons (.ret (.cint 0)) .nil
def b9_0 : Sms := .cons (.ite (.or (.cmp .eq (.var 1) (.cint 0)) (.cmp .eq (.var 2) (.cint 0))) b9_0a_0 .nil) b9_1
def f9 : Fn := ⟨("_law_field_product" : Str), ["_law_q", "_law_a", "_law_b"], ["_law_q", "_law_a", "_law_b", "_law_powers_here"], b9_0, false⟩
def b10_2 : Sms := .cons (.ret (.freeze (.var 3))) .nil
def b10_1a_1 : Sms := .cons (.asg (.tup (.cons (.idx (.var 3) (.var 4)) (.cons (.idx (.var 3) (.var 5)) .nil))) (.tup (.cons (.idx (.var 3) (.var 5)) (.cons (.idx (.var 3) (.var 4)) .nil)))) .nil
def b10_1a_0 : Sms := .cons (.set 5 (.bin .mod true (.prim .intOf true (.cons (.idx (.var 0) (.bin .add true (.var 1) (.var 4))) .nil)) (.bin .add true (.var 4) (.cint 1)))) b10_1a_1
def b10_1 : Sms := .cons (.for (.name 4) (.range (.cons (.bin .sub true (.var 2) (.cint 1)) (.cons (.cint 0) (.cons (.neg (.cint 1)) .nil)))) b10_1a_0) b10_2
def b10_0 : Sms := .cons (.set 3 (.lrange false (.var 2))) b10_1
def f10 : Fn := ⟨("_law_shuffled" : Str), ["_law_numbers_here", "_law_at", "_law_count"], ["_law_numbers_here", "_law_at", "_law_count", "_law_names", "_law_k", "_law_j"], b10_0, false⟩
def b11_6 : Sms := .cons (.ret (.freeze (.var 6))) .nil
def b11_5a_4 : Sms := .cons (.expr (.meth .append (.var 6) (.cons (.prim .tupleOf true (.cons (.var 10) .nil)) .nil))) .nil
def b11_5a_3a_2 : Sms := .cons (.expr (.meth .append (.var 10) (.cons (.prim .tupleOf true (.cons (.lc true [(("_law_sign" : Str), 14)] (.name 14) (.seq (.var 12)) .nil (.idx (.var 9) (.var 14))) .nil)) .nil))) .nil
def b11_5a_3a_1a_0 : Sms := .cons (.set 12 (.lc true [(("_law_c" : Str), 13)] (.name 13) (.seq (.var 5)) .nil (.call 7 (.cons (.cint 2) (.cons (.var 11) (.cons (.call 9 (.cons (.cint 4) (.cons (.var 8) (.cons (.var 13) .nil)))) .nil)))))) .nil
def b11_5a_3a_1 : Sms := .cons (.ite (.cmp .eq (.var 2) (.cint 4)) b11_5a_3a_1a_0 .nil) b11_5a_3a_2
def b11_5a_3a_0 : Sms := .cons (.set 12 (.lc true [(("_law_c" : Str), 13)] (.name 13) (.seq (.var 5)) .nil (.bin .mod true (.prim .intOf true (.cons (.bin .add true (.var 11) (.bin .mul true (.var 8) (.var 13))) .nil)) (.var 2)))) b11_5a_3a_1
def b11_5a_3 : Sms := .cons (.for (.name 11) (.seq (.var 4)) b11_5a_3a_0) b11_5a_4
def b11_5a_2 : Sms := .cons (.set 10 (.lst false .nil)) b11_5a_3
def b11_5a_1 : Sms := .cons (.set 9 (.call 10 (.cons (.var 0) (.cons (.bin .add true (.bin .add true (.var 1) (.cint 18)) (.bin .mul true (.cint 7) (.var 7))) (.cons (.var 2) .nil))))) b11_5a_2
def b11_5a_0 : Sms := .cons (.set 8 (.bin .add true (.var 7) (.cint 1))) b11_5a_1
def b11_5 : Sms := .cons (.for (.name 7) (.range (.cons (.var 3) .nil)) b11_5a_0) b11_6
def b11_4 : Sms := .cons (.set 6 (.lst false .nil)) b11_5
def b11_3 : Sms := .cons (.set 5 (.call 10 (.cons (.var 0) (.cons (.bin .add true (.var 1) (.cint 10)) (.cons (.var 2) .nil))))) b11_4
def b11_2 : Sms := .cons (.set 4 (.call 10 (.cons (.var 0) (.cons (.bin .add true (.var 1) (.cint 2)) (.cons (.var 2) .nil))))) b11_3
def b11_1 : Sms := .cons (.set 3 (.bin .add true (.cint 2) (.call 6 (.cons (.var 0) (.cons (.bin .add true (.var 1) (.cint 1)) (.cons (.prim .min2 true (.cons (.bin .sub true (.var 2) (.cint 2)) (.cons (.cint 3) .nil))) .nil)))))) b11_2
def b11_0 : Sms := .cons (.set 2 (.idx (.lst true (.cons (.cint 3) (.cons (.cint 4) (.cons (.cint 5) (.cons (.cint 4) (.cons (.cint 3) (.cons (.cint 5) (.cons (.cint 4) (.cons (.cint 7) .nil))))))))) (.call 6 (.cons (.var 0) (.cons (.var 1) (.cons (.cint 8) .nil)))))) b11_1
def f11 : Fn := ⟨("_law_family" : Str), ["_law_numbers_here", "_law_at"], ["_law_numbers_here", "_law_at", "_law_n", "_law_most", "_law_rows", "_law_columns", "_law_made", "_law_turn", "_law_times", "_law_signs", "_law_square", "_law_r", "_law_line", "_law_c", "_law_sign"], b11_0, false⟩
def b12_3 : Sms := .cons (.ret (.freeze (.var 2))) .nil
def b12_2a_0a_0 : Sms := .cons (.expr (.meth .append (.var 2) (.cons (.bin .add true (.tup (.cons (.var 3) (.cons (.var 4) .nil))) (.prim .tupleOf true (.cons (.lc true [(("_law_square" : Str), 5)] (.name 5) (.seq (.var 0)) .nil (.idx (.idx (.var 5) (.var 3)) (.var 4))) .nil))) .nil))) .nil
def b12_2a_0 : Sms := .cons (.for (.name 4) (.range (.cons (.var 1) .nil)) b12_2a_0a_0) .nil
def b12_2 : Sms := .cons (.for (.name 3) (.range (.cons (.var 1) .nil)) b12_2a_0) b12_3
def b12_1 : Sms := .cons (.set 2 (.lst false .nil)) b12_2
def b12_0 : Sms := .cons (.set 1 (.prim .len true (.cons (.idx (.var 0) (.cint 0)) .nil))) b12_1
def f12 : Fn := ⟨("_law_words" : Str), ["_law_family_here"], ["_law_family_here", "_law_n", "_law_words_here", "_law_r", "_law_c", "_law_square"], b12_0, false⟩
def b13_17 : Sms := .cons (.ret (.cmp .eq (.cmp .is (.call 3 (.cons (.var 3) (.cons (.fzd (.var 4)) .nil))) .cnon) (.cmp .is (.var 12) .cnon))) .nil
def b13_16a_0 : Sms := .cons (.ret (.cbl false)) .nil
def b13_16 : Sms := .cons (.ite (.or (.cmp .ne (.var 16) (.var 12)) (.and (.cmp .isnot (.var 16) .cnon) (.not (.prim (.isinst "tuple") true (.cons (.var 16) .nil))))) b13_16a_0 .nil) b13_17
def b13_15 : Sms := .cons (.set 16 (.call 5 (.cons (.var 3) (.cons (.fzd (.var 4)) .nil)))) b13_16
def b13_14a_0a_1a_0 : Sms := .cons (.set 12 (.tup (.cons (.var 14) (.cons (.var 13) .nil)))) .nil
def b13_14a_0a_1 : Sms := .cons (.ite (.and (.cmp .is (.var 12) .cnon) (.cmp .gt (.prim .len true (.cons (.var 15) .nil)) (.cint 1))) b13_14a_0a_1a_0 .nil) .nil
def b13_14a_0a_0 : Sms := .cons (.set 15 (.lc true [(("_law_place" : Str), 11)] (.name 11) (.range (.cons (.prim .len true (.cons (.idx (.var 4) (.cint 0)) .nil)) .nil)) (.cons (.cmp .eq (.idx (.idx (.var 4) (.var 14)) (.var 11)) (.idx (.idx (.var 4) (.var 13)) (.var 11))) .nil) (.var 11))) b13_14a_0a_1
def b13_14a_0 : Sms := .cons (.for (.name 14) (.range (.cons (.var 13) .nil)) b13_14a_0a_0) .nil
def b13_14 : Sms := .cons (.for (.name 13) (.range (.cons (.prim .len true (.cons (.var 4) .nil)) .nil)) b13_14a_0) b13_15
def b13_13 : Sms := .cons (.set 12 .cnon) b13_14
def b13_12a_0 : Sms := .cons (.ret (.cbl false)) .nil
def b13_12 : Sms := .cons (.ite (.cmp .ne (.call 4 (.cons (.idx (.var 4) (.var 8)) (.cons (.prim .tupleOf true (.cons (.idx (.var 4) (.var 9)) .nil)) .nil))) (.var 10)) b13_12a_0 .nil) b13_13
def b13_11 : Sms := .cons (.fz 4) (.cons (.set 10 (.lc true [(("_law_place" : Str), 11)] (.name 11) (.range (.cons (.prim .len true (.cons (.idx (.var 4) (.cint 0)) .nil)) .nil)) (.cons (.cmp .eq (.idx (.idx (.var 4) (.var 8)) (.var 11)) (.idx (.idx (.var 4) (.var 9)) (.var 11))) .nil) (.var 11))) b13_12)
def b13_10a_0 : Sms := .cons (.asg (.idx (.var 4) (.var 8)) (.prim .listOf false (.cons (.idx (.var 4) (.var 9)) .nil))) .nil
def b13_10 : Sms := .cons (.ite (.cmp .eq (.var 7) (.cint 2)) b13_10a_0 .nil) b13_11
def b13_9a_0 : Sms := .cons (.asg (.idx (.idx (.var 4) (.var 8)) (.call 6 (.cons (.var 1) (.cons (.cint 64) (.cons (.prim .len true (.cons (.idx (.var 4) (.cint 0)) .nil)) .nil))))) (.call 6 (.cons (.var 1) (.cons (.cint 65) (.cons (.var 3) .nil))))) .nil
def b13_9 : Sms := .cons (.ite (.cmp .eq (.var 7) (.cint 1)) b13_9a_0 .nil) b13_10
def b13_8 : Sms := .cons (.set 9 (.call 6 (.cons (.var 1) (.cons (.cint 63) (.cons (.prim .len true (.cons (.var 4) .nil)) .nil))))) b13_9
def b13_7 : Sms := .cons (.set 8 (.call 6 (.cons (.var 1) (.cons (.cint 62) (.cons (.prim .len true (.cons (.var 4) .nil)) .nil))))) b13_8
def b13_6 : Sms := .cons (.set 7 (.call 6 (.cons (.var 1) (.cons (.cint 61) (.cons (.cint 4) .nil))))) b13_7
def b13_5 : Sms := .cons (.set 4 (.bin .add false (.slice true (.var 4) (.cons (.var 6) .nil) .nil) (.slice true (.var 4) .nil (.cons (.var 6) .nil)))) b13_6
def b13_4 : Sms := .cons (.set 6 (.call 6 (.cons (.var 1) (.cons (.cint 60) (.cons (.prim .len true (.cons (.var 4) .nil)) .nil))))) b13_5
def b13_3 : Sms := .cons (.set 4 (.lc false [(("_law_word" : Str), 5)] (.name 5) (.seq (.call 12 (.cons (.var 2) .nil))) .nil (.prim .listOf false (.cons (.var 5) .nil)))) b13_4
def b13_2 : Sms := .cons (.set 3 (.prim .len true (.cons (.idx (.var 2) (.cint 0)) .nil))) b13_3
def b13_1 : Sms := .cons (.set 2 (.call 11 (.cons (.var 1) (.cons (.cint 0) .nil)))) b13_2
def b13_0 : Sms := .cons (.set 1 (.call 1 (.cons (.var 0) (.cons (.cint 80) .nil)))) b13_1
def f13 : Fn := ⟨("law" : Str), ["_law_script"], ["_law_script", "_law_numbers_here", "_law_family_here", "_law_n", "_law_words_here", "_law_word", "_law_turn", "_law_choice", "_law_one", "_law_other", "_law_alike", "_law_place", "_law_due", "_law_later", "_law_first", "_law_same", "_law_found"], b13_0, false⟩
def fns : List Fn := [f0, f1, f2, f3, f4, f5, f6, f7, f8, f9, f10, f11, f12, f13]
def top (i : Nat) : Stmt := PySem.Challenge.pw_matedsquares_k84_codes.main.body.getD i (.Pass ⟨0, 0, 0, 0⟩)
def L : List Def := [(f0, top 11), (f1, top 12), (f2, top 5), (f3, top 6), (f4, top 8), (f5, top 9), (f6, top 13), (f7, top 14), (f8, top 15), (f9, top 16), (f10, top 17), (f11, top 18), (f12, top 20), (f13, top 21)]
def bl : List Str := ["abs", "all", "any", "enumerate", "int", "isinstance", "len", "list", "max", "min", "range", "tuple", "zip"]
def xl : List Str := ["InvalidQuestion"]
def cs : List (Str × Cn) := [("MOST_ORDER", .int 12)]
theorem ok0 : DefOk bl (nms L) xl f0 (top 11) := by
  refine ⟨⟨rfl, rfl, rfl, by decide +kernel, rfl, by decide +kernel, by decide +kernel⟩, fun _ _ _ _ _ _ us hl => ?_, by decide +kernel⟩
  match us, hl with
  | [_, _], _ => rfl
theorem ok1 : DefOk bl (nms L) xl f1 (top 12) := by
  refine ⟨⟨rfl, rfl, rfl, by decide +kernel, rfl, by decide +kernel, by decide +kernel⟩, fun _ _ _ _ _ _ us hl => ?_, by decide +kernel⟩
  match us, hl with
  | [_, _], _ => rfl
theorem ok2 : DefOk bl (nms L) xl f2 (top 5) := by
  refine ⟨⟨rfl, rfl, rfl, by decide +kernel, rfl, by decide +kernel, by decide +kernel⟩, fun _ _ _ _ _ _ us hl => ?_, by decide +kernel⟩
  match us, hl with
  | [_, _], _ => rfl
theorem ok3 : DefOk bl (nms L) xl f3 (top 6) := by
  refine ⟨⟨rfl, rfl, rfl, by decide +kernel, rfl, by decide +kernel, by decide +kernel⟩, fun _ _ _ _ _ _ us hl => ?_, by decide +kernel⟩
  match us, hl with
  | [_, _], _ => rfl
theorem ok4 : DefOk bl (nms L) xl f4 (top 8) := by
  refine ⟨⟨rfl, rfl, rfl, by decide +kernel, rfl, by decide +kernel, by decide +kernel⟩, fun _ _ _ _ _ _ us hl => ?_, by decide +kernel⟩
  match us, hl with
  | [_, _], _ => rfl
theorem ok5 : DefOk bl (nms L) xl f5 (top 9) := by
  refine ⟨⟨rfl, rfl, rfl, by decide +kernel, rfl, by decide +kernel, by decide +kernel⟩, fun _ _ _ _ _ _ us hl => ?_, by decide +kernel⟩
  match us, hl with
  | [_, _], _ => rfl
theorem ok6 : DefOk bl (nms L) xl f6 (top 13) := by
  refine ⟨⟨rfl, rfl, rfl, by decide +kernel, rfl, by decide +kernel, by decide +kernel⟩, fun _ _ _ _ _ _ us hl => ?_, by decide +kernel⟩
  match us, hl with
  | [_, _, _], _ => rfl
theorem ok7 : DefOk bl (nms L) xl f7 (top 14) := by
  refine ⟨⟨rfl, rfl, rfl, by decide +kernel, rfl, by decide +kernel, by decide +kernel⟩, fun _ _ _ _ _ _ us hl => ?_, by decide +kernel⟩
  match us, hl with
  | [_, _, _], _ => rfl
theorem ok8 : DefOk bl (nms L) xl f8 (top 15) := by
  refine ⟨⟨rfl, rfl, rfl, by decide +kernel, rfl, by decide +kernel, by decide +kernel⟩, fun _ _ _ _ _ _ us hl => ?_, by decide +kernel⟩
  match us, hl with
  | [_], _ => rfl
theorem ok9 : DefOk bl (nms L) xl f9 (top 16) := by
  refine ⟨⟨rfl, rfl, rfl, by decide +kernel, rfl, by decide +kernel, by decide +kernel⟩, fun _ _ _ _ _ _ us hl => ?_, by decide +kernel⟩
  match us, hl with
  | [_, _, _], _ => rfl
theorem ok10 : DefOk bl (nms L) xl f10 (top 17) := by
  refine ⟨⟨rfl, rfl, rfl, by decide +kernel, rfl, by decide +kernel, by decide +kernel⟩, fun _ _ _ _ _ _ us hl => ?_, by decide +kernel⟩
  match us, hl with
  | [_, _, _], _ => rfl
theorem ok11 : DefOk bl (nms L) xl f11 (top 18) := by
  refine ⟨⟨rfl, rfl, rfl, by decide +kernel, rfl, by decide +kernel, by decide +kernel⟩, fun _ _ _ _ _ _ us hl => ?_, by decide +kernel⟩
  match us, hl with
  | [_, _], _ => rfl
theorem ok12 : DefOk bl (nms L) xl f12 (top 20) := by
  refine ⟨⟨rfl, rfl, rfl, by decide +kernel, rfl, by decide +kernel, by decide +kernel⟩, fun _ _ _ _ _ _ us hl => ?_, by decide +kernel⟩
  match us, hl with
  | [_], _ => rfl
theorem ok13 : DefOk bl (nms L) xl f13 (top 21) := by
  refine ⟨⟨rfl, rfl, rfl, by decide +kernel, rfl, by decide +kernel, by decide +kernel⟩, fun _ _ _ _ _ _ us hl => ?_, by decide +kernel⟩
  match us, hl with
  | [_], _ => rfl
theorem okL : ∀ p ∈ L, DefOk bl (nms L) xl p.1 p.2 :=
  List.forall_mem_cons.mpr ⟨ok0, List.forall_mem_cons.mpr ⟨ok1, List.forall_mem_cons.mpr ⟨ok2, List.forall_mem_cons.mpr ⟨ok3, List.forall_mem_cons.mpr ⟨ok4, List.forall_mem_cons.mpr ⟨ok5, List.forall_mem_cons.mpr ⟨ok6, List.forall_mem_cons.mpr ⟨ok7, List.forall_mem_cons.mpr ⟨ok8, List.forall_mem_cons.mpr ⟨ok9, List.forall_mem_cons.mpr ⟨ok10, List.forall_mem_cons.mpr ⟨ok11, List.forall_mem_cons.mpr ⟨ok12, List.forall_mem_cons.mpr ⟨ok13, fun _ h => nomatch h⟩⟩⟩⟩⟩⟩⟩⟩⟩⟩⟩⟩⟩⟩
abbrev R : PySem.W.OpenRow := PySem.W.OpenLaw.row PySem.Challenge.rw_matedsquares_k84_codes
abbrev hk : PySem.W.Hook := He.hookX 6 (faOf L bl cs xl) (L.map dOf) [] [] (exOf xl)
def ob (s : PySem.W.SharedT) : He.AlX := He.obsX 6 (faOf L bl cs xl) (L.map dOf) [] [] (exOf xl) (HandSHeadRun.getT s)
theorem obOk (s : PySem.W.SharedT) : ob s = hk.obs s.abs := He.obsX_eq (HandSHeadRun.getT_eq s)
def loose0 : List PySem.Str := ["MatedsquaresError", "InvalidQuestion", "MOST_ORDER", "kept_array", "array_fault", "agreements", "code_fault", "_law_row", "_law_numbers", "_law_pick", "_law_field_sum", "_law_powers", "_law_field_product", "_law_shuffled", "_law_family", "_law_repeat", "_law_words"]
def loose : List PySem.Str := loose0
theorem run (w : World) : HandSHeadRun.RunEq R (PySem.W.view R.prog [21]) hk ob 4000 loose w := by
  intro os
  kernel_rfl
theorem all (hlaw : ∀ ns : List Int, ns.length ≤ 63 → G (L.map (·.1)) (glOf cs) xl FUEL DEEP 13 [.vw (ns.map .int)] [] = .ok (.bl true) []) : PySem.Challenge.rw_matedsquares_k84_codes.Holds := by
  w_on; o_law
  refine HandSHeadRun.head_any (r := R) (q := PySem.W.view R.prog [21]) (H := hk) (ob := ob) (M := 4000) (loose := loose) (d := HandSHeadRun.topDef R.prog 21) (kwd := []) obOk (by kernel_rfl) (fun s => by kernel_rfl) run
    (by kernel_rfl) (by kernel_rfl) (by kernel_rfl) (by rfl) (by first | assumption | decide +kernel) (by decide +kernel) ⟨rfl, rfl, rfl, rfl, rfl, by decide +kernel⟩ ?w ?c
  case w => w_witness2
  case c => exact walk_ev (l := PySem.Challenge.rw_matedsquares_k84_codes) (f := f13) (st := top 21) (il := 13) (n := 63) (k := DEEP) (F := FUEL) (x := "_law_script") rfl (by decide) (by kernel_rfl) ⟨rfl, by decide, by decide⟩ okL rfl (by kernel_rfl) rfl hlaw

end K84
set_option maxHeartbeats 2000000
namespace K84
open PySem PySem.Spec PyProof.Rows L2 Ev
/-! squares: what the defs give (printed by wip/tpl.py) -/
abbrev fs : List Fn := L.map (·.1)
abbrev GG (n i : Nat) (ds : List D) (h : Hs) : Ev.R D := G fs (glOf cs) xl FUEL n i ds h
abbrev cfg (n : Nat) : Cfg := ⟨G fs (glOf cs) xl FUEL n, glOf cs, xl, FUEL⟩
theorem G_exc {n i : Nat} {f : Fn} {ds : List D} {x : Str} {h : Hs} (e : fs[i]? = some f) (hl : ds.length = f.ps.length) (hp : D.pures ds = true)
    (hd : ∃ ρ' h', f.body.den (cfg n) (ds.map some ++ List.replicate (f.N.length - ds.length) none) [] = .exc x none ρ' h') (hs : f.sh = false := by rfl) : GG (n + 1) i ds h = .exc x none h := by
  obtain ⟨ρ', h', hd⟩ := hd
  unfold GG G
  rw [e]
  have q : runFn (cfg n) f ds = .exc x none [] := by
    unfold runFn
    rw [if_pos ⟨hl, hp⟩, hd]
    rfl
  dsimp only
  rw [if_neg (by rw [hs]; exact Bool.false_ne_true)]
  show (match runFn (cfg n) f ds with | .ok d _ => R.ok d h | .exc x p _ => .exc x p h | .stuck => .stuck) = _
  rw [q]
/-- a square that is kept (for laws without kept_rows) -/
structure Sq (m : List (List Int)) : Prop where
  b : latB m = true
theorem Sq.l {m : List (List Int)} (S : Sq m) : m.length ≤ 12 := (lat_of S.b).2.2
theorem Sq.r {m : List (List Int)} (S : Sq m) : ∀ r ∈ m, r.length = m.length := fun r hr => (lat_of S.b).1.rlen hr
theorem Sq.w {m : List (List Int)} (S : Sq m) {r : Nat} (h : r < m.length) : (m.getD r []).length = m.length := S.r _ ((lat_of S.b).1.at h)
/-! rows in a drawn order -/
abbrev shE (nl : D) (a n : Nat) (u v : Option D) : Ev.Env := [some nl, some (.int (a : Nat)), some (.int (n : Nat)), some (.ref 0), u, v]
theorem g_shuf {k : Nat} {ks : List Int} {a n : Nat} (h1 : 1 ≤ n) (hn : n ≤ 100) (ha : a + n ≤ ks.length) : ∃ p : List Int, p.Perm (rng n) ∧ ∀ h, GG (k + 1) 10 [.lst (ks.map .int), .int (a : Nat), .int (n : Nat)] h = .ok (.lst (p.map .int)) h := by
  have hL := LN_eq
  obtain ⟨ρ', h', f1, u, v, p, rfl, rfl, hp, hpl⟩ := for_name (c := cfg k) (b := Sms.den (cfg k) b10_1a_0) (i := 4) (fun t : Nat => D.int (((n : Int) - 1) - (t : Nat))) (List.range (n - 1)) (fun j ρ h => ∃ u v l, ρ = shE (.lst (ks.map .int)) a n u v ∧ h = [.lst (l.map D.int)] ∧ l.Perm (rng n) ∧ l.length = n)
    (ρ := shE (.lst (ks.map .int)) a n none none) (h := [.lst ((rng n).map D.int)]) ⟨none, none, rng n, rfl, rfl, .refl _, rng_len n⟩ (fun j x ρ h hx ⟨u, v, l, e1, e2, hp, hl⟩ => by
    subst e1 e2
    have hj : j < n - 1 := by simpa using (List.getElem?_eq_some_iff.mp hx).1
    rw [List.getElem?_range hj] at hx
    cases hx
    obtain ⟨K, hK⟩ : ∃ K : Int, K = (n : Int) - 1 - (j : Nat) := ⟨_, rfl⟩
    rw [← hK]
    have k0 : 0 < K + 1 := by omega
    obtain ⟨J, hJ⟩ : ∃ J : Int, J = at0 ks ((a : Int) + K) % (K + 1) := ⟨_, rfl⟩
    have j0 : 0 ≤ J := by rw [hJ]; exact Int.emod_nonneg _ (by omega)
    have j1 : J < K + 1 := by rw [hJ]; exact Int.emod_lt_of_pos _ k0
    have e1 : ∀ h, idxD (.lst (ks.map .int)) (.int ((a : Int) + K)) h = .ok (.int (at0 ks ((a : Int) + K))) h := fun h => idx_l (by omega) (by omega)
    have e2 : ∀ fz h, binD .mod fz (.int (at0 ks ((a : Int) + K))) (.int (K + 1)) h = .ok (.int J) h := fun fz h => by rw [bin_mod k0, hJ]
    have r1 : idxD (.ref 0) (.int J) [.lst (l.map D.int)] = .ok (.int (at0 l J)) [.lst (l.map D.int)] := idx_r0 (h := []) j0 (by omega)
    have r2 : idxD (.ref 0) (.int K) [.lst (l.map D.int)] = .ok (.int (at0 l K)) [.lst (l.map D.int)] := idx_r0 (h := []) (by omega) (by omega)
    have s1 : setD (.ref 0) (.int K) (.int (at0 l J)) [.lst (l.map .int)] = some [.lst ((put l K (at0 l J)).map .int)] := set_r0 (h := []) (by omega) (by omega)
    have s2 : setD (.ref 0) (.int J) (.int (at0 l K)) [.lst ((put l K (at0 l J)).map .int)] = some [.lst ((put (put l K (at0 l J)) J (at0 l K)).map .int)] := set_r0 (h := []) j0 (by rw [put_len]; omega)
    have sw : (put (put l K (at0 l J)) J (at0 l K)).Perm l := swap_perm l (i := K.toNat) (j := J.toNat) (by omega) (by omega)
    refine ⟨by simp, shE (.lst (ks.map .int)) a n (some (.int K)) (some (.int J)), [.lst ((put (put l K (at0 l J)) J (at0 l K)).map .int)], ?_, ⟨_, _, _, rfl, rfl, sw.trans hp, by rw [put_len, put_len, hl]⟩⟩
    unfold b10_1a_0 b10_1a_1
    generalize at0 ks ((a : Int) + K) = X at *
    generalize put (put l K (at0 l J)) J (at0 l K) = l2 at *
    generalize put l K (at0 l J) = l1 at *
    simp [e1, e2, r1, r2, s1, s2, LN_eq])
  refine ⟨p, hp, fun h => G_ok (n := k) (f := f10) rfl rfl (by show (_ && (_ && (_ && true))) = true; rw [show (D.lst (ks.map .int)).pure = true from pures_ints ks]; rfl) ⟨[.dead], ?_⟩ (pures_ints p)⟩
  show Sms.den (cfg k) b10_0 [some (.lst (ks.map .int)), some (.int (a : Nat)), some (.int (n : Nat)), none, none, none] [] = _
  unfold b10_0 b10_1 b10_2
  have n1 : (n : Int) ≤ 1000000 := by omega
  have n2 : (-1000000 : Int) ≤ (n : Int) - 1 := by omega
  have n3 : (n : Int) - 1 ≤ 1000000 := by omega
  have R1 : newL false (List.map (fun k : Nat => D.int (k : Nat)) (List.range n)) [] = .ok (.ref 0) [.lst ((rng n).map .int)] := by
    show (if _ then R.ok (D.ref 0) [Cell.lst _] else .stuck) = _
    rw [if_pos (by rw [List.length_map, List.length_range]; omega)]
    unfold rng; rw [List.map_map]; rfl
  have tn : ((n : Int) - 1 - 0).toNat = n - 1 := by omega
  have tn2 : ((n : Int) - 1).toNat = n - 1 := by omega
  have fr : freezeD (.ref 0) [.lst (p.map .int)] = .ok (.lst (p.map .int)) [.dead] := by
    show (if D.pures (p.map .int) = true then _ else _) = _
    rw [if_pos (pures_ints p)]; rfl
  simp only [shE] at f1
  simp [n1, n2, n3, R1, tn, tn2, LN_eq, f1, fr]
/-! a square drawn -/
def plM : Nat → List (List Int)
  | 0 => [[0, 1], [1, 0]]
  | 1 => [[0, 1, 2], [1, 2, 0], [2, 0, 1]]
  | 2 => [[0, 1, 2, 3], [1, 2, 3, 0], [2, 3, 0, 1], [3, 0, 1, 2]]
  | 3 => [[0, 1, 2, 3, 4], [1, 2, 3, 4, 0], [2, 3, 4, 0, 1], [3, 4, 0, 1, 2], [4, 0, 1, 2, 3]]
  | 4 => [[0, 1, 2, 3, 4, 5], [1, 2, 3, 4, 5, 0], [2, 3, 4, 5, 0, 1], [3, 4, 5, 0, 1, 2], [4, 5, 0, 1, 2, 3], [5, 0, 1, 2, 3, 4]]
  | 5 => [[0, 1, 2, 3, 4, 5, 6], [1, 2, 3, 4, 5, 6, 0], [2, 3, 4, 5, 6, 0, 1], [3, 4, 5, 6, 0, 1, 2], [4, 5, 6, 0, 1, 2, 3], [5, 6, 0, 1, 2, 3, 4], [6, 0, 1, 2, 3, 4, 5]]
  | 6 => [[0, 2, 4, 1, 3], [1, 3, 0, 2, 4], [2, 4, 1, 3, 0], [3, 0, 2, 4, 1], [4, 1, 3, 0, 2]]
  | 7 => [[0, 1, 2, 3], [1, 0, 3, 2], [2, 3, 0, 1], [3, 2, 1, 0]]
  | 8 => [[0, 2, 3, 1], [1, 3, 2, 0], [2, 0, 1, 3], [3, 1, 0, 2]]
  | 9 => [[0, 1, 2, 3, 4], [1, 0, 3, 4, 2], [2, 4, 0, 1, 3], [3, 2, 4, 0, 1], [4, 3, 1, 2, 0]]
  | 10 => [[0, 1, 2, 3, 4, 5], [1, 2, 0, 4, 5, 3], [2, 0, 1, 5, 3, 4], [3, 5, 4, 0, 2, 1], [4, 3, 5, 1, 0, 2], [5, 4, 3, 2, 1, 0]]
  | _ => [[0, 1, 2, 3], [3, 0, 1, 2], [2, 3, 0, 1], [1, 2, 3, 0]]
theorem plM_ok : ∀ k, k < 12 → latB (plM k) = true ∧ 2 ≤ (plM k).length ∧ (plM k).length ≤ 7 := by decide +kernel
theorem g_pick {k : Nat} {ks : List Int} {a : Nat} {m : Int} (ha : a < ks.length) (hm : 0 < m) (h : Hs) : GG (k + 1) 6 [.lst (ks.map .int), .int (a : Nat), .int m] h = .ok (.int (at0 ks (a : Nat) % m)) h := by
  have iv : ∀ h, idxD (.lst (ks.map .int)) (.int (a : Nat)) h = .ok (.int (at0 ks (a : Nat))) h := fun h => idx_l (by omega) (by omega)
  refine G_ok (n := k) (f := f6) rfl rfl (by show (_ && (_ && (_ && true))) = true; rw [show (D.lst (ks.map .int)).pure = true from pures_ints ks]; rfl) ⟨[], ?_⟩ rfl
  show Sms.den (cfg k) b6_0 [some (.lst (ks.map .int)), some (.int (a : Nat)), some (.int m)] [] = _
  unfold b6_0
  simp [iv, bin_mod, hm]
end K84
set_option maxHeartbeats 2000000
namespace K84
open PySem PySem.Spec PyProof.Rows L2 Ev
/-! a family drawn -/
def isI (r : Ev.R D) (v : Int) : Bool := match r with
  | .ok (.int w) _ => w == v
  | _ => false
theorem G_heapF {n i : Nat} {f : Fn} {ds : List D} {d : D} {h0 h1 : Hs} (ef : fs[i]? = some f) (e : GG n i ds h0 = .ok d h1) (h : Hs) (hs : f.sh = false := by rfl) : GG n i ds h = .ok d h := by
  cases n with
  | zero => cases e
  | succ n =>
    unfold GG G at e ⊢
    rw [ef] at e ⊢
    dsimp only at e ⊢
    rw [if_neg (by rw [hs]; exact Bool.false_ne_true)] at e ⊢
    cases q2 : runFn ⟨G fs (glOf cs) xl FUEL n, glOf cs, xl, FUEL⟩ f ds with
    | ok d' _ => rw [q2] at e; cases e; rfl
    | exc _ _ _ => rw [q2] at e; cases e
    | stuck => rw [q2] at e; cases e
theorem int_of {n i : Nat} {f : Fn} {ds : List D} {v : Int} (ef : fs[i]? = some f) (e : isI (GG n i ds []) v = true) (h : Hs) (hs : f.sh = false := by rfl) : GG n i ds h = .ok (.int v) h := by
  cases q : GG n i ds [] with
  | ok d h1 =>
    rw [q] at e
    cases d with
    | int w =>
      have : w = v := by simpa [isI] using e
      subst this
      exact G_heapF ef q h hs
    | _ => cases e
  | exc _ _ _ => rw [q] at e; cases e
  | stuck => rw [q] at e; cases e
theorem f4_p : ((List.range 3).all fun t => (List.range 4).all fun c => isI (GG 58 9 [.int 4, .int ((t + 1 : Nat) : Int), .int (c : Nat)] []) (at2 (fP4 (t + 1)) 0 (c : Nat))) = true := by decide +kernel
theorem f4_s : ((List.range 3).all fun t => (List.range 4).all fun c => (List.range 4).all fun r => isI (GG 58 7 [.int 2, .int (r : Nat), .int (at2 (fP4 (t + 1)) 0 (c : Nat))] []) (at2 (fP4 (t + 1)) (r : Nat) (c : Nat))) = true := by decide +kernel
theorem fld4 {t : Nat} (ht : t < 3) {r c : Int} (r0 : 0 ≤ r) (r1 : r < 4) (c0 : 0 ≤ c) (c1 : c < 4) : (∀ h, GG 58 9 [.int 4, .int ((t + 1 : Nat) : Int), .int c] h = .ok (.int (at2 (fP4 (t + 1)) 0 c)) h) ∧
    ∀ h, GG 58 7 [.int 2, .int r, .int (at2 (fP4 (t + 1)) 0 c)] h = .ok (.int (at2 (fP4 (t + 1)) r c)) h := by
  obtain ⟨R, rfl⟩ : ∃ R : Nat, r = R := ⟨r.toNat, by omega⟩
  obtain ⟨C, rfl⟩ : ∃ C : Nat, c = C := ⟨c.toNat, by omega⟩
  have p := List.all_eq_true.mp (List.all_eq_true.mp f4_p t (List.mem_range.mpr ht)) C (List.mem_range.mpr (by omega))
  have s := List.all_eq_true.mp (List.all_eq_true.mp (List.all_eq_true.mp f4_s t (List.mem_range.mpr ht)) C (List.mem_range.mpr (by omega))) R (List.mem_range.mpr (by omega))
  exact ⟨int_of (f := f9) rfl p, int_of (f := f7) rfl s⟩
abbrev famE (kl : D) (a n M : Nat) (rs cl : List Int) (u7 u8 u9 u10 u11 u12 : Option D) : Ev.Env := [some kl, some (.int (a : Nat)), some (.int (n : Nat)), some (.int (M : Nat)), some (.lst (rs.map .int)), some (.lst (cl.map .int)), some (.ref 0), u7, u8, u9, u10, u11, u12, none, none]
abbrev cf58 : Cfg := ⟨G fs (glOf cs) xl FUEL 58, glOf cs, xl, FUEL⟩
def frow (n t : Nat) (cl ss : List Int) (r : Int) : List Int := cl.map fun c => ss.getD (at2 (fP n t) r c).toNat 0
theorem fam_row {kl : D} {a n M t : Nat} {rs cl ss : List Int} {H : Hs} {xs : List D} {r : Int} {u12 : Option D} (hc : FC n M) (ht : t < M) (hcl : cl.Perm (rng n)) (hss : ss.Perm (rng n)) (r0 : 0 ≤ r) (r1 : r < n) (hx : xs.length ≤ 1000) :
    ∃ v12, Sms.den cf58 b11_5a_3a_0 (famE kl a n M rs cl (some (.int (t : Nat))) (some (.int ((t : Nat) + 1))) (some (.lst (ss.map .int))) (some (.ref H.length)) (some (.int r)) u12) (H ++ [.lst xs]) =
      .nx (famE kl a n M rs cl (some (.int (t : Nat))) (some (.int ((t : Nat) + 1))) (some (.lst (ss.map .int))) (some (.ref H.length)) (some (.int r)) v12) (H ++ [.lst (xs ++ [.tup ((frow n (t + 1) cl ss r).map .int)])]) := by
  have hL := LN_eq
  have b := hc.lt
  have lcl : cl.length = n := by rw [hcl.length_eq, rng_len]
  have lss : ss.length = n := by rw [hss.length_eq, rng_len]
  obtain ⟨T, hT⟩ : ∃ T : Int, T = (t : Nat) + 1 := ⟨_, rfl⟩
  have hT' : ((t + 1 : Nat) : Int) = T := by omega
  rw [← hT]
  obtain ⟨hh, hhe⟩ : ∃ hh, hh = H ++ [Cell.lst xs] := ⟨_, rfl⟩
  rw [← hhe]
  obtain ⟨ni, hni⟩ : ∃ ni : Int, ni = (n : Nat) := ⟨_, rfl⟩
  have LC1 : (Ex.dt cf58 (.lc true [(("_law_c" : Str), 13)] (.name 13) (.seq (.var 5)) .nil (.bin .mod true (.prim .intOf true (.cons (.bin .add true (.var 11) (.bin .mul true (.var 8) (.var 13))) .nil)) (.var 2)))).1
      (famE kl a n M rs cl (some (.int (t : Nat))) (some (.int T)) (some (.lst (ss.map .int))) (some (.ref H.length)) (some (.int r)) u12) hh = .ok (.lst (cl.map fun c => D.int ((r + T * c) % n))) hh :=
    lc_denF D.int (fun c => D.int ((r + T * c) % n)) cl (by simp) (by omega) rfl fun c _ => by
      have m1 : ∀ fz h, binD .mul fz (.int T) (.int c) h = .ok (.int (T * c)) h := fun fz h => bin_mul (.inl (by omega))
      have m2 : ∀ fz h x, binD .mod fz (.int x) (.int (n : Nat)) h = .ok (.int (x % (n : Nat))) h := fun fz h x => bin_mod (by omega)
      rw [← hni] at m2 ⊢
      generalize D.lst (cl.map D.int) = g1
      generalize D.lst (rs.map D.int) = g2
      generalize D.lst (ss.map D.int) = g3
      simp [famE, m1, m2, ← hni]
  have key : Sms.den cf58 b11_5a_3a_0 (famE kl a n M rs cl (some (.int (t : Nat))) (some (.int T)) (some (.lst (ss.map .int))) (some (.ref H.length)) (some (.int r)) u12) hh =
      Sms.den cf58 b11_5a_3a_2 (famE kl a n M rs cl (some (.int (t : Nat))) (some (.int T)) (some (.lst (ss.map .int))) (some (.ref H.length)) (some (.int r)) (some (.lst ((cl.map fun c => at2 (fP n (t + 1)) r c).map .int)))) hh := by
    refine (stepS (b' := b11_5a_3a_1) (s := hdS b11_5a_3a_0) (ρ' := famE kl a n M rs cl (some (.int (t : Nat))) (some (.int T)) (some (.lst (ss.map .int))) (some (.ref H.length)) (some (.int r)) (some (.lst (cl.map fun c => D.int ((r + T * c) % n))))) (h' := hh) rfl ?_).trans ?_
    · show Sm.den cf58 (.set 12 _) _ _ = _
      rw [sm_set]
      show ((Ex.dt cf58 (.lc true [(("_law_c" : Str), 13)] (.name 13) (.seq (.var 5)) .nil (.bin .mod true (.prim .intOf true (.cons (.bin .add true (.var 11) (.bin .mul true (.var 8) (.var 13))) .nil)) (.var 2)))).1 _ hh).gq _ _ _ = _
      rw [LC1, gq_ok]; rfl
    by_cases h4 : n = 4
    · subst h4
      have LC2 : ∀ u, (Ex.dt cf58 (.lc true [(("_law_c" : Str), 13)] (.name 13) (.seq (.var 5)) .nil (.call 7 (.cons (.cint 2) (.cons (.var 11) (.cons (.call 9 (.cons (.cint 4) (.cons (.var 8) (.cons (.var 13) .nil)))) .nil)))))).1
          [some kl, some (.int (a : Nat)), some (.int 4), some (.int (M : Nat)), some (.lst (rs.map .int)), some (.lst (cl.map .int)), some (.ref 0), some (.int (t : Nat)), some (.int T), some (.lst (ss.map .int)), some (.ref H.length), some (.int r), some u, none, none] hh = .ok (.lst (cl.map fun c => D.int (at2 (fP 4 (t + 1)) r c))) hh := fun u =>
        lc_denF D.int (fun c => D.int (at2 (fP 4 (t + 1)) r c)) cl (by simp) (by omega) rfl fun c hcm => by
          have hcb := rng_mem.mp (hcl.subset hcm)
          have t3 : t < 3 := by unfold FC at hc; omega
          obtain ⟨p1, p2⟩ := fld4 t3 r0 (by omega) hcb.1 (by omega)
          rw [hT'] at p1
          show _ = R.ok (D.int (at2 (fP4 (t + 1)) r c)) hh
          have p1' : ∀ h, G fs (glOf cs) xl FUEL 58 9 [.int 4, .int T, .int c] h = _ := p1
          have p2' : ∀ h, G fs (glOf cs) xl FUEL 58 7 [.int 2, .int r, .int (at2 (fP4 (t + 1)) 0 c)] h = _ := p2
          generalize at2 (fP4 (t + 1)) 0 c = w1 at *
          generalize at2 (fP4 (t + 1)) r c = w2 at *
          simp [famE, p1', p2']
      refine (stepS (b' := b11_5a_3a_2) (s := hdS b11_5a_3a_1) (h' := hh) rfl ?_)
      show Sm.den cf58 (.ite (.cmp .eq (.var 2) (.cint 4)) b11_5a_3a_1a_0 .nil) _ _ = _
      unfold b11_5a_3a_1a_0
      rw [List.map_map]
      simp only [famE]
      simp [-den_lc, LC2]
    · refine (stepS (b' := b11_5a_3a_2) (s := hdS b11_5a_3a_1) (h' := hh) rfl ?_)
      show Sm.den cf58 (.ite (.cmp .eq (.var 2) (.cint 4)) b11_5a_3a_1a_0 .nil) _ _ = _
      have h4' : ¬ ((n : Int) = 4) := by omega
      have e : (cl.map fun c => D.int ((r + T * c) % (n : Nat))) = (cl.map fun c => at2 (fP n (t + 1)) r c).map D.int := by
        rw [List.map_map]
        refine List.map_congr_left fun c hcm => ?_
        have hcb := rng_mem.mp (hcl.subset hcm)
        show D.int _ = D.int (at2 (fP n (t + 1)) r c)
        rw [at2_fP h4 r0 r1 hcb.1 hcb.2, hT']
      rw [e]
      simp [h4']
  obtain ⟨Lf, hLf⟩ : ∃ Lf : List Int, Lf = cl.map fun c => at2 (fP n (t + 1)) r c := ⟨_, rfl⟩
  rw [← hLf] at key
  have hin : ∀ v ∈ Lf, 0 ≤ v ∧ v < n := fun v hv => by
    rw [hLf] at hv
    obtain ⟨c, hcm, rfl⟩ := List.mem_map.mp hv
    have hcb := rng_mem.mp (hcl.subset hcm)
    obtain ⟨q1, q2⟩ := fP_ok n b.2.1 M b.2.2.2 hc t ht
    have LP := (lat_of q1).1
    rw [q2] at LP
    have hm := LP.at (r := r.toNat) (by omega)
    refine rng_mem.mp ((LP.row _ hm).subset ?_)
    unfold at2
    rw [List.getD_eq_getElem?_getD (l := (fP n (t + 1)).getD _ _), List.getElem?_eq_getElem (by rw [LP.rlen hm]; omega)]; exact List.getElem_mem _
  have lLf : Lf.length = n := by rw [hLf, List.length_map, lcl]
  have LC3 : (Ex.dt cf58 (.lc true [(("_law_sign" : Str), 14)] (.name 14) (.seq (.var 12)) .nil (.idx (.var 9) (.var 14)))).1
      (famE kl a n M rs cl (some (.int (t : Nat))) (some (.int T)) (some (.lst (ss.map .int))) (some (.ref H.length)) (some (.int r)) (some (.lst (Lf.map .int)))) hh = .ok (.lst ((frow n (t + 1) cl ss r).map .int)) hh := by
    have e : (frow n (t + 1) cl ss r).map D.int = Lf.map fun v => D.int (ss.getD v.toNat 0) := by
      unfold frow; rw [hLf, List.map_map, List.map_map]; rfl
    rw [e]
    refine lc_denF D.int (fun v => D.int (ss.getD v.toNat 0)) Lf (by simp) (by omega) rfl fun v hv => ?_
    have hv' := hin v hv
    have i1 : ∀ h, idxD (.lst (ss.map .int)) (.int v) h = .ok (.int (ss.getD v.toNat 0)) h := fun h => idx_rowI (u := false) hv'.1 (by omega)
    generalize ss.getD v.toNat 0 = g1 at *
    generalize D.lst (cl.map D.int) = g2
    generalize D.lst (rs.map D.int) = g3
    generalize D.lst (ss.map D.int) = g4 at *
    simp [famE, i1]
  have tp : primD .tupleOf true [.lst ((frow n (t + 1) cl ss r).map .int)] hh = .ok (.tup ((frow n (t + 1) cl ss r).map .int)) hh := rfl
  have ap : methD .append (.ref H.length) [.tup ((frow n (t + 1) cl ss r).map .int)] hh = .ok .non (H ++ [.lst (xs ++ [.tup ((frow n (t + 1) cl ss r).map .int)])]) := by
    rw [hhe]; exact app_last (by omega)
  have sq : seqOf hh (.ref H.length) = some (xs, true) := by rw [hhe]; exact seq_last
  refine ⟨some (.lst (Lf.map .int)), key.trans ?_⟩
  unfold b11_5a_3a_2
  simp only [famE] at LC3 ⊢
  simp [-den_lc, LC3, tp, ap, sq]
/-- all rows of one square -/
theorem fam_rows {kl : D} {a n M t : Nat} {rs cl ss : List Int} {H : Hs} (hc : FC n M) (ht : t < M) (hrs : rs.Perm (rng n)) (hcl : cl.Perm (rng n)) (hss : ss.Perm (rng n)) (u11 u12 : Option D) :
    ∃ v11 v12, forD (Tg.den cf58 (.name 11)) (Sms.den cf58 b11_5a_3a_0) (rs.map D.int) (famE kl a n M rs cl (some (.int (t : Nat))) (some (.int ((t : Nat) + 1))) (some (.lst (ss.map .int))) (some (.ref H.length)) u11 u12) (H ++ [.lst []]) =
      .nx (famE kl a n M rs cl (some (.int (t : Nat))) (some (.int ((t : Nat) + 1))) (some (.lst (ss.map .int))) (some (.ref H.length)) v11 v12) (H ++ [.lst ((ren (fP n (t + 1)) rs cl ss).map fun r => .tup (r.map .int))]) := by
  have b := hc.lt
  have lrs : rs.length = n := by rw [hrs.length_eq, rng_len]
  obtain ⟨ρ', h', f1, v11, v12, rfl, rfl⟩ := for_name (c := cf58) (b := Sms.den cf58 b11_5a_3a_0) (i := 11) D.int rs (fun j ρ h => ∃ v11 v12, ρ = famE kl a n M rs cl (some (.int (t : Nat))) (some (.int ((t : Nat) + 1))) (some (.lst (ss.map .int))) (some (.ref H.length)) v11 v12 ∧ h = H ++ [.lst ((rs.take j).map fun r => D.tup ((frow n (t + 1) cl ss r).map .int))])
    (ρ := famE kl a n M rs cl (some (.int (t : Nat))) (some (.int ((t : Nat) + 1))) (some (.lst (ss.map .int))) (some (.ref H.length)) u11 u12) (h := H ++ [.lst []]) ⟨u11, u12, rfl, rfl⟩ (fun j x ρ h hx ⟨v11, v12, e1, e2⟩ => by
    subst e1 e2
    have hj := (List.getElem?_eq_some_iff.mp hx).1
    have hb := rng_mem.mp (hrs.subset (List.mem_of_getElem? hx))
    obtain ⟨w, q⟩ := fam_row (kl := kl) (a := a) (rs := rs) (H := H) (xs := (rs.take j).map fun r => D.tup ((frow n (t + 1) cl ss r).map .int)) (u12 := v12) hc ht hcl hss hb.1 hb.2 (by rw [List.length_map, List.length_take]; omega)
    refine ⟨by simp, _, _, q, some (.int x), w, rfl, ?_⟩
    rw [List.take_add_one, hx, List.map_append]; rfl)
  refine ⟨v11, v12, f1.trans ?_⟩
  rw [List.take_length]
  congr 3
  unfold ren
  rw [List.map_map]; rfl
theorem fam_turn {kl : D} {ks : List Int} {a n M t : Nat} {rs cl : List Int} {ss : List Int} {made : List D} {hs : Hs} (hkl : kl = .lst (ks.map .int)) (hc : FC n M) (ht : t < M) (hrs : rs.Perm (rng n)) (hcl : cl.Perm (rng n)) (hss : ss.Perm (rng n))
    (es : ∀ h, GG 58 10 [.lst (ks.map .int), .int ((a + 18 + 7 * t : Nat) : Int), .int (n : Nat)] h = .ok (.lst (ss.map .int)) h) (hm : made.length ≤ 1000) (u8 u9 u10 u11 u12 : Option D) :
    ∃ v8 v9 v10 v11 v12 h', Sms.den cf58 b11_5a_0 (famE kl a n M rs cl (some (.int (t : Nat))) u8 u9 u10 u11 u12) (.lst made :: hs) =
      .nx (famE kl a n M rs cl (some (.int (t : Nat))) v8 v9 v10 v11 v12) (.lst (made ++ [sqT (ren (fP n (t + 1)) rs cl ss)]) :: h') := by
  have hL := LN_eq
  obtain ⟨v11, v12, f1⟩ := fam_rows (kl := kl) (a := a) (H := .lst made :: hs) hc ht hrs hcl hss u11 u12
  refine ⟨some (.int ((t : Nat) + 1)), some (.lst (ss.map .int)), some (.ref (Cell.lst made :: hs).length), v11, v12, hs ++ [.lst ((ren (fP n (t + 1)) rs cl ss).map fun r => .tup (r.map .int))], ?_⟩
  have es' : ∀ h, G fs (glOf cs) xl FUEL 58 10 [kl, .int ((a : Nat) + 18 + 7 * (t : Nat)), .int (n : Nat)] h = .ok (.lst (ss.map .int)) h := fun h => by
    rw [hkl]
    have := es h
    rwa [show ((a + 18 + 7 * t : Nat) : Int) = (a : Nat) + 18 + 7 * (t : Nat) from by omega] at this
  have mu : ∀ fz h, binD .mul fz (.int 7) (.int (t : Nat)) h = .ok (.int (7 * (t : Nat))) h := fun fz h => bin_mul (.inl (by omega))
  have nc : newL false [] (Cell.lst made :: hs) = .ok (.ref (Cell.lst made :: hs).length) ((Cell.lst made :: hs) ++ [.lst []]) := new_cell (by simp)
  have tl := tup_last (H := Cell.lst made :: hs) (xs := (ren (fP n (t + 1)) rs cl ss).map fun r => D.tup (r.map .int)) (fz := true)
  have af := app_first (xs := made) (y := sqT (ren (fP n (t + 1)) rs cl ss)) (h := hs ++ [.lst ((ren (fP n (t + 1)) rs cl ss).map fun r => .tup (r.map .int))]) (by omega)
  obtain ⟨RR, hRR⟩ : ∃ RR, RR = (ren (fP n (t + 1)) rs cl ss).map fun r => D.tup (r.map .int) := ⟨_, rfl⟩
  have hsq : sqT (ren (fP n (t + 1)) rs cl ss) = .tup RR := by rw [hRR]
  rw [hsq] at af ⊢
  rw [← hRR] at f1 tl af ⊢
  obtain ⟨H, hH⟩ : ∃ H, H = Cell.lst made :: hs := ⟨_, rfl⟩
  have hH2 : H ++ [Cell.lst RR] = .lst made :: (hs ++ [.lst RR]) := by rw [hH]; rfl
  rw [← hH] at f1 nc tl ⊢
  rw [← hH2] at af
  have sf : seqOf (H ++ [Cell.lst RR]) (.ref 0) = some (made, true) := by rw [hH2]; rfl
  obtain ⟨q, hq⟩ : ∃ q, q = D.ref H.length := ⟨_, rfl⟩
  rw [← hq] at f1 nc tl ⊢
  unfold b11_5a_0
  simp
  unfold b11_5a_1
  simp [mu, es']
  unfold b11_5a_2
  simp [nc]
  unfold b11_5a_3
  simp only [famE] at f1
  simp [f1]
  unfold b11_5a_4
  simp [tl, af, sf]
end K84
set_option maxHeartbeats 2000000
namespace K84
open PySem PySem.Spec PyProof.Rows L2 Ev
theorem fam_all {ks : List Int} {a : Nat} (ha : a + 46 ≤ ks.length) : ∃ (n M : Nat) (rs cl : List Int) (sg : Nat → List Int), Fmy n M rs cl sg ∧ ∃ ρ' hs, ρ'[6]? = some (some (.ref 0)) ∧
    Sms.den cf58 b11_0 [some (.lst (ks.map .int)), some (.int (a : Nat)), none, none, none, none, none, none, none, none, none, none, none, none, none] [] = Sms.den cf58 b11_6 ρ' (.lst ((fms n M rs cl sg).map sqT) :: hs) := by
  have hL := LN_eq
  obtain ⟨v, hv⟩ : ∃ v, v = at0 ks (a : Nat) % 8 := ⟨_, rfl⟩
  have v0 : 0 ≤ v := by omega
  have v1 : v < 8 := by omega
  have e1 : ∀ h, G fs (glOf cs) xl FUEL 58 6 [.lst (ks.map .int), .int (a : Nat), .int 8] h = .ok (.int v) h := fun h => by
    rw [hv]; exact g_pick (k := 57) (by omega) (by decide) h
  obtain ⟨n, hn, n4⟩ : ∃ n : Nat, at0 [3, 4, 5, 4, 3, 5, 4, 7] v = (n : Nat) ∧ (n = 3 ∨ n = 4 ∨ n = 5 ∨ n = 7) := by
    have : v = 0 ∨ v = 1 ∨ v = 2 ∨ v = 3 ∨ v = 4 ∨ v = 5 ∨ v = 6 ∨ v = 7 := by omega
    rcases this with q | q | q | q | q | q | q | q <;> rw [q]
    · exact ⟨3, rfl, by decide⟩
    · exact ⟨4, rfl, by decide⟩
    · exact ⟨5, rfl, by decide⟩
    · exact ⟨4, rfl, by decide⟩
    · exact ⟨3, rfl, by decide⟩
    · exact ⟨5, rfl, by decide⟩
    · exact ⟨4, rfl, by decide⟩
    · exact ⟨7, rfl, by decide⟩
  have i8 : ∀ h, idxD (.lst [.int 3, .int 4, .int 5, .int 4, .int 3, .int 5, .int 4, .int 7]) (.int v) h = .ok (.int (n : Nat)) h := fun h => by
    rw [← hn]; exact idx_l (xs := [3, 4, 5, 4, 3, 5, 4, 7]) v0 (by simpa using v1)
  have n8 : ∀ h, newL true [D.int 3, .int 4, .int 5, .int 4, .int 3, .int 5, .int 4, .int 7] h = .ok (.lst [.int 3, .int 4, .int 5, .int 4, .int 3, .int 5, .int 4, .int 7]) h := fun h => new_fz (by rw [LN_eq]; simp)
  obtain ⟨mn, hmn⟩ : ∃ mn : Int, mn = if (3 : Int) < (n : Int) - 2 then 3 else (n : Int) - 2 := ⟨_, rfl⟩
  have mn0 : 0 < mn := by rw [hmn]; split <;> omega
  obtain ⟨w, hw⟩ : ∃ w, w = at0 ks ((a + 1 : Nat) : Int) % mn := ⟨_, rfl⟩
  have e2 : ∀ h, G fs (glOf cs) xl FUEL 58 6 [.lst (ks.map .int), .int ((a : Nat) + 1), .int mn] h = .ok (.int w) h := fun h => by
    have := g_pick (k := 57) (ks := ks) (a := a + 1) (m := mn) (by omega) mn0 h
    rw [hw]
    rwa [show ((a + 1 : Nat) : Int) = (a : Nat) + 1 from by omega] at this ⊢
  have w0 : 0 ≤ w := by rw [hw]; exact Int.emod_nonneg _ (by omega)
  have w1 : w < mn := by rw [hw]; exact Int.emod_lt_of_pos _ mn0
  obtain ⟨M, hM⟩ : ∃ M : Nat, (M : Int) = 2 + w := ⟨(2 + w).toNat, by omega⟩
  have hc : FC n M := by
    unfold FC
    rcases n4 with q | q | q | q
    · subst q; rw [if_neg (by decide)] at hmn; omega
    · subst q; rw [if_neg (by decide)] at hmn; omega
    · subst q; rw [if_neg (by decide)] at hmn; omega
    · subst q; rw [if_pos (by decide)] at hmn; omega
  have b := hc.lt
  obtain ⟨rs, hr, er⟩ := g_shuf (k := 57) (ks := ks) (a := a + 2) (n := n) (by omega) (by omega) (by omega)
  obtain ⟨cl, hl, ec⟩ := g_shuf (k := 57) (ks := ks) (a := a + 10) (n := n) (by omega) (by omega) (by omega)
  obtain ⟨sg, hsg⟩ : ∃ sg : Nat → List Int, ∀ t, t < M → (sg t).Perm (rng n) ∧ ∀ h, GG 58 10 [.lst (ks.map .int), .int ((a + 18 + 7 * t : Nat) : Int), .int (n : Nat)] h = .ok (.lst ((sg t).map .int)) h :=
    Classical.axiomOfChoice (r := fun (t : Nat) (ss : List Int) => t < M → ss.Perm (rng n) ∧ ∀ h, GG 58 10 [.lst (ks.map .int), .int ((a + 18 + 7 * t : Nat) : Int), .int (n : Nat)] h = .ok (.lst (ss.map .int)) h) fun t => by
      by_cases h : t < M
      · obtain ⟨ss, q1, q2⟩ := g_shuf (k := 57) (ks := ks) (a := a + 18 + 7 * t) (n := n) (by omega) (by omega) (by omega)
        exact ⟨ss, fun _ => ⟨q1, q2⟩⟩
      · exact ⟨[], fun z => absurd z h⟩
  have er' : ∀ h, G fs (glOf cs) xl FUEL 58 10 [.lst (ks.map .int), .int ((a : Nat) + 2), .int (n : Nat)] h = .ok (.lst (rs.map .int)) h := er
  have ec' : ∀ h, G fs (glOf cs) xl FUEL 58 10 [.lst (ks.map .int), .int ((a : Nat) + 10), .int (n : Nat)] h = .ok (.lst (cl.map .int)) h := ec
  obtain ⟨kl, hkl⟩ : ∃ kl, kl = D.lst (ks.map .int) := ⟨_, rfl⟩
  obtain ⟨ρ', h', f1, v7, v8, v9, v10, v11, v12, hs, rfl, rfl⟩ := for_rng (c := cf58) (b := Sms.den cf58 b11_5a_0) (i := 7) M (fun j ρ h => ∃ v7 v8 v9 v10 v11 v12 hs, ρ = famE kl a n M rs cl v7 v8 v9 v10 v11 v12 ∧ h = .lst (((List.range j).map fun t => ren (fP n (t + 1)) rs cl (sg t)).map sqT) :: hs)
    (ρ := famE kl a n M rs cl none none none none none none) (h := [.lst []]) ⟨none, none, none, none, none, none, [], rfl, rfl⟩ (fun j ρ h hj ⟨v7, v8, v9, v10, v11, v12, hs, q1, q2⟩ => by
    subst q1 q2
    obtain ⟨w8, w9, w10, w11, w12, h', q⟩ := fam_turn (kl := kl) (made := ((List.range j).map fun t => ren (fP n (t + 1)) rs cl (sg t)).map sqT) (hs := hs) hkl hc hj hr hl (hsg j hj).1 (hsg j hj).2 (by rw [List.length_map, List.length_map, List.length_range]; omega) v8 v9 v10 v11 v12
    refine ⟨by simp, _, _, q, _, _, _, _, _, _, h', rfl, ?_⟩
    rw [List.range_succ, List.map_append, List.map_append]; rfl)
  refine ⟨n, M, rs, cl, sg, ⟨hc, hr, hl, fun t ht => (hsg t ht).1⟩, famE kl a n M rs cl v7 v8 v9 v10 v11 v12, hs, rfl, ?_⟩
  have nM : -(LN : Int) ≤ (M : Int) ∧ (M : Int) ≤ LN := by omega
  rw [← hkl] at e1 e2 er' ec' ⊢
  have nc : newL false [] ([] : Hs) = .ok (.ref 0) [.lst []] := new_cell (by simp)
  have mn' : ∀ fz h, primD .min2 fz [.int ((n : Nat) - 2), .int 3] h = .ok (.int mn) h := fun fz h => by rw [hmn]; rfl
  unfold b11_0
  simp [e1, n8, i8]
  unfold b11_1
  simp [-pr_min2, mn', e2, ← hM]
  unfold b11_2
  simp [er']
  unfold b11_3
  simp [ec']
  unfold b11_4
  simp [nc]
  unfold b11_5
  simp only [famE] at f1
  simp [nM]
  rw [f1, tn_nx]
  rfl
end K84
set_option maxHeartbeats 2000000
namespace K84
open PySem PySem.Spec PyProof.Rows L2 Ev
/-! words: what the defs give -/
theorem g_family {ks : List Int} (hk : 46 ≤ ks.length) : ∃ (n M : Nat) (rs cl : List Int) (sg : Nat → List Int), Fmy n M rs cl sg ∧ ∀ h, GG 59 11 [.lst (ks.map .int), .int 0] h = .ok (.lst ((fms n M rs cl sg).map sqT)) h := by
  obtain ⟨n, M, rs, cl, sg, F, ρ', hs, h6, e⟩ := fam_all (ks := ks) (a := 0) (by omega)
  refine ⟨n, M, rs, cl, sg, F, fun h => G_ok (n := 58) (f := f11) rfl rfl (by show (_ && (_ && true)) = true; rw [show (D.lst (ks.map .int)).pure = true from pures_ints ks]; rfl) ⟨.dead :: hs, ?_⟩ (pures_map sqT_pure _)⟩
  refine Eq.trans e ?_
  have fr : freezeD (.ref 0) (.lst ((fms n M rs cl sg).map sqT) :: hs) = .ok (.lst ((fms n M rs cl sg).map sqT)) (.dead :: hs) := by
    show (if D.pures ((fms n M rs cl sg).map sqT) = true then _ else _) = _
    rw [if_pos (pures_map sqT_pure _)]; rfl
  unfold b11_6
  generalize (fms n M rs cl sg).map sqT = xs at *
  simp [h6, fr]
abbrev wdsD (ms : List (List (List Int))) (N : Nat) : D := .lst ((words ms N).map fun w => .tup (w.map .int))
theorem wds_eq (ms : List (List (List Int))) (N : Nat) : ((List.range N).flatMap fun r => (List.range N).map fun c => D.tup ((word ms r c).map .int)) = (words ms N).map fun w => .tup (w.map .int) := by
  unfold words
  rw [List.map_flatMap]
  congr 1
  funext r
  rw [List.map_map]; rfl
theorem wds_pure (ms : List (List (List Int))) (N : Nat) : (wdsD ms N).pure = true := pures_map (f := fun w : List Int => D.tup (w.map .int)) (fun w => pures_ints w) _
theorem flat_len {α β : Type} (g : α → List β) (N : Nat) (h : ∀ x, (g x).length = N) : ∀ xs : List α, (xs.flatMap g).length = xs.length * N
  | [] => by rw [List.flatMap_nil, List.length_nil, List.length_nil, Nat.zero_mul]
  | x :: xs => by rw [List.flatMap_cons, List.length_append, h, flat_len g N h xs, List.length_cons, Nat.succ_mul, Nat.add_comm]
/-- the squares' signs at one place -/
theorem lc_cel {c : Cfg} {x : Str} {i a b l : Nat} {ρ : Ev.Env} {h : Hs} {ms : List (List (List Int))} {N r s : Nat} (hi : i < ρ.length) (hl : ms.length ≤ 100) (hs : ∀ m ∈ ms, Sq m ∧ m.length = N) (hr : r < N) (hc : s < N)
    (ea : ∀ d, (ρ.set i (some d))[a]? = some (some (.int (r : Nat)))) (eb : ∀ d, (ρ.set i (some d))[b]? = some (some (.int (s : Nat)))) (el : ρ[l]? = some (some (.lst (ms.map sqT)))) :
    (Ex.dt c (.lc true [(x, i)] (.name i) (.seq (.var l)) .nil (.idx (.idx (.var i) (.var a)) (.var b)))).1 ρ h = .ok (.lst ((ms.map fun m => cel m r s).map .int)) h := by
  have hL := LN_eq
  rw [List.map_map]
  refine lc_denF sqT (fun m => D.int (cel m r s)) ms hi (by omega) (by rw [it_seq, den_var, el]; rfl) fun m hm => ?_
  obtain ⟨S, hn⟩ := hs m hm
  have i1 : ∀ h, idxD (sqT m) (.int (r : Nat)) h = .ok (rowU true (m.getD r [])) h := fun h => idx_sq (t := true) (u := true) (by omega)
  have i2 : ∀ h, idxD (rowU true (m.getD r [])) (.int (s : Nat)) h = .ok (.int (cel m r s)) h := fun h => idx_row (by rw [S.w (by omega)]; omega)
  have es : (ρ.set i (some (sqT m)))[i]? = some (some (sqT m)) := by rw [List.getElem?_set_self hi]
  simp only [den_idx, den_var, es, ea, eb, bd_ok, i1, i2]
theorem g_words {k : Nat} {ms : List (List (List Int))} {N : Nat} (hm : ms ≠ []) (hl : ms.length ≤ 90) (hN : N ≤ 12) (hs : ∀ m ∈ ms, Sq m ∧ m.length = N) (h : Hs) : GG (k + 1) 12 [.lst (ms.map sqT)] h = .ok (wdsD ms N) h := by
  have hL := LN_eq
  have pm : (D.lst (ms.map sqT)).pure = true := pures_map sqT_pure ms
  have pw : (wdsD ms N).pure = true := wds_pure ms N
  obtain ⟨m0, hm0⟩ : ∃ m0, ms[0]? = some m0 := by
    cases ms with
    | nil => exact absurd rfl hm
    | cons m _ => exact ⟨m, rfl⟩
  have hM0 := hs m0 (List.mem_of_getElem? hm0)
  have ml : 0 < ms.length := (List.getElem?_eq_some_iff.mp hm0).1
  have i0 : ∀ h, idxD (.lst (ms.map sqT)) (.int 0) h = .ok (sqT m0) h := fun h => by
    have := idx_lN (xs := ms.map sqT) (r := 0) (h := h) (by rw [List.length_map]; exact ml)
    rw [getD_map ml []] at this
    rw [List.getD_eq_getElem?_getD, hm0] at this
    exact this
  have l0 : ∀ fz h, primD .len fz [sqT m0] h = .ok (.int (N : Nat)) h := fun fz h => by rw [← hM0.2]; exact len_sq (t := true) (u := true)
  have rg : -(LN : Int) ≤ (N : Int) ∧ (N : Int) ≤ LN := by omega
  let E : Option D → Option D → Ev.Env := fun u v => [some (.lst (ms.map sqT)), some (.int (N : Nat)), some (.ref 0), u, v, none]
  have inn : ∀ r, r < N → ∀ v xs, xs.length ≤ 1000 → ∃ v', forD (Tg.den (cfg k) (.name 4)) (Sms.den (cfg k) b12_2a_0a_0) ((List.range N).map fun c => D.int (c : Nat)) (E (some (.int (r : Nat))) v) [.lst xs] = .nx (E (some (.int (r : Nat))) v') [.lst (xs ++ (List.range N).map fun c => D.tup ((word ms r c).map .int))] := fun r hr v xs hx => by
    obtain ⟨ρ', h', f1, v', rfl, rfl⟩ := for_rng (c := cfg k) (b := Sms.den (cfg k) b12_2a_0a_0) (i := 4) N (fun j ρ h => ∃ v, ρ = E (some (.int (r : Nat))) v ∧ h = [.lst (xs ++ (List.range j).map fun c => D.tup ((word ms r c).map .int))]) (ρ := E (some (.int (r : Nat))) v) (h := [.lst xs]) ⟨v, rfl, by simp⟩ (fun j ρ h hj ⟨v, e1, e2⟩ => by
      subst e1 e2
      refine ⟨by simp [E], E (some (.int (r : Nat))) (some (.int (j : Nat))), [.lst (xs ++ (List.range (j + 1)).map fun c => D.tup ((word ms r c).map .int))], ?_, ⟨_, rfl, rfl⟩⟩
      obtain ⟨ys, hys⟩ : ∃ ys, ys = xs ++ (List.range j).map fun c => D.tup ((word ms r c).map .int) := ⟨_, rfl⟩
      have yl : ys.length ≤ 1012 := by rw [hys, List.length_append, List.length_map, List.length_range]; omega
      rw [← hys]
      have lcq := fun h => lc_cel (c := cfg k) (x := "_law_square") (i := 5) (a := 3) (b := 4) (l := 0) (ρ := E (some (.int (r : Nat))) (some (.int (j : Nat)))) (h := h) (by simp [E]) (by omega) hs hr hj (fun _ => rfl) (fun _ => rfl) rfl
      have ll : ((ms.map fun m => cel m r j).map D.int).length = ms.length := by rw [List.length_map, List.length_map]
      have e : (word ms r j).map D.int = [.int (r : Nat), .int (j : Nat)] ++ (ms.map fun m => cel m r j).map .int := rfl
      have ad : ∀ h, binD .add true (.tup [.int (r : Nat), .int (j : Nat)]) (.tup ((ms.map fun m => cel m r j).map .int)) h = .ok (.tup ((word ms r j).map .int)) h := fun h => by
        rw [e]; exact add_tt (by rw [ll]; show 2 + ms.length ≤ LN; omega) (by simp) (by rw [ll]; exact ml)
      have tp : ∀ h, primD .tupleOf true [.lst ((ms.map fun m => cel m r j).map .int)] h = .ok (.tup ((ms.map fun m => cel m r j).map .int)) h := fun h => rfl
      have ap := app_first (xs := ys) (y := .tup ((word ms r j).map .int)) (h := []) (by omega)
      have sn : xs ++ (List.range (j + 1)).map (fun c => D.tup ((word ms r c).map .int)) = ys ++ [.tup ((word ms r j).map .int)] := by
        rw [hys, List.range_succ, List.map_append, List.append_assoc]; rfl
      have st : (E (some (.int (r : Nat))) v).set 4 (some (.int (j : Nat))) = E (some (.int (r : Nat))) (some (.int (j : Nat))) := rfl
      rw [sn, st]
      have l2 : 2 ≤ LN := by omega
      have sq : seqOf ([.lst ys] : Hs) (.ref 0) = some (ys, true) := rfl
      simp only [E] at lcq ⊢
      generalize D.tup ((word ms r j).map D.int) = wt at *
      generalize (ms.map fun m => cel m r j).map D.int = zs at *
      generalize D.lst (ms.map sqT) = md at *
      unfold b12_2a_0a_0
      simp [-den_lc, lcq, tp, ad, ap, l2, sq])
    exact ⟨v', f1⟩
  obtain ⟨ρ', h', f1, u', v', rfl, rfl⟩ := for_rng (c := cfg k) (b := Sms.den (cfg k) b12_2a_0) (i := 3) N (fun j ρ h => ∃ u v, ρ = E u v ∧ h = [.lst ((List.range j).flatMap fun r => (List.range N).map fun c => D.tup ((word ms r c).map .int))]) (ρ := E none none) (h := [.lst []]) ⟨none, none, rfl, rfl⟩ (fun j ρ h hj ⟨u, v, e1, e2⟩ => by
    subst e1 e2
    have fl : ((List.range j).flatMap fun r => (List.range N).map fun c => D.tup ((word ms r c).map .int)).length ≤ 1000 := by
      have : ((List.range j).flatMap fun r => (List.range N).map fun c => D.tup ((word ms r c).map .int)).length = j * N := by
        rw [flat_len _ N (fun _ => by rw [List.length_map, List.length_range]), List.length_range]
      have h2 : j * N ≤ 12 * 12 := Nat.mul_le_mul (by omega) hN
      omega
    obtain ⟨v', q⟩ := inn j hj v _ fl
    refine ⟨by simp [E], E (some (.int (j : Nat))) v', _, ?_, ⟨_, _, rfl, rfl⟩⟩
    have st : (E u v).set 3 (some (.int (j : Nat))) = E (some (.int (j : Nat))) v := rfl
    have sn : ((List.range (j + 1)).flatMap fun r => (List.range N).map fun c => D.tup ((word ms r c).map .int)) = ((List.range j).flatMap fun r => (List.range N).map fun c => D.tup ((word ms r c).map .int)) ++ (List.range N).map fun c => D.tup ((word ms j c).map .int) := by
      rw [List.range_succ, List.flatMap_append, List.flatMap_cons, List.flatMap_nil, List.append_nil]
    rw [st, sn]
    generalize ((List.range j).flatMap fun r => (List.range N).map fun c => D.tup ((word ms r c).map .int)) = z1 at *
    generalize z1 ++ (List.range N).map (fun c => D.tup ((word ms j c).map .int)) = z2 at *
    simp only [E] at q ⊢
    generalize D.lst (ms.map sqT) = md at *
    unfold b12_2a_0
    simp [rg]
    rw [q, tn_nx])
  rw [wds_eq] at f1
  refine G_ok (n := k) (f := f12) rfl rfl (by show (_ && true) = true; rw [pm]; rfl) ⟨[.dead], ?_⟩ pw
  show Sms.den (cfg k) b12_0 [some (.lst (ms.map sqT)), none, none, none, none, none] [] = _
  have fr : freezeD (.ref 0) [.lst ((words ms N).map fun w => .tup (w.map .int))] = .ok (wdsD ms N) [.dead] := by
    show (if D.pures ((words ms N).map fun w => D.tup (w.map .int)) = true then _ else _) = _
    rw [if_pos (show D.pures ((words ms N).map fun w => D.tup (w.map .int)) = true from pw)]; rfl
  have nc : newL false [] ([] : Hs) = .ok (.ref 0) [.lst []] := new_cell (by simp)
  simp only [E] at f1
  generalize wdsD ms N = wd at *
  generalize (words ms N).map (fun w => D.tup (w.map D.int)) = wl at *
  generalize D.lst (ms.map sqT) = md at *
  generalize sqT m0 = d0 at *
  unfold b12_0
  simp [i0, l0]
  unfold b12_1
  simp [nc]
  unfold b12_2
  simp [rg]
  rw [f1, tn_nx]
  unfold b12_3
  simp [fr]
/-! words of a family -/
section
variable {n M : Nat} {rs cl : List Int} {sg : Nat → List Int} (F : Fmy n M rs cl sg)
include F
theorem fms_sq : ∀ m ∈ fms n M rs cl sg, Sq m ∧ m.length = n := fun m hm => ⟨⟨(F.sq m hm).1⟩, (F.sq m hm).2⟩
theorem fms_ne : fms n M rs cl sg ≠ [] := fun z => by
  have := fms_len (n := n) (M := M) (rs := rs) (cl := cl) (sg := sg)
  rw [z] at this
  have := F.c.lt
  simp at *
  omega
theorem words_in : ∀ w ∈ words (fms n M rs cl sg) n, w.length = M + 2 ∧ ∀ x ∈ w, 0 ≤ x ∧ x < n := fun w hw => by
  unfold words at hw
  obtain ⟨r, hr, hw⟩ := List.mem_flatMap.mp hw
  obtain ⟨c, hc, rfl⟩ := List.mem_map.mp hw
  have hr := List.mem_range.mp hr
  have hc := List.mem_range.mp hc
  refine ⟨by rw [word_len, fms_len], fun x hx => ?_⟩
  unfold word at hx
  rcases List.mem_cons.mp hx with rfl | hx
  · omega
  rcases List.mem_cons.mp hx with rfl | hx
  · omega
  obtain ⟨m, hm, rfl⟩ := List.mem_map.mp hx
  obtain ⟨b, l⟩ := F.sq m hm
  have L := (lat_of b).1
  rw [l] at L
  exact cel_in L hr hc
end
end K84
set_option maxHeartbeats 2000000
namespace K84
open PySem PySem.Spec PyProof.Rows L2 Ev
/-! arrays kept; rows that show a pair twice; words that agree twice (laws k84, k79) -/
theorem ka_1 {k : Nat} {n w : Int} {rd fd : D} (ll : ∀ fz h, primD .len fz [fd] h = .ok (.int w) h) (bm : ∀ fz h, binD .mul fz (.int n) (.int n) h = .ok (.int w) h) (mo : glOf cs "MOST_ORDER" = some (.int 12)) (n1 : 1 ≤ n) (n2 : n ≤ 12) :
    Sm.den (cfg k) (hdS b2_1) [some (.int n), some rd, some fd, none, none] [] = .nx [some (.int n), some rd, some fd, none, none] [] := by
  have e1 : (Ex.dt (cfg k) (.chain .le .le (.cint 1) (.var 0) (.glob ("MOST_ORDER" : Str)))).1 [some (.int n), some rd, some fd, none, none] [] = .ok (.bl true) [] := by
    simp [mo, n1, n2]
  have e2 : (Ex.dt (cfg k) (.cmp .ne (.prim .len true (.cons (.var 2) .nil)) (.bin .mul true (.var 0) (.var 0)))).1 [some (.int n), some rd, some fd, none, none] [] = .ok (.bl false) [] := by
    simp [ll, bm]
  exact ite_F ((or_F (not_B (t_chain e1))).trans (t_cmp e2))
theorem ka_2 {k : Nat} {n l : Int} {rd fd g2 x1 : D} (i0 : ∀ h, idxD fd (.int 0) h = .ok g2 h) (l0 : ∀ fz h, primD .len fz [g2] h = .ok (.int l) h) (nl : ¬ l < 2)
    (LC2 : (Ex.dt (cfg k) (.lc true [(("row" : Str), 3)] (.name 3) (.seq (.var 2)) .nil (.cmp .ne (.prim .len true (.cons (.var 3) .nil)) (.prim .len true (.cons (.idx (.var 2) (.cint 0)) .nil))))).1 [some (.int n), some rd, some fd, none, none] [] = .ok x1 []) (AN : primD .any true [x1] [] = .ok (.bl false) []) :
    Sm.den (cfg k) (hdS b2_2) [some (.int n), some rd, some fd, none, none] [] = .nx [some (.int n), some rd, some fd, none, none] [] := by
  have e1 : (Ex.dt (cfg k) (.cmp .lt (.prim .len true (.cons (.idx (.var 2) (.cint 0)) .nil)) (.cint 2))).1 [some (.int n), some rd, some fd, none, none] [] = .ok (.bl false) [] := by
    simp [i0, l0, nl]
  have e2 : (Ex.dt (cfg k) (.prim .any true (.cons (.lc true [(("row" : Str), 3)] (.name 3) (.seq (.var 2)) .nil (.cmp .ne (.prim .len true (.cons (.var 3) .nil)) (.prim .len true (.cons (.idx (.var 2) (.cint 0)) .nil)))) .nil))).1 [some (.int n), some rd, some fd, none, none] [] = .ok (.bl false) [] := by
    rw [den_prim, dens_cons, LC2, bd_ok, dens_nil, bd_ok, bd_ok, AN]
  exact ite_F ((or_F (t_cmp e1)).trans (t_prim e2))
theorem ka_3 {k : Nat} {n : Int} {rd fd x2 : D}
    (LC3 : (Ex.dt (cfg k) (.lc2 true [(("row" : Str), 3), (("sign" : Str), 4)] [4] (.name 3) (.seq (.var 2)) (.name 4) (.seq (.var 3)) .nil (.chain .le .lt (.cint 0) (.var 4) (.var 0)))).1 [some (.int n), some rd, some fd, none, none] [] = .ok x2 []) (AL : primD .all true [x2] [] = .ok (.bl true) []) :
    Sm.den (cfg k) (hdS b2_3) [some (.int n), some rd, some fd, none, none] [] = .nx [some (.int n), some rd, some fd, none, none] [] := by
  have e2 : (Ex.dt (cfg k) (.prim .all true (.cons (.lc2 true [(("row" : Str), 3), (("sign" : Str), 4)] [4] (.name 3) (.seq (.var 2)) (.name 4) (.seq (.var 3)) .nil (.chain .le .lt (.cint 0) (.var 4) (.var 0))) .nil))).1 [some (.int n), some rd, some fd, none, none] [] = .ok (.bl true) [] := by
    rw [den_prim, dens_cons, LC3, bd_ok, dens_nil, bd_ok, bd_ok, AL]
  exact ite_F (not_B (t_prim e2))
theorem g_keptarr {k n l : Nat} {t u : Bool} {W : List (List Int)} (Z : WW n l W) (h : Hs) : GG (k + 1) 2 [.int (n : Nat), sqD t u W] h = .ok (sqD false true W) h := by
  have hL := LN_eq
  obtain ⟨wl, w0⟩ := Z.nn
  obtain ⟨rd, hrd⟩ : ∃ d, d = sqD t u W := ⟨_, rfl⟩
  obtain ⟨fd, hfd⟩ : ∃ d, d = sqD false true W := ⟨_, rfl⟩
  have pr : rd.pure = true := by rw [hrd]; exact sqD_pure t u W
  have LC : (Ex.dt (cfg k) (.lc true [(("row" : Str), 3)] (.name 3) (.seq (.var 1)) .nil (.prim .tupleOf true (.cons (.var 3) .nil)))).1 [some (.int (n : Nat)), some rd, none, none, none] [] = .ok fd [] := by
    rw [hrd, hfd]
    exact lc_denF (rowU u) (rowU true) W (by simp) (by omega) (it_sqD rfl) fun r _ => by
      have e : ∀ h, primD .tupleOf true [rowU u r] h = .ok (rowU true r) h := fun h => pr_tupU r h
      generalize rowU u r = g1 at *
      generalize rowU true r = g2 at *
      simp [e]
  have i0 : ∀ h, idxD fd (.int 0) h = .ok (rowU true (W.getD 0 [])) h := fun h => by
    have := idx_sq (t := false) (u := true) (m := W) (r := 0) (h := h) w0
    rw [hfd]; exact this
  have lr : ∀ (w : List Int) fz h, w ∈ W → primD .len fz [rowU true w] h = .ok (.int (l : Nat)) h := fun w fz h hw => by rw [len_row, Z.row w hw]
  have l0 : ∀ fz h, primD .len fz [rowU true (W.getD 0 [])] h = .ok (.int (l : Nat)) h := fun fz h => lr _ fz h (Z.at w0).1
  have ll : ∀ fz h, primD .len fz [fd] h = .ok (.int (W.length : Nat)) h := fun fz h => by rw [hfd, len_sq]
  have LC2 : (Ex.dt (cfg k) (.lc true [(("row" : Str), 3)] (.name 3) (.seq (.var 2)) .nil (.cmp .ne (.prim .len true (.cons (.var 3) .nil)) (.prim .len true (.cons (.idx (.var 2) (.cint 0)) .nil))))).1 [some (.int (n : Nat)), some rd, some fd, none, none] [] = .ok (.lst (W.map fun _ => D.bl false)) [] :=
    lc_denF (rowU true) (fun _ => D.bl false) W (by simp) (by omega) (by rw [hfd]; exact it_sqD rfl) fun w hw => by
      have l1 := fun fz h => lr w fz h hw
      generalize rowU true w = g1 at *
      generalize rowU true (W.getD 0 []) = g2 at *
      simp [i0, l1, l0]
  have AN : primD .any true [.lst (W.map fun _ => D.bl false)] [] = .ok (.bl false) [] := any_no fun x hx => by
    obtain ⟨_, _, rfl⟩ := List.mem_map.mp hx; rfl
  have LC3 : (Ex.dt (cfg k) (.lc2 true [(("row" : Str), 3), (("sign" : Str), 4)] [4] (.name 3) (.seq (.var 2)) (.name 4) (.seq (.var 3)) .nil (.chain .le .lt (.cint 0) (.var 4) (.var 0)))).1 [some (.int (n : Nat)), some rd, some fd, none, none] [] = .ok (.lst (W.flatMap fun w => w.map fun _ => D.bl true)) [] := by
    have fl : ∀ us : List (List Int), (∀ w ∈ us, w.length = l) → (us.flatMap fun w => w).length = us.length * l := fun us => by
      induction us with
      | nil => intro _; simp
      | cons u us ih => intro hu; rw [List.flatMap_cons, List.length_append, ih (fun w hw => hu w (List.mem_cons_of_mem _ hw)), hu u List.mem_cons_self, List.length_cons, Nat.succ_mul, Nat.add_comm]
    refine lc2G (c := cfg k) (own := [(("row" : Str), 3), (("sign" : Str), 4)]) (vs1 := [4]) (tg := .name 3) (tg1 := .name 4) (it := .seq (.var 2)) (it1 := .seq (.var 3)) (elt := .chain .le .lt (.cint 0) (.var 4) (.var 0)) (ρ := [some (.int (n : Nat)), some rd, some fd, none, none]) (h := [])
      (rowU true) (fun w => [some (.int (n : Nat)), some rd, some fd, some (rowU true w), none]) D.int (fun w y => [some (.int (n : Nat)), some rd, some fd, some (rowU true w), some (.int y)]) W (fun w => w) (fun _ _ => D.bl true)
      (by rw [hfd]; exact it_sqD rfl) (fun w _ => by simp [wipeE]) (fun w _ => rfl) (fun w _ y _ => by simp [wipeE]) (fun w hw y hy => ?_) ?_
    · obtain ⟨v0, v1⟩ := Z.inn w hw y hy
      generalize rowU true w = g1 at *
      simp [v0, v1]
    · rw [fl W Z.row]
      have : W.length * l ≤ 144 * 90 := Nat.mul_le_mul wl Z.l90
      omega
  have AL : primD .all true [.lst (W.flatMap fun w => w.map fun _ => D.bl true)] [] = .ok (.bl true) [] := all_yes fun x hx => by
    obtain ⟨w, _, hx⟩ := List.mem_flatMap.mp hx
    obtain ⟨_, _, rfl⟩ := List.mem_map.mp hx; rfl
  have mo : glOf cs "MOST_ORDER" = some (.int 12) := rfl
  have n1 : (1 : Int) ≤ (n : Int) := by have := Z.n1; omega
  have n2 : (n : Int) ≤ 12 := by have := Z.n12; omega
  have bm : ∀ fz h, binD .mul fz (.int (n : Nat)) (.int (n : Nat)) h = .ok (.int (W.length : Nat)) h := fun fz h => by rw [bin_mul (by omega), Z.len]; rfl
  have nl : ¬ ((l : Int) < 2) := by have := Z.l2; omega
  rw [← hrd, ← hfd]
  refine G_ok (n := k) (f := f2) rfl rfl (by show (true && (rd.pure && true)) = true; rw [pr]; rfl) ⟨[], ?_⟩ (by rw [hfd]; exact sqD_pure _ _ _)
  show Sms.den (cfg k) b2_0 [some (.int (n : Nat)), some rd, none, none, none] [] = _
  generalize (W.map fun _ => D.bl false) = x1 at *
  generalize (W.flatMap fun w => w.map fun _ => D.bl true) = x2 at *
  generalize rowU true (W.getD 0 []) = g2 at *
  generalize ((n : Nat) : Int) = ni at *
  generalize ((W.length : Nat) : Int) = wi at *
  generalize ((l : Nat) : Int) = li at *
  refine (stepS (b' := b2_1) (s := hdS b2_0) (ρ' := [some (.int ni), some rd, some fd, none, none]) (h' := []) rfl (by
    show Sm.den _ (.set 2 (.lc true _ _ _ _ _)) _ _ = _
    rw [sm_set, LC, gq_ok]; rfl)).trans ?_
  refine (stepS (b' := b2_2) rfl (ka_1 ll bm mo n1 n2)).trans ((stepS (b' := b2_3) rfl (ka_2 i0 l0 nl LC2 AN)).trans ((stepS (b' := b2_4) rfl (ka_3 LC3 AL)).trans ?_))
  unfold b2_4
  simp
/-- one pair of columns -/
abbrev afE (od rd fd : D) (x y : Nat) (q : Nat) (u6 u7 u8 : Option D) : Ev.Env := [some od, some rd, some fd, some (.int (x : Nat)), some (.int (y : Nat)), some (.ref q), u6, u7, u8]
theorem af_in {c : Cfg} {od rd fd : D} {n l : Nat} {W : List (List Int)} (Z : WW n l W) {x y : Nat} (hx : x < l) (hy : y < l) {H : Hs} : ∀ (js : List Nat) (s : SpN), (∀ j ∈ js, j < W.length) → s.length + js.length < LN → ∀ u6 u7 u8, ∃ u6' u7' u8' h',
    forD (Tg.den c (.tup (.cons (.name 6) (.cons (.name 7) .nil)))) (Sms.den c b3_1a_0a_1a_0) (js.map fun j => D.tup [.int (j : Nat), rowU true (W.getD j [])]) (afE od rd fd x y H.length u6 u7 u8) (H ++ [.dct true (toKP s)]) =
      match scnP (pairW W x y) js s with
      | .inl (a, b) => .ret (.tup ([(x : Int), (y : Int), (a : Int), (b : Int)].map .int)) h'
      | .inr _ => .nx (afE od rd fd x y H.length u6' u7' u8') h'
  | [], s, _, _, u6, u7, u8 => ⟨u6, u7, u8, _, rfl⟩
  | j :: js, s, hj, hl, u6, u7, u8 => by
    have hL := LN_eq
    have jl := hj j List.mem_cons_self
    obtain ⟨wm, wl⟩ := Z.at jl
    have i1 : ∀ h, idxD (rowU true (W.getD j [])) (.int (x : Nat)) h = .ok (.int ((W.getD j []).getD x 0)) h := fun h => idx_row (by omega)
    have i2 : ∀ h, idxD (rowU true (W.getD j [])) (.int (y : Nat)) h = .ok (.int ((W.getD j []).getD y 0)) h := fun h => idx_row (by omega)
    have at1 : (H ++ [Cell.dct true (toKP s)])[H.length]? = some (.dct true (toKP s)) := cell_at _ _
    have sl : s.length < LN := by simp at hl; omega
    have k1 := in_kp s ((W.getD j []).getD x 0) ((W.getD j []).getD y 0) at1
    have tg : Tg.den c (.tup (.cons (.name 6) (.cons (.name 7) .nil))) (.tup [.int (j : Nat), rowU true (W.getD j [])]) (afE od rd fd x y H.length u6 u7 u8) (H ++ [Cell.dct true (toKP s)]) = .nx (afE od rd fd x y H.length (some (.int (j : Nat))) (some (rowU true (W.getD j []))) u8) (H ++ [Cell.dct true (toKP s)]) := by simp
    rw [List.map_cons]
    unfold forD scnP
    rw [tg]
    dsimp only
    have pe : pairW W x y j = ((W.getD j []).getD x 0, (W.getD j []).getD y 0) := rfl
    rw [pe]
    generalize (W.getD j []).getD x 0 = v1 at *
    generalize (W.getD j []).getD y 0 = v2 at *
    generalize rowU true (W.getD j []) = wd at *
    have l2 : 2 ≤ LN := by omega
    have l4 : 4 ≤ LN := by omega
    cases el : s.lookup (v1, v2) with
    | some p =>
      have k2 := get_kp s v1 v2 el at1
      rw [el] at k1
      refine ⟨u6, u7, u8, H ++ [Cell.dct true (toKP s)], ?_⟩
      have st : Sms.den c b3_1a_0a_1a_0 (afE od rd fd x y H.length (some (.int (j : Nat))) (some wd) u8) (H ++ [Cell.dct true (toKP s)]) = .ret (.tup ([(x : Int), (y : Int), (p : Int), (j : Int)].map .int)) (H ++ [Cell.dct true (toKP s)]) := by
        generalize H ++ [Cell.dct true (toKP s)] = HH at *
        unfold b3_1a_0a_1a_0
        simp [i1, i2, l2]
        unfold b3_1a_0a_1a_1 b3_1a_0a_1a_1a_0
        simp [k1, k2, l4]
      rw [st]
    | none =>
      have k3 := set_kp s v1 v2 (r := j) el sl at1
      rw [el] at k1
      have e2 : (H ++ [Cell.dct true (toKP s)]).set H.length (.dct true (toKP (s ++ [((v1, v2), j)]))) = H ++ [Cell.dct true (toKP (s ++ [((v1, v2), j)]))] := by
        rw [List.set_append_right _ _ (Nat.le_refl _), Nat.sub_self]; rfl
      rw [e2] at k3
      have st : Sms.den c b3_1a_0a_1a_0 (afE od rd fd x y H.length (some (.int (j : Nat))) (some wd) u8) (H ++ [Cell.dct true (toKP s)]) = .nx (afE od rd fd x y H.length (some (.int (j : Nat))) (some wd) (some (.tup [.int v1, .int v2]))) (H ++ [Cell.dct true (toKP (s ++ [((v1, v2), j)]))]) := by
        generalize H ++ [Cell.dct true (toKP s)] = HH at *
        generalize H ++ [Cell.dct true (toKP (s ++ [((v1, v2), j)]))] = HH2 at *
        unfold b3_1a_0a_1a_0
        simp [i1, i2, l2]
        unfold b3_1a_0a_1a_1
        simp [k1]
        unfold b3_1a_0a_1a_2
        simp [k3]
      rw [st]
      dsimp only
      exact af_in Z hx hy js (s ++ [((v1, v2), j)]) (fun i hi => hj i (List.mem_cons_of_mem _ hi)) (by simp at hl ⊢; omega) _ _ _
abbrev aE (od rd fd : D) (u3 u4 u5 u6 u7 u8 : Option D) : Ev.Env := [some od, some rd, some fd, u3, u4, u5, u6, u7, u8]
theorem af_enum {c : Cfg} {W : List (List Int)} {fd : D} (hfd : fd = sqD false true W) : ∀ ρ h, ρ[2]? = some (some fd) → Itx.den c (.enum (.var 2)) ρ h = .ok ((List.range W.length).map fun j : Nat => D.tup [.int (j : Nat), rowU true (W.getD j [])]) h := fun ρ h e => by
  rw [it_enum, den_var, e, hfd]
  have q := enum0 (xs := W.map (rowU true))
  rw [List.length_map] at q
  show R.ok (List.zipWith _ (List.range (W.map (rowU true)).length) (W.map (rowU true))) h = _
  rw [List.length_map, q]
  congr 1
  refine List.map_congr_left fun j hj => ?_
  rw [getD_map (List.mem_range.mp hj) []]
theorem af_y {c : Cfg} {od rd fd : D} {n l : Nat} {W : List (List Int)} (hfd : fd = sqD false true W) (Z : WW n l W) {x y : Nat} (hx : x < l) (hy : y < l) {u5 u6 u7 u8 : Option D} {h : Hs} :
    (∃ z, pfS W x y = some z ∧ ∃ h', Sms.den c b3_1a_0a_0 (aE od rd fd (some (.int (x : Nat))) (some (.int (y : Nat))) u5 u6 u7 u8) h = .ret (.tup (z.map .int)) h') ∨
    (pfS W x y = none ∧ ∃ u5' u6' u7' u8' h', Sms.den c b3_1a_0a_0 (aE od rd fd (some (.int (x : Nat))) (some (.int (y : Nat))) u5 u6 u7 u8) h = .nx (aE od rd fd (some (.int (x : Nat))) (some (.int (y : Nat))) u5' u6' u7' u8') h') := by
  have hL := LN_eq
  obtain ⟨wl, w0⟩ := Z.nn
  obtain ⟨u6', u7', u8', h', q⟩ := af_in (c := c) (od := od) (rd := rd) (fd := fd) Z hx hy (H := h) (List.range W.length) [] (fun j hj => List.mem_range.mp hj) (by rw [List.length_range]; show 0 + _ < _; omega) u6 u7 u8
  have st : Sms.den c b3_1a_0a_0 (aE od rd fd (some (.int (x : Nat))) (some (.int (y : Nat))) u5 u6 u7 u8) h = (forD (Tg.den c (.tup (.cons (.name 6) (.cons (.name 7) .nil)))) (Sms.den c b3_1a_0a_1a_0) ((List.range W.length).map fun j : Nat => D.tup [.int (j : Nat), rowU true (W.getD j [])]) (afE od rd fd x y h.length u6 u7 u8) (h ++ [.dct true (toKP [])])).tn (fun ρ1 h1 => .nx ρ1 h1) .mk := by
    refine (stepS (b' := b3_1a_0a_1) (s := hdS b3_1a_0a_0) (ρ' := afE od rd fd x y h.length u6 u7 u8) (h' := h ++ [.dct true []]) rfl ?_).trans ?_
    · show Sm.den _ (.set 5 (.dnew true)) _ _ = _
      simp
    · show Sms.den _ (.cons (.for (.tup (.cons (.name 6) (.cons (.name 7) .nil))) (.enum (.var 2)) b3_1a_0a_1a_0) .nil) _ _ = _
      rw [sms_cons, sm_for, af_enum hfd _ _ rfl, gq_ok]; rfl
  rw [st, q]
  unfold pfS
  cases scnP (pairW W x y) (List.range W.length) [] with
  | inl z => obtain ⟨a, b⟩ := z; exact .inl ⟨_, rfl, h', rfl⟩
  | inr z => exact .inr ⟨rfl, _, _, _, _, h', rfl⟩
theorem af_for {c : Cfg} {od rd fd g2 : D} {u4 u5 u6 u7 u8 : Option D} {h : Hs} {I M : Int} (b1 : -(LN : Int) ≤ I + 1 ∧ I + 1 ≤ LN ∧ -(LN : Int) ≤ M ∧ M ≤ LN) (i0 : ∀ h, idxD fd (.int 0) h = .ok g2 h) (l0 : ∀ fz h, primD .len fz [g2] h = .ok (.int M) h) :
    Sms.den c b3_1a_0 (aE od rd fd (some (.int I)) u4 u5 u6 u7 u8) h = (forD (Tg.den c (.name 4)) (Sms.den c b3_1a_0a_0) ((List.range (M - (I + 1)).toNat).map (fun k : Nat => D.int (I + 1 + (k : Nat)))) (aE od rd fd (some (.int I)) u4 u5 u6 u7 u8) h).tn (fun ρ1 h1 => .nx ρ1 h1) .mk := by
  unfold b3_1a_0
  simp [i0, l0, b1]
theorem af_x {c : Cfg} {od rd fd : D} {n l : Nat} {W : List (List Int)} (hfd : fd = sqD false true W) (Z : WW n l W) {x : Nat} (hx : x < l) {u4 u5 u6 u7 u8 : Option D} {h : Hs} :
    (∃ z, (later l x).findSome? (pfS W x) = some z ∧ ∃ h', Sms.den c b3_1a_0 (aE od rd fd (some (.int (x : Nat))) u4 u5 u6 u7 u8) h = .ret (.tup (z.map .int)) h') ∨
    ((later l x).findSome? (pfS W x) = none ∧ ∃ u4' u5' u6' u7' u8' h', Sms.den c b3_1a_0 (aE od rd fd (some (.int (x : Nat))) u4 u5 u6 u7 u8) h = .nx (aE od rd fd (some (.int (x : Nat))) u4' u5' u6' u7' u8') h') := by
  have hL := LN_eq
  obtain ⟨wl, w0⟩ := Z.nn
  have l90 := Z.l90
  have i0 : ∀ h, idxD fd (.int 0) h = .ok (rowU true (W.getD 0 [])) h := fun h => by
    have := idx_sq (t := false) (u := true) (m := W) (r := 0) (h := h) w0
    rw [hfd]; exact this
  have l0 : ∀ fz h, primD .len fz [rowU true (W.getD 0 [])] h = .ok (.int (l : Nat)) h := fun fz h => by rw [len_row, (Z.at w0).2]
  have In := forD_find (g := Tg.den c (.name 4)) (b := Sms.den c b3_1a_0a_0) (fun ρ _ => ∃ u4 u5 u6 u7 u8, ρ = aE od rd fd (some (.int (x : Nat))) u4 u5 u6 u7 u8)
    (fun y : Nat => D.int (y : Nat)) (pfS W x) (later l x) (aE od rd fd (some (.int (x : Nat))) u4 u5 u6 u7 u8) h ⟨_, _, _, _, _, rfl⟩ (fun y hy ρ h ⟨u4, u5, u6, u7, u8, e⟩ => by
    subst e
    have hy' := (later_mem.mp hy).2
    refine ⟨aE od rd fd (some (.int (x : Nat))) (some (.int (y : Nat))) u5 u6 u7 u8, h, by simp, ?_⟩
    rcases af_y (c := c) (od := od) (rd := rd) hfd Z hx hy' (u5 := u5) (u6 := u6) (u7 := u7) (u8 := u8) (h := h) with ⟨z, q1, h', q2⟩ | ⟨q1, _, _, _, _, h', q2⟩
    · exact .inl ⟨z, q1, h', q2⟩
    · exact .inr ⟨q1, _, h', q2, _, _, _, _, _, rfl⟩)
  have rg : (List.range ((l : Int) - ((x : Int) + 1)).toNat).map (fun k : Nat => D.int ((x : Int) + 1 + (k : Nat))) = (later l x).map fun j : Nat => D.int (j : Nat) := by
    unfold later
    rw [List.map_map, show ((l : Int) - ((x : Int) + 1)).toNat = l - (x + 1) from by omega]
    refine List.map_congr_left fun k _ => ?_
    show D.int _ = D.int ((x + 1 + k : Nat) : Int)
    congr 1
  rw [← rg] at In
  have b1 : -(LN : Int) ≤ (x : Int) + 1 ∧ (x : Int) + 1 ≤ LN ∧ -(LN : Int) ≤ (l : Int) ∧ (l : Int) ≤ LN := by omega
  have st := af_for (c := c) (od := od) (rd := rd) (fd := fd) (u4 := u4) (u5 := u5) (u6 := u6) (u7 := u7) (u8 := u8) (h := h) b1 i0 l0
  rw [st]
  rcases In with ⟨y, q1, h', q2⟩ | ⟨q1, ρ', h', q2, _, _, _, _, _, q3⟩
  · exact .inl ⟨y, q1, h', by rw [q2]; rfl⟩
  · subst q3; exact .inr ⟨q1, _, _, _, _, _, h', by rw [q2]; rfl⟩
theorem af_0 {k n l : Nat} {t u : Bool} {W : List (List Int)} (Z : WW n l W) : ∃ h', Sms.den (cfg (k + 1)) b3_0 [some (.int (n : Nat)), some (sqD t u W), none, none, none, none, none, none, none] [] = .ret (repD (afS W l)) h' := by
  have hL := LN_eq
  obtain ⟨wl, w0⟩ := Z.nn
  have l90 := Z.l90
  obtain ⟨rd, hrd⟩ : ∃ d, d = sqD t u W := ⟨_, rfl⟩
  obtain ⟨fd, hfd⟩ : ∃ d, d = sqD false true W := ⟨_, rfl⟩
  have kp : ∀ h, G fs (glOf cs) xl FUEL (k + 1) 2 [.int (n : Nat), rd] h = .ok fd h := fun h => by rw [hrd, hfd]; exact g_keptarr Z h
  have i0 : ∀ h, idxD fd (.int 0) h = .ok (rowU true (W.getD 0 [])) h := fun h => by
    have := idx_sq (t := false) (u := true) (m := W) (r := 0) (h := h) w0
    rw [hfd]; exact this
  have l0 : ∀ fz h, primD .len fz [rowU true (W.getD 0 [])] h = .ok (.int (l : Nat)) h := fun fz h => by rw [len_row, (Z.at w0).2]
  have r1 : -(LN : Int) ≤ (l : Int) ∧ (l : Int) ≤ LN := by omega
  have FO := forD_find (g := Tg.den (cfg (k + 1)) (.name 3)) (b := Sms.den (cfg (k + 1)) b3_1a_0) (fun ρ _ => ∃ u3 u4 u5 u6 u7 u8, ρ = aE (.int (n : Nat)) rd fd u3 u4 u5 u6 u7 u8)
    (fun x : Nat => D.int (x : Nat)) (fun x => (later l x).findSome? (pfS W x)) (List.range l) (aE (.int (n : Nat)) rd fd none none none none none none) [] ⟨_, _, _, _, _, _, rfl⟩ (fun x hx ρ h ⟨u3, u4, u5, u6, u7, u8, e⟩ => by
    subst e
    have hx' := List.mem_range.mp hx
    refine ⟨aE (.int (n : Nat)) rd fd (some (.int (x : Nat))) u4 u5 u6 u7 u8, h, by simp, ?_⟩
    rcases af_x (c := cfg (k + 1)) (od := .int (n : Nat)) (rd := rd) hfd Z hx' (u4 := u4) (u5 := u5) (u6 := u6) (u7 := u7) (u8 := u8) (h := h) with ⟨z, q1, h', q2⟩ | ⟨q1, _, _, _, _, _, h', q2⟩
    · exact .inl ⟨z, q1, h', q2⟩
    · exact .inr ⟨q1, _, h', q2, _, _, _, _, _, _, rfl⟩)
  rw [← hrd]
  have st : Sms.den (cfg (k + 1)) b3_0 [some (.int (n : Nat)), some rd, none, none, none, none, none, none, none] [] = (forD (Tg.den (cfg (k + 1)) (.name 3)) (Sms.den (cfg (k + 1)) b3_1a_0) ((List.range l).map fun k : Nat => D.int (k : Nat)) (aE (.int (n : Nat)) rd fd none none none none none none) []).tn (fun ρ1 h1 => Sms.den (cfg (k + 1)) b3_2 ρ1 h1) .mk := by
    generalize rowU true (W.getD 0 []) = g2 at *
    unfold b3_0
    simp [kp]
    unfold b3_1
    simp [i0, l0, r1]
  rw [st]
  unfold afS
  rcases FO with ⟨y, q1, h', q2⟩ | ⟨q1, ρ', h', q2, _, _, _, _, _, _, q3⟩
  · exact ⟨h', by rw [q2, q1]; rfl⟩
  · refine ⟨h', ?_⟩
    rw [q2, q1]
    unfold b3_2
    simp
    rfl
theorem g_arrf {k n l : Nat} {t u : Bool} {W : List (List Int)} (Z : WW n l W) (h : Hs) : GG (k + 2) 3 [.int (n : Nat), sqD t u W] h = .ok (repD (afS W l)) h :=
  G_ok (n := k + 1) (f := f3) rfl rfl (by show (true && ((sqD t u W).pure && true)) = true; rw [sqD_pure]; rfl) (af_0 Z) (rep_pure _)
end K84
set_option maxHeartbeats 2000000
namespace K84
open PySem PySem.Spec PyProof.Rows L2 Ev
theorem g_agree {k : Nat} {u v : Bool} {a b : List Int} (e : a.length = b.length) (hl : a.length ≤ 90) (h : Hs) : GG (k + 1) 4 [rowU v a, rowU u b] h = .ok (.lst ((agr a b).map fun i => .int (i : Nat))) h := by
  have hL := LN_eq
  have l1 : ∀ fz h, primD .len fz [rowU v a] h = .ok (.int (a.length : Nat)) h := fun fz h => len_row
  have l2 : ∀ fz h, primD .len fz [rowU u b] h = .ok (.int (a.length : Nat)) h := fun fz h => by rw [len_row, e]
  have LC : (Ex.dt (cfg k) (.lc true [(("place" : Str), 2), (("first" : Str), 3), (("second" : Str), 4)] (.tup (.cons (.name 2) (.cons (.tup (.cons (.name 3) (.cons (.name 4) .nil))) .nil))) (.enumZ (.var 0) (.var 1)) (.cons (.cmp .eq (.var 3) (.var 4)) .nil) (.var 2))).1 [some (rowU v a), some (rowU u b), none, none, none] [] = .ok (.lst ((agr a b).map fun i => .int (i : Nat))) [] := lc_agr (v := v) e (by omega)
  have pu : D.pures [rowU v a, rowU u b] = true := by show (_ && (_ && true)) = true; rw [rowU_pure, rowU_pure]; rfl
  refine G_ok (n := k) (f := f4) rfl rfl pu ⟨[], ?_⟩ (pures_map (f := fun i : Nat => D.int (i : Nat)) (fun _ => rfl) _)
  show Sms.den (cfg k) b4_0 [some (rowU v a), some (rowU u b), none, none, none] [] = _
  refine (stepS (b' := b4_1) (s := hdS b4_0) (ρ' := [some (rowU v a), some (rowU u b), none, none, none]) (h' := []) rfl ?_).trans ?_
  · show Sm.den _ (.ite (.cmp .ne (.prim .len true (.cons (.var 0) .nil)) (.prim .len true (.cons (.var 1) .nil))) b4_0a_0 .nil) _ _ = _
    generalize rowU v a = at' at *
    generalize rowU u b = bt at *
    simp [l1, l2]
  · show Sms.den _ (.cons (.ret (.lc true _ _ _ _ _)) .nil) _ _ = _
    rw [sms_cons, sm_ret]
    rw [LC]; rfl
theorem g_codef {k n l : Nat} {t u : Bool} {W : List (List Int)} (Z : WW n l W) (h : Hs) : GG (k + 2) 5 [.int (n : Nat), sqD t u W] h = .ok (repD (cfS W)) h := by
  have hL := LN_eq
  obtain ⟨wl, w0⟩ := Z.nn
  have l90 := Z.l90
  obtain ⟨rd, hrd⟩ : ∃ d, d = sqD t u W := ⟨_, rfl⟩
  obtain ⟨fd, hfd⟩ : ∃ d, d = sqD false true W := ⟨_, rfl⟩
  have pr : rd.pure = true := by rw [hrd]; exact sqD_pure t u W
  have kp : ∀ h, G fs (glOf cs) xl FUEL (k + 1) 2 [.int (n : Nat), rd] h = .ok fd h := fun h => by rw [hrd, hfd]; exact g_keptarr Z h
  have ix : ∀ j h, j < W.length → idxD fd (.int (j : Nat)) h = .ok (rowU true (W.getD j [])) h := fun j h hj => by
    have := idx_sq (t := false) (u := true) (m := W) (r := j) (h := h) hj
    rw [hfd]; exact this
  have ll : ∀ fz h, primD .len fz [fd] h = .ok (.int (W.length : Nat)) h := fun fz h => by rw [hfd, len_sq]
  have r1 : -(LN : Int) ≤ (W.length : Int) ∧ (W.length : Int) ≤ LN := by omega
  have FO := forD_find (g := Tg.den (cfg (k + 1)) (.name 3)) (b := Sms.den (cfg (k + 1)) b5_1a_0) (fun ρ h => ∃ u3 u4, ρ = [some (.int (n : Nat)), some rd, some fd, u3, u4])
    (fun x : Nat => D.int (x : Nat)) (fun j => (List.range j).findSome? (twc W j)) (List.range W.length) [some (.int (n : Nat)), some rd, some fd, none, none] [] ⟨_, _, rfl⟩ (fun j hj ρ h ⟨u3, u4, e⟩ => by
    subst e
    have hj' := List.mem_range.mp hj
    refine ⟨[some (.int (n : Nat)), some rd, some fd, some (.int (j : Nat)), u4], h, by simp, ?_⟩
    have In := forD_find (g := Tg.den (cfg (k + 1)) (.name 4)) (b := Sms.den (cfg (k + 1)) b5_1a_0a_0) (fun ρ _ => ∃ u4, ρ = [some (.int (n : Nat)), some rd, some fd, some (.int (j : Nat)), u4])
      (fun y : Nat => D.int (y : Nat)) (twc W j) (List.range j) [some (.int (n : Nat)), some rd, some fd, some (.int (j : Nat)), u4] h ⟨_, rfl⟩ (fun i hi ρ h ⟨u4, e⟩ => by
      subst e
      have hi' := List.mem_range.mp hi
      refine ⟨[some (.int (n : Nat)), some rd, some fd, some (.int (j : Nat)), some (.int (i : Nat))], h, by simp, ?_⟩
      have i1 := fun h => ix i h (by omega)
      have i2 := fun h => ix j h hj'
      have ag : ∀ h, G fs (glOf cs) xl FUEL (k + 1) 4 [rowU true (W.getD i []), rowU true (W.getD j [])] h = .ok (.lst ((agr (W.getD i []) (W.getD j [])).map fun i => .int (i : Nat))) h := fun h => g_agree (by rw [(Z.at hj').2, (Z.at (by omega)).2]) (by rw [(Z.at (by omega)).2]; exact l90) h
      have la : ∀ fz h, primD .len fz [.lst ((agr (W.getD i []) (W.getD j [])).map fun i => D.int (i : Nat))] h = .ok (.int ((agr (W.getD i []) (W.getD j [])).length : Nat)) h := fun fz h => by rw [pr_lenL, List.length_map]
      unfold twc
      have l2 : 2 ≤ LN := by omega
      generalize D.lst ((agr (W.getD i []) (W.getD j [])).map fun i => D.int (i : Nat)) = ad at *
      generalize (agr (W.getD i []) (W.getD j [])).length = K at *
      generalize rowU true (W.getD i []) = wi at *
      generalize rowU true (W.getD j []) = wj at *
      by_cases q : 1 < K
      · refine .inl ⟨[(i : Int), (j : Int)], if_pos q, h, ?_⟩
        have q2 : (1 : Int) < (K : Int) := by omega
        unfold b5_1a_0a_0 b5_1a_0a_0a_0
        simp [i1, i2, ag, la, q2, l2, q]
      · refine .inr ⟨if_neg q, [some (.int (n : Nat)), some rd, some fd, some (.int (j : Nat)), some (.int (i : Nat))], h, ?_, ⟨_, rfl⟩⟩
        have q2 : ¬ (1 : Int) < (K : Int) := by omega
        unfold b5_1a_0a_0
        simp [i1, i2, ag, la, q2, q])
    have b1 : -(LN : Int) ≤ (j : Int) ∧ (j : Int) ≤ LN := by omega
    have st : Sms.den (cfg (k + 1)) b5_1a_0 [some (.int (n : Nat)), some rd, some fd, some (.int (j : Nat)), u4] h = (forD (Tg.den (cfg (k + 1)) (.name 4)) (Sms.den (cfg (k + 1)) b5_1a_0a_0) ((List.range j).map fun k : Nat => D.int (k : Nat)) [some (.int (n : Nat)), some rd, some fd, some (.int (j : Nat)), u4] h).tn (fun ρ1 h1 => .nx ρ1 h1) .mk := by
      unfold b5_1a_0
      simp [b1]
    rw [st]
    rcases In with ⟨y, q1, h', q2⟩ | ⟨q1, ρ', h', q2, _, q3⟩
    · exact .inl ⟨y, q1, h', by rw [q2]; rfl⟩
    · exact .inr ⟨q1, ρ', h', by rw [q2]; rfl, _, _, q3⟩)
  rw [← hrd]
  have fin : ∃ h', Sms.den (cfg (k + 1)) b5_0 [some (.int (n : Nat)), some rd, none, none, none] [] = .ret (repD (cfS W)) h' := by
    have st : Sms.den (cfg (k + 1)) b5_0 [some (.int (n : Nat)), some rd, none, none, none] [] = (forD (Tg.den (cfg (k + 1)) (.name 3)) (Sms.den (cfg (k + 1)) b5_1a_0) ((List.range W.length).map fun k : Nat => D.int (k : Nat)) [some (.int (n : Nat)), some rd, some fd, none, none] []).tn (fun ρ1 h1 => Sms.den (cfg (k + 1)) b5_2 ρ1 h1) .mk := by
      unfold b5_0
      simp [kp]
      unfold b5_1
      simp [ll, r1]
    rw [st]
    unfold cfS
    rcases FO with ⟨y, q1, h', q2⟩ | ⟨q1, ρ', h', q2, _, _, q3⟩
    · exact ⟨h', by rw [q2, q1]; rfl⟩
    · refine ⟨h', ?_⟩
      rw [q2, q1]
      unfold b5_2
      simp
      rfl
  exact G_ok (n := k + 1) (f := f5) rfl rfl (by show (true && (rd.pure && true)) = true; rw [pr]; rfl) fin (rep_pure _)
end K84
set_option maxHeartbeats 2000000
namespace K84
open PySem PySem.Spec PyProof.Rows L2 Ev
/-! the law (k84) -/
theorem pick_l {k : Nat} {ks : List Int} {a : Int} {m : Int} (a0 : 0 ≤ a) (ha : a < ks.length) (hm : 0 < m) (h : Hs) : GG (k + 1) 6 [.lst (ks.map .int), .int a, .int m] h = .ok (.int (at0 ks a % m)) h := by
  obtain ⟨n, rfl⟩ : ∃ n : Nat, a = n := ⟨a.toNat, by omega⟩
  exact g_pick (by omega) hm h
theorem pick_n {k : Nat} {ks : List Int} {a : Int} {m : Nat} (a0 : 0 ≤ a) (ha : a < ks.length) (hm : 0 < m) : ∃ v : Nat, v < m ∧ ∀ h, GG (k + 1) 6 [.lst (ks.map .int), .int a, .int (m : Nat)] h = .ok (.int (v : Nat)) h := by
  have h0 := Int.emod_nonneg (at0 ks a) (show ((m : Nat) : Int) ≠ 0 by omega)
  have h1 := Int.emod_lt_of_pos (at0 ks a) (show (0 : Int) < (m : Nat) by omega)
  refine ⟨(at0 ks a % (m : Nat)).toNat, by omega, fun h => ?_⟩
  rw [pick_l a0 ha (by omega) h]
  congr 2
  omega
abbrev cf59 : Cfg := ⟨G fs (glOf cs) xl FUEL 59, glOf cs, xl, FUEL⟩
abbrev lE (nl kl fd nn : Option D) (u4 u5 u6 u7 u8 u9 u10 u11 u12 u13 u14 u15 u16 : Option D) : Ev.Env := [nl, kl, fd, nn, u4, u5, u6, u7, u8, u9, u10, u11, u12, u13, u14, u15, u16]
/-- a table that a change leaves: as many rows, each as long, signs in the bounds -/
structure WS (n l N : Nat) (W : List (List Int)) : Prop where
  len : W.length = N
  row : ∀ w ∈ W, w.length = l
  inn : ∀ w ∈ W, ∀ x ∈ w, 0 ≤ x ∧ x < (n : Int)
theorem WS.set {n l N : Nat} {W : List (List Int)} (Z : WS n l N W) {i : Nat} {x : List Int} (hx : x.length = l) (hi : ∀ y ∈ x, 0 ≤ y ∧ y < (n : Int)) : WS n l N (W.set i x) :=
  ⟨by rw [List.length_set, Z.len], fun w hw => by
    rcases List.mem_or_eq_of_mem_set hw with h | h
    · exact Z.row w h
    · rw [h]; exact hx, fun w hw => by
    rcases List.mem_or_eq_of_mem_set hw with h | h
    · exact Z.inn w h
    · rw [h]; exact hi⟩
theorem WS.at {n l N : Nat} {W : List (List Int)} (Z : WS n l N W) {j : Nat} (h : j < W.length) : W.getD j [] ∈ W ∧ (W.getD j []).length = l := by
  have : W.getD j [] ∈ W := by rw [List.getD_eq_getElem?_getD, List.getElem?_eq_getElem h]; exact List.getElem_mem _
  exact ⟨this, Z.row _ this⟩
section
variable {nl : Option D} {fd : Option D} {ks : List Int} {n l N : Nat} (hk : ks.length = 80) (n0 : 0 < n) (l0 : 0 < l) (l6 : l ≤ 6) (N0 : 0 < N) (N1 : N ≤ 144)
include hk n0 l0 l6 N0 N1
theorem w84_9 {h : Hs} {q : Nat} {ks' : List Nat} {W : List (List Int)} (M : MH h q ks' W) (Z : WS n l N W) {c o p : Nat} (ho : o < N) {u5 u6 : Option D} :
    ∃ h' W', MH h' q ks' W' ∧ WS n l N W' ∧ Sm.den cf59 (hdS b13_9) (lE nl (some (.lst (ks.map .int))) fd (some (.int (n : Nat))) (some (.ref q)) u5 u6 (some (.int (c : Nat))) (some (.int (o : Nat))) (some (.int (p : Nat))) none none none none none none none) h = .nx (lE nl (some (.lst (ks.map .int))) fd (some (.int (n : Nat))) (some (.ref q)) u5 u6 (some (.int (c : Nat))) (some (.int (o : Nat))) (some (.int (p : Nat))) none none none none none none none) h' := by
  have hL := LN_eq
  by_cases hc : c = 1
  · have hc' : ((c : Nat) : Int) = 1 := by omega
    obtain ⟨j, jl, pj⟩ := pick_n (k := 58) (ks := ks) (a := 64) (m := l) (by decide) (by omega) l0
    obtain ⟨v, vl, pv⟩ := pick_n (k := 58) (ks := ks) (a := 65) (m := n) (by decide) (by omega) n0
    have zl := Z.len
    have zo := Z.at (j := o) (by omega)
    have z0 := Z.at (j := 0) (by omega)
    have a0 : idxD (.ref q) (.int 0) h = .ok (.ref (ks'.getD 0 0)) h := M.at (i := 0) (by omega)
    have ao := M.at (i := o) (by omega)
    have ll : ∀ fz, primD .len fz [.ref (ks'.getD 0 0)] h = .ok (.int (l : Nat)) h := fun fz => by rw [pr_lenR (M.row 0 (by omega)), List.length_map, z0.2]
    have pu := M.put (i := o) (c := j) (v := (v : Nat)) (by omega) (by rw [zo.2]; exact jl)
    refine ⟨_, _, M.upd (i := o) (by omega) ((W.getD o []).set j (v : Nat)), Z.set (by rw [List.length_set]; exact zo.2) (fun y hy => ?_), ?_⟩
    · rcases List.mem_or_eq_of_mem_set hy with h | h
      · exact Z.inn _ zo.1 y h
      · subst h; omega
    · show Sm.den _ (.ite _ b13_9a_0 .nil) _ _ = _
      unfold b13_9a_0
      generalize h.set (ks'.getD o 0) (.lst (((W.getD o []).set j (v : Nat)).map .int)) = hh at *
      generalize ks'.getD 0 0 = k0 at *
      generalize ks'.getD o 0 = ko at *
      generalize D.lst (ks.map D.int) = kl at *
      simp [hc', pv, ao, a0, ll, pj, pu]
  · have hc' : ¬ ((c : Nat) : Int) = 1 := by omega
    refine ⟨h, W, M, Z, ?_⟩
    show Sm.den _ (.ite _ b13_9a_0 .nil) _ _ = _
    generalize D.lst (ks.map D.int) = kl at *
    simp [hc']
theorem w84_10 {h : Hs} {q : Nat} {ks' : List Nat} {W : List (List Int)} (M : MH h q ks' W) (Z : WS n l N W) {c o p : Nat} (ho : o < N) (hp : p < N) {kl u5 u6 : Option D} :
    ∃ h' W' ks'', MH h' q ks'' W' ∧ WS n l N W' ∧ Sm.den cf59 (hdS b13_10) (lE nl kl fd (some (.int (n : Nat))) (some (.ref q)) u5 u6 (some (.int (c : Nat))) (some (.int (o : Nat))) (some (.int (p : Nat))) none none none none none none none) h = .nx (lE nl kl fd (some (.int (n : Nat))) (some (.ref q)) u5 u6 (some (.int (c : Nat))) (some (.int (o : Nat))) (some (.int (p : Nat))) none none none none none none none) h' := by
  have hL := LN_eq
  by_cases hc : c = 2
  · have hc' : ((c : Nat) : Int) = 2 := by omega
    have zl := Z.len
    have zp := Z.at (j := p) (by omega)
    have ap := M.at (i := p) (by omega)
    have cp := M.copy (i := o) (j := p) (by omega) (by omega) (by rw [zp.2]; omega)
    have pr := M.putrow (i := o) (c := .lst ((W.getD p []).map .int)) (by omega)
    refine ⟨_, _, _, M.copied (i := o) (by omega) (W.getD p []), Z.set zp.2 (Z.inn _ zp.1), ?_⟩
    show Sm.den _ (.ite _ b13_10a_0 .nil) _ _ = _
    unfold b13_10a_0
    generalize (h ++ [Cell.lst ((W.getD p []).map .int)]).set q (.lst ((ks'.set o h.length).map .ref)) = hh at *
    generalize h ++ [Cell.lst ((W.getD p []).map .int)] = h1 at *
    generalize ks'.getD p 0 = kp at *
    generalize h.length = hl at *
    simp [hc', ap, cp, pr]
  · have hc' : ¬ ((c : Nat) : Int) = 2 := by omega
    refine ⟨h, W, ks', M, Z, ?_⟩
    show Sm.den _ (.ite _ b13_10a_0 .nil) _ _ = _
    simp [hc']
end
/-! the law's own search (k84) -/
theorem lc_same {l N : Nat} {n : Nat} {W : List (List Int)} (Z : WS n l N W) (l6 : l ≤ 6) (N0 : 0 < N) {i j a b : Nat} (hi : i < N) (hj : j < N) {ρ : Ev.Env} {h : Hs} (pl : 11 < ρ.length) (e4 : ρ[4]? = some (some (sqD false false W))) (ea : ∀ d, (ρ.set 11 d)[a]? = some (some (.int (i : Nat)))) (eb : ∀ d, (ρ.set 11 d)[b]? = some (some (.int (j : Nat)))) :
    (Ex.dt cf59 (.lc true [(("_law_place" : Str), 11)] (.name 11) (.range (.cons (.prim .len true (.cons (.idx (.var 4) (.cint 0)) .nil)) .nil)) (.cons (.cmp .eq (.idx (.idx (.var 4) (.var a)) (.var 11)) (.idx (.idx (.var 4) (.var b)) (.var 11))) .nil) (.var 11))).1 ρ h = .ok (.lst ((agr (W.getD i []) (W.getD j [])).map fun i => .int (i : Nat))) h := by
  have hL := LN_eq
  have zl := Z.len
  have z0 := Z.at (j := 0) (by omega)
  have zi := Z.at (j := i) (by omega)
  have zj := Z.at (j := j) (by omega)
  have e4' : ∀ d, (ρ.set 11 d)[4]? = some (some (sqD false false W)) := fun d => by rw [List.getElem?_set_ne (by decide), e4]
  have e11 : ∀ d, (ρ.set 11 d)[11]? = some d := fun d => List.getElem?_set_self pl
  have i0 : ∀ h, idxD (sqD false false W) (.int 0) h = .ok (rowU false (W.getD 0 [])) h := fun h => idx_sq (r := 0) (by omega)
  have ii : ∀ h, idxD (sqD false false W) (.int (i : Nat)) h = .ok (rowU false (W.getD i [])) h := fun h => idx_sq (by omega)
  have ij : ∀ h, idxD (sqD false false W) (.int (j : Nat)) h = .ok (rowU false (W.getD j [])) h := fun h => idx_sq (by omega)
  have l0 : ∀ fz h, primD .len fz [rowU false (W.getD 0 [])] h = .ok (.int (l : Nat)) h := fun fz h => by rw [len_row, z0.2]
  unfold agr
  refine lcG (fun i : Nat => D.int (i : Nat)) (fun i => ρ.set 11 (some (.int (i : Nat)))) (fun x => decide ((W.getD i []).getD x 0 = (W.getD j []).getD x 0)) (fun i => D.int (i : Nat)) (List.range (W.getD i []).length) ?_ (fun x _ => ?_) (fun x hx => ?_) (fun x _ _ => ?_) (by rw [List.length_range, zi.2]; omega)
  · rw [zi.2]
    refine it_rng1 ?_ (by omega)
    simp only [den_prim, dens_cons, dens_nil, den_idx, den_var, e4, den_cint, bd_ok, i0, l0]
  · show Tg.den cf59 (.name 11) (.int (x : Nat)) (ρ.set 11 none) h = _
    rw [tg_name, if_pos (by rw [List.length_set]; exact pl), List.set_set]
  · have lx := List.mem_range.mp hx
    have x1 : ∀ h, idxD (rowU false (W.getD i [])) (.int (x : Nat)) h = .ok (.int ((W.getD i []).getD x 0)) h := fun h => idx_row lx
    have x2 : ∀ h, idxD (rowU false (W.getD j [])) (.int (x : Nat)) h = .ok (.int ((W.getD j []).getD x 0)) h := fun h => idx_row (by rw [zj.2, ← zi.2]; exact lx)
    simp only [tsts_cons, tst_cmp, truF_eq, den_cmp, den_idx, den_var, e4', ea, eb, e11, bd_ok, ii, ij, x1, x2, cmp_eqI, tru_bl]
  · simp only [den_var, e11]
def ijD : Option (List Int) → D := repD
theorem orO_some {o : Option (List Int)} {x : Option (List Int)} (h : o ≠ none) : orO o x = o := by cases o with | none => exact absurd rfl h | some _ => rfl
theorem w84_14 {l N n : Nat} {W : List (List Int)} (Z : WS n l N W) (l6 : l ≤ 6) (N0 : 0 < N) (N1 : N ≤ 144) {nl kl fd nn u5 u6 u7 u8 u9 u10 u11 : Option D} {h : Hs} :
    ∃ u11' u13 u14 u15, Sm.den cf59 (hdS b13_14) (lE nl kl fd nn (some (sqD false false W)) u5 u6 u7 u8 u9 u10 u11 (some .non) none none none none) h = .nx (lE nl kl fd nn (some (sqD false false W)) u5 u6 u7 u8 u9 u10 u11' (some (repD (cfS W))) u13 u14 u15 none) h := by
  have hL := LN_eq
  have zl := Z.len
  let E : Option D → Option (List Int) → Option D → Option D → Option D → Ev.Env := fun u11 o u13 u14 u15 => lE nl kl fd nn (some (sqD false false W)) u5 u6 u7 u8 u9 u10 u11 (some (repD o)) u13 u14 u15 none
  have inn : ∀ j, j < N → ∀ u11 o u14 u15, ∃ u11' u14' u15', forD (Tg.den cf59 (.name 14)) (Sms.den cf59 b13_14a_0a_0) ((List.range j).map fun k : Nat => D.int (k : Nat)) (E u11 o (some (.int (j : Nat))) u14 u15) h = .nx (E u11' ((List.range j).foldl (fun a x => orO a (twc W j x)) o) (some (.int (j : Nat))) u14' u15') h := fun j hj u11 o u14 u15 => by
    obtain ⟨ρ', h', f1, u11', u14', u15', e1, e2⟩ := for_rng (c := cf59) (b := Sms.den cf59 b13_14a_0a_0) (i := 14) j (fun i ρ hh => ∃ u11 u14 u15, ρ = E u11 ((List.range i).foldl (fun a x => orO a (twc W j x)) o) (some (.int (j : Nat))) u14 u15 ∧ hh = h) (ρ := E u11 o (some (.int (j : Nat))) u14 u15) (h := h) ⟨u11, u14, u15, rfl, rfl⟩ (fun i ρ hh hi ⟨u11, u14, u15, e1, e2⟩ => by
      subst e1 e2
      rw [List.range_succ, List.foldl_append]
      show _ ∧ ∃ ρ' h', _ ∧ ∃ u11 u14 u15, ρ' = E u11 (orO ((List.range i).foldl (fun a x => orO a (twc W j x)) o) (twc W j i)) (some (.int (j : Nat))) u14 u15 ∧ h' = hh
      generalize (List.range i).foldl (fun a x => orO a (twc W j x)) o = o' at *
      have LC := lc_same Z l6 N0 (i := i) (j := j) (a := 14) (b := 13) (by omega) hj (ρ := E u11 o' (some (.int (j : Nat))) (some (.int (i : Nat))) u15) (h := hh) (by simp [E]) rfl (fun d => rfl) (fun d => rfl)
      have la : ∀ fz h, primD .len fz [.lst ((agr (W.getD i []) (W.getD j [])).map fun i => D.int (i : Nat))] h = .ok (.int ((agr (W.getD i []) (W.getD j [])).length : Nat)) h := fun fz h => by rw [pr_lenL, List.length_map]
      have isr := is_rep o'
      refine ⟨by simp [E], E u11 (orO o' (twc W j i)) (some (.int (j : Nat))) (some (.int (i : Nat))) (some (.lst ((agr (W.getD i []) (W.getD j [])).map fun i => .int (i : Nat)))), hh, ?_, ⟨_, _, _, rfl, rfl⟩⟩
      refine (stepS (b' := b13_14a_0a_1) (s := hdS b13_14a_0a_0) (ρ' := E u11 o' (some (.int (j : Nat))) (some (.int (i : Nat))) (some (.lst ((agr (W.getD i []) (W.getD j [])).map fun i => .int (i : Nat))))) (h' := hh) rfl ?_).trans ?_
      · show Sm.den cf59 (.set 15 (.lc true _ _ _ _ _)) (E u11 o' (some (.int (j : Nat))) (some (.int (i : Nat))) u15) _ = _
        rw [sm_set, LC, gq_ok]; rfl
      · unfold twc
        generalize D.lst ((agr (W.getD i []) (W.getD j [])).map fun i => D.int (i : Nat)) = ad at *
        generalize (agr (W.getD i []) (W.getD j [])).length = K at *
        simp only [E]
        generalize sqD false false W = wd
        have l2 : 2 ≤ LN := by omega
        cases o' with
        | some y =>
          show Sms.den _ _ _ _ = Out.nx (lE nl kl fd nn (some wd) u5 u6 u7 u8 u9 u10 u11 (some (repD (some y))) _ _ _ none) hh
          generalize repD (some y) = yd at *
          unfold b13_14a_0a_1
          simp [isr]
        | none =>
          by_cases q : 1 < K
          · have q2 : (1 : Int) < (K : Int) := by omega
            rw [if_pos q]
            show Sms.den _ _ _ _ = Out.nx (lE nl kl fd nn (some wd) u5 u6 u7 u8 u9 u10 u11 (some (.tup [.int (i : Nat), .int (j : Nat)])) _ _ _ none) hh
            generalize repD none = yd at *
            unfold b13_14a_0a_1 b13_14a_0a_1a_0
            simp [isr, la, q2, q, l2]
          · have q2 : ¬ (1 : Int) < (K : Int) := by omega
            rw [if_neg q]
            show Sms.den _ _ _ _ = Out.nx (lE nl kl fd nn (some wd) u5 u6 u7 u8 u9 u10 u11 (some (repD none)) _ _ _ none) hh
            generalize repD none = yd at *
            unfold b13_14a_0a_1
            simp [isr, la, q2, q])
    rw [e1, e2] at f1
    exact ⟨u11', u14', u15', f1⟩
  have cf : cfS W = (List.range N).foldl (fun a j => orO a ((List.range j).findSome? (twc W j))) none := by
    rw [fold_find]; unfold cfS; rw [zl]; rfl
  obtain ⟨ρ', h', f1, u11', u13, u14, u15, e1, e2⟩ := for_rng (c := cf59) (b := Sms.den cf59 b13_14a_0) (i := 13) N (fun j ρ hh => ∃ u11 u13 u14 u15, ρ = E u11 ((List.range j).foldl (fun a j => orO a ((List.range j).findSome? (twc W j))) none) u13 u14 u15 ∧ hh = h) (ρ := E u11 none none none none) (h := h) ⟨u11, none, none, none, rfl, rfl⟩ (fun j ρ hh hj ⟨u11, u13, u14, u15, e1, e2⟩ => by
    subst e1 e2
    obtain ⟨u11', u14', u15', q⟩ := inn j hj u11 ((List.range j).foldl (fun a j => orO a ((List.range j).findSome? (twc W j))) none) u14 u15
    rw [fold_find (twc W j) (List.range j)] at q
    refine ⟨by simp [E], _, hh, ?_, ⟨u11', some (.int (j : Nat)), u14', u15', rfl, rfl⟩⟩
    rw [List.range_succ, List.foldl_append]
    show _ = Out.nx (E u11' (orO ((List.range j).foldl (fun a j => orO a ((List.range j).findSome? (twc W j))) none) ((List.range j).findSome? (twc W j))) (some (.int (j : Nat))) u14' u15') hh
    generalize orO ((List.range j).foldl (fun a j => orO a ((List.range j).findSome? (twc W j))) none) ((List.range j).findSome? (twc W j)) = o2 at *
    generalize (List.range j).foldl (fun a j => orO a ((List.range j).findSome? (twc W j))) none = o1 at *
    simp only [E] at q ⊢
    generalize sqD false false W = wd at *
    generalize repD o1 = d1 at *
    generalize repD o2 = d2 at *
    have b1 : -(LN : Int) ≤ (j : Int) ∧ (j : Int) ≤ LN := by omega
    unfold b13_14a_0
    simp [b1]
    rw [q, tn_nx])
  refine ⟨u11', u13, u14, u15, ?_⟩
  rw [e1, e2, ← cf] at f1
  show Sm.den cf59 (.for (.name 13) (.range (.cons (.prim .len true (.cons (.var 4) .nil)) .nil)) b13_14a_0) (E u11 none none none none) h = _
  have it : Itx.den cf59 (.range (.cons (.prim .len true (.cons (.var 4) .nil)) .nil)) (E u11 none none none none) h = .ok ((List.range N).map fun k : Nat => D.int (k : Nat)) h := by
    refine it_rng1 ?_ (by omega)
    have ll : ∀ fz h, primD .len fz [sqD false false W] h = .ok (.int (N : Nat)) h := fun fz h => by rw [len_sq, zl]
    simp only [E]
    generalize sqD false false W = wd at *
    simp [ll]
  rw [sm_for, it, gq_ok, f1]
end K84
set_option maxHeartbeats 2000000
namespace K84
open PySem PySem.Spec PyProof.Rows L2 Ev
theorem w84_13 {l N n : Nat} {W : List (List Int)} (Z : WS n l N W) (l6 : l ≤ 6) (n1 : 1 ≤ n) (n12 : n ≤ 12) (l2 : 2 ≤ l) (N2 : N = n * n) {nl kl fd u5 u6 u7 u8 u9 u10 u11 : Option D} {h : Hs} :
    ∃ h', Sms.den cf59 b13_13 (lE nl kl fd (some (.int (n : Nat))) (some (sqD false false W)) u5 u6 u7 u8 u9 u10 u11 none none none none none) h = .ret (.bl true) h' := by
  have hL := LN_eq
  have N0 : 0 < N := by rw [N2]; exact Nat.mul_pos n1 n1
  have N1 : N ≤ 144 := by rw [N2]; exact Nat.mul_le_mul n12 n12
  have Q : WW n l W := ⟨n1, n12, by rw [Z.len, N2], Z.row, l2, by omega, Z.inn⟩
  obtain ⟨u11', u13, u14, u15, s14⟩ := w84_14 Z l6 N0 N1 (nl := nl) (kl := kl) (fd := fd) (nn := some (.int (n : Nat))) (u5 := u5) (u6 := u6) (u7 := u7) (u8 := u8) (u9 := u9) (u10 := u10) (u11 := u11) (h := h)
  have cf : ∀ h, G fs (glOf cs) xl FUEL 59 5 [.int (n : Nat), sqD false false W] h = .ok (repD (cfS W)) h := g_codef (k := 57) Q
  have af : ∀ h, G fs (glOf cs) xl FUEL 59 3 [.int (n : Nat), sqD false false W] h = .ok (repD (afS W l)) h := g_arrf (k := 57) Q
  have ca := code_array (W := W) (l := l) Z.row
  have fz : ∀ h, fzR (sqD false false W) h = .ok (sqD false false W) h := fun h => by
    unfold fzR
    have : fzD DEEPF (sqD false false W) h = some (sqD false false W, h) := by
      show fzD 6 _ _ = _
      unfold fzD
      rw [if_pos (sqD_pure _ _ _)]
    rw [this]
  have ne0 : ∀ h, cmpD .ne (repD (cfS W)) (repD (cfS W)) h = .ok (.bl false) h := fun h => by rw [emb_rep.ne (by decide)]; simp
  have isn : ∀ h, cmpD .isnot (repD (cfS W)) .non h = .ok (.bl (cfS W).isSome) h := fun h => isnot_rep _ h
  have is1 : ∀ h, cmpD .is (repD (cfS W)) .non h = .ok (.bl (cfS W).isNone) h := fun h => is_rep _ h
  have is2 : ∀ h, cmpD .is (repD (afS W l)) .non h = .ok (.bl (cfS W).isNone) h := fun h => by rw [is_rep, ca]
  have ist : ∀ fz h, primD (.isinst "tuple") fz [repD (cfS W)] h = .ok (.bl (cfS W).isSome) h := fun fz h => by cases cfS W <;> rfl
  have eqb : ∀ (b : Bool) h, cmpD .eq (.bl b) (.bl b) h = .ok (.bl true) h := fun b h => by cases b <;> rfl
  refine ⟨h, ?_⟩
  refine (stepS (b' := b13_14) (s := hdS b13_13) (ρ' := lE nl kl fd (some (.int (n : Nat))) (some (sqD false false W)) u5 u6 u7 u8 u9 u10 u11 (some .non) none none none none) (h' := h) rfl rfl).trans ?_
  refine (stepS (b' := b13_15) rfl s14).trans ?_
  generalize (cfS W).isNone = bn at *
  generalize hbs : (cfS W).isSome = bs at *
  generalize repD (cfS W) = cd at *
  generalize repD (afS W l) = ad at *
  generalize sqD false false W = wd at *
  unfold b13_15
  simp [fz, cf]
  unfold b13_16
  cases bs
  · simp [ne0, isn, ist]
    unfold b13_17
    simp [fz, af, is1, is2, eqb]
  · simp [ne0, isn, ist]
    unfold b13_17
    simp [fz, af, is1, is2, eqb]
theorem hlaw : ∀ ns : List Int, ns.length ≤ 63 → G (L.map (·.1)) (glOf cs) xl FUEL DEEP 13 [.vw (ns.map .int)] [] = .ok (.bl true) [] := fun ns hns => by
  obtain ⟨ks, eN, hks, _⟩ := num_ok (fs := fs) (gl := glOf cs) (xs := xl) (F := FUEL) (n := 57) (f := f0) (g := f1) rfl rfl rfl rfl rfl rfl rfl rfl (by unfold FUEL; omega) hns 80 (by omega) (by omega) []
  have hk : ks.length = 80 := hks
  have hL := LN_eq
  have eN' : ∀ h, G fs (glOf cs) xl FUEL 59 1 [.vw (ns.map .int), .int 80] h = .ok (.lst (ks.map .int)) h := fun h => G_heapF (f := f1) rfl eN h
  obtain ⟨n, M, rs, cl, sg, F, eF⟩ := g_family (ks := ks) (by omega)
  have eF' : ∀ h, G fs (glOf cs) xl FUEL 59 11 [.lst (ks.map .int), .int 0] h = .ok (.lst ((fms n M rs cl sg).map sqT)) h := eF
  have b := F.c.lt
  have n0 : 0 < n := by omega
  have nn' : n * n ≤ 7 * 7 := Nat.mul_le_mul (by omega) (by omega)
  have np := Nat.mul_pos n0 n0
  have eW : ∀ h, G fs (glOf cs) xl FUEL 59 12 [.lst ((fms n M rs cl sg).map sqT)] h = .ok (wdsD (fms n M rs cl sg) n) h := fun h => g_words (k := 58) (fms_ne F) (by rw [fms_len]; omega) (by omega) (fms_sq F) h
  have lM := fms_len (n := n) (M := M) (rs := rs) (cl := cl) (sg := sg)
  have S0 := fms_sq F ((fms n M rs cl sg).getD 0 []) (by rw [List.getD_eq_getElem?_getD, List.getElem?_eq_getElem (by omega)]; exact List.getElem_mem _)
  have i0 : ∀ h, idxD (.lst ((fms n M rs cl sg).map sqT)) (.int 0) h = .ok (sqT ((fms n M rs cl sg).getD 0 [])) h := fun h => by
    have := idx_lN (xs := (fms n M rs cl sg).map sqT) (r := 0) (h := h) (by rw [List.length_map]; omega)
    rwa [getD_map (by omega) []] at this
  have l0 : ∀ fz h, primD .len fz [sqT ((fms n M rs cl sg).getD 0 [])] h = .ok (.int (n : Nat)) h := fun fz h => by
    have q := len_sq (fz := fz) (t := true) (u := true) (m := (fms n M rs cl sg).getD 0 []) (h := h)
    rw [S0.2] at q
    exact q
  have wl := words_len (ms := fms n M rs cl sg) n0
  obtain ⟨WS0, hWS⟩ : ∃ W, W = words (fms n M rs cl sg) n := ⟨_, rfl⟩
  have wi := words_in F
  have Z0 : WS n (M + 2) (n * n) WS0 := ⟨by rw [hWS]; exact wl, fun w hw => (wi w (by rw [← hWS]; exact hw)).1, fun w hw => (wi w (by rw [← hWS]; exact hw)).2⟩
  -- the table in cells
  have eW2 : ∀ h, G fs (glOf cs) xl FUEL 59 12 [.lst ((fms n M rs cl sg).map sqT)] h = .ok (.lst (WS0.map (rowU true))) h := fun h => by rw [hWS]; exact eW h
  obtain ⟨q3, ks3, h3, e3, M3⟩ := lc_cellsMm (c := cf59) (x := "_law_word") (i := 5) (it := .seq (.call 12 (.cons (.var 2) .nil))) (elt := .prim .listOf false (.cons (.var 5) .nil)) (ρ := lE (some (.vw (ns.map .int))) (some (.lst (ks.map .int))) (some (.lst ((fms n M rs cl sg).map sqT))) (some (.int (n : Nat))) none none none none none none none none none none none none none) (h := [])
    (rowU true) (fun w => w) WS0 (by simp) (by rw [Z0.len]; omega) (by
      generalize D.lst ((fms n M rs cl sg).map sqT) = fd at *
      generalize WS0.map (rowU true) = wx at *
      simp [eW2]) (fun y hy hh => by
      rw [den_prim, dens_cons]
      show newL false (y.map .int) hh = _
      exact new_cell (by rw [List.length_map, Z0.row y hy]; omega))
  rw [List.map_id'] at M3
  obtain ⟨t, tl, p60⟩ := pick_n (k := 58) (ks := ks) (a := 60) (m := n * n) (by decide) (by omega) np
  obtain ⟨c, cl4, p61⟩ := pick_n (k := 58) (ks := ks) (a := 61) (m := 4) (by decide) (by omega) (by decide)
  obtain ⟨o, ol, p62⟩ := pick_n (k := 58) (ks := ks) (a := 62) (m := n * n) (by decide) (by omega) np
  obtain ⟨p, pl, p63⟩ := pick_n (k := 58) (ks := ks) (a := 63) (m := n * n) (by decide) (by omega) np
  have z0 := Z0.len
  have k3 := M3.len
  have M5 := M3.rot (t := t) (by omega)
  have Z5 : WS n (M + 2) (n * n) (WS0.drop t ++ WS0.take t) := ⟨by simp; omega, fun w hw => by
    rcases List.mem_append.mp hw with h | h
    · exact Z0.row w (List.mem_of_mem_drop h)
    · exact Z0.row w (List.mem_of_mem_take h), fun w hw => by
    rcases List.mem_append.mp hw with h | h
    · exact Z0.inn w (List.mem_of_mem_drop h)
    · exact Z0.inn w (List.mem_of_mem_take h)⟩
  obtain ⟨h5, hh5⟩ : ∃ h5, h5 = h3 ++ [Cell.lst ((ks3.drop t ++ ks3.take t).map .ref)] := ⟨_, rfl⟩
  rw [← hh5] at M5
  have l5 := M5.len
  have len3 : ∀ fz, primD .len fz [.ref q3] h3 = .ok (.int ((n * n : Nat) : Int)) h3 := fun fz => by rw [pr_lenR M3.out, List.length_map, k3, z0]
  have len5 : ∀ fz, primD .len fz [.ref h3.length] h5 = .ok (.int ((n * n : Nat) : Int)) h5 := fun fz => by rw [pr_lenR M5.out, List.length_map, l5, Z5.len]
  have sl1 : sliceD true (.ref q3) (some (t : Int)) none h3 = .ok (.lst ((ks3.drop t).map .ref)) h3 := by
    have sq := M3.seq
    unfold sliceD
    dsimp only
    rw [sq]
    dsimp only
    rw [cut_from (by rw [List.length_map]; omega), ← List.map_drop]
    exact new_fz (by rw [List.length_map, List.length_drop]; omega)
  have sl2 : sliceD true (.ref q3) none (some (t : Int)) h3 = .ok (.lst ((ks3.take t).map .ref)) h3 := by
    have sq := M3.seq
    unfold sliceD
    dsimp only
    rw [sq]
    dsimp only
    rw [cut_take, ← List.map_take]
    exact new_fz (by rw [List.length_map, List.length_take]; omega)
  have ad5 : binD .add false (.lst ((ks3.drop t).map .ref)) (.lst ((ks3.take t).map .ref)) h3 = .ok (.ref h3.length) h5 := by
    show newL false ((ks3.drop t).map D.ref ++ (ks3.take t).map D.ref) h3 = _
    rw [← List.map_append, new_cell (by rw [List.length_map, List.length_append, List.length_drop, List.length_take]; omega), hh5]
  obtain ⟨h9, W9, M9, Z9, s9⟩ := w84_9 hk n0 (show 0 < M + 2 by omega) (by omega) np (by omega) M5 Z5 (c := c) (o := o) (p := p) ol (nl := some (.vw (ns.map .int))) (fd := some (.lst ((fms n M rs cl sg).map sqT))) (u5 := none) (u6 := some (.int (t : Nat)))
  obtain ⟨h10, W10, ks10, M10, Z10, s10⟩ := w84_10 hk n0 (show 0 < M + 2 by omega) (by omega) np (by omega) M9 Z9 (c := c) (o := o) (p := p) ol pl (nl := some (.vw (ns.map .int))) (fd := some (.lst ((fms n M rs cl sg).map sqT))) (kl := some (.lst (ks.map .int))) (u5 := none) (u6 := some (.int (t : Nat)))
  obtain ⟨h11, f11⟩ := M10.fz
  have zl10 := Z10.len
  have zo := Z10.at (j := o) (by omega)
  have zp := Z10.at (j := p) (by omega)
  have LC11 := lc_same Z10 (by omega) np (i := o) (j := p) (a := 8) (b := 9) ol pl (ρ := lE (some (.vw (ns.map .int))) (some (.lst (ks.map .int))) (some (.lst ((fms n M rs cl sg).map sqT))) (some (.int (n : Nat))) (some (sqD false false W10)) none (some (.int (t : Nat))) (some (.int (c : Nat))) (some (.int (o : Nat))) (some (.int (p : Nat))) none none none none none none none) (h := h11) (by simp) rfl (fun d => rfl) (fun d => rfl)
  obtain ⟨hF, sF⟩ := w84_13 Z10 (by omega) (by omega) (by omega) (by omega) rfl (nl := some (.vw (ns.map .int))) (kl := some (.lst (ks.map .int))) (fd := some (.lst ((fms n M rs cl sg).map sqT))) (u5 := none) (u6 := some (.int (t : Nat))) (u7 := some (.int (c : Nat))) (u8 := some (.int (o : Nat))) (u9 := some (.int (p : Nat))) (u10 := some (.lst ((agr (W10.getD o []) (W10.getD p [])).map fun i => .int (i : Nat)))) (u11 := none) (h := h11)
  have io : ∀ h, idxD (sqD false false W10) (.int (o : Nat)) h = .ok (rowU false (W10.getD o [])) h := fun h => idx_sq (by omega)
  have ip : ∀ h, idxD (sqD false false W10) (.int (p : Nat)) h = .ok (rowU false (W10.getD p [])) h := fun h => idx_sq (by omega)
  have tp : ∀ fz h, primD .tupleOf fz [rowU false (W10.getD p [])] h = .ok (rowU true (W10.getD p [])) h := fun fz h => pr_tupU _ h
  have ag : ∀ h, G fs (glOf cs) xl FUEL 59 4 [rowU false (W10.getD o []), rowU true (W10.getD p [])] h = .ok (.lst ((agr (W10.getD o []) (W10.getD p [])).map fun i => .int (i : Nat))) h := g_agree (k := 58) (by rw [zo.2, zp.2]) (by rw [zo.2]; omega)
  have neL : ∀ (xs : List Nat) h, cmpD .ne (.lst (xs.map fun i => D.int (i : Nat))) (.lst (xs.map fun i => D.int (i : Nat))) h = .ok (.bl false) h := fun xs h => by
    have := (emb_lst emb_int).ne (by decide) (xs.map fun i : Nat => (i : Int)) (xs.map fun i : Nat => (i : Int)) h
    rw [List.map_map, decide_eq_true rfl] at this
    exact this
  have s12 : Sms.den cf59 b13_12 (lE (some (.vw (ns.map .int))) (some (.lst (ks.map .int))) (some (.lst ((fms n M rs cl sg).map sqT))) (some (.int (n : Nat))) (some (sqD false false W10)) none (some (.int (t : Nat))) (some (.int (c : Nat))) (some (.int (o : Nat))) (some (.int (p : Nat))) (some (.lst ((agr (W10.getD o []) (W10.getD p [])).map fun i => .int (i : Nat)))) none none none none none none) h11 = .ret (.bl true) hF := by
    refine (stepS (b' := b13_13) (s := hdS b13_12) rfl ?_).trans sF
    have nn := neL (agr (W10.getD o []) (W10.getD p []))
    generalize D.lst ((agr (W10.getD o []) (W10.getD p [])).map fun i => D.int (i : Nat)) = ad at *
    generalize rowU false (W10.getD o []) = wo at *
    generalize rowU false (W10.getD p []) = wp at *
    generalize rowU true (W10.getD p []) = wq at *
    generalize sqD false false W10 = wd at *
    generalize D.lst ((fms n M rs cl sg).map sqT) = fd at *
    generalize D.lst (ks.map D.int) = kl at *
    show Sm.den _ (.ite _ b13_12a_0 .nil) _ _ = _
    simp [io, ip, tp, ag, nn]
  have s11 : Sms.den cf59 b13_11 (lE (some (.vw (ns.map .int))) (some (.lst (ks.map .int))) (some (.lst ((fms n M rs cl sg).map sqT))) (some (.int (n : Nat))) (some (.ref h3.length)) none (some (.int (t : Nat))) (some (.int (c : Nat))) (some (.int (o : Nat))) (some (.int (p : Nat))) none none none none none none none) h10 = .ret (.bl true) hF := by
    refine (stepS (b' := .cons (.set 10 _) b13_12) (s := .fz 4) (ρ' := lE (some (.vw (ns.map .int))) (some (.lst (ks.map .int))) (some (.lst ((fms n M rs cl sg).map sqT))) (some (.int (n : Nat))) (some (sqD false false W10)) none (some (.int (t : Nat))) (some (.int (c : Nat))) (some (.int (o : Nat))) (some (.int (p : Nat))) none none none none none none none) (h' := h11) rfl ?_).trans ?_
    · rw [sm_fz]
      show (match fzD DEEPF (.ref h3.length) h10 with | some (d', h') => Out.nx _ h' | none => .stuck) = _
      rw [f11]; rfl
    · rw [sms_cons, sm_set, LC11, gq_ok]
      exact s12
  have s9' := (stepS (b := b13_9) (b' := b13_10) rfl s9).trans ((stepS (b := b13_10) (b' := b13_11) rfl s10).trans s11)
  refine G_ok (n := 59) (f := f13) rfl rfl (by show (D.pures (ns.map .int) && true) = true; rw [pures_ints]; rfl) ⟨hF, ?_⟩ rfl
  show Sms.den cf59 b13_0 (lE (some (.vw (ns.map .int))) none none none none none none none none none none none none none none none none) [] = _
  refine Eq.trans ?_ s9'
  have s3 : Sms.den cf59 b13_3 (lE (some (.vw (ns.map .int))) (some (.lst (ks.map .int))) (some (.lst ((fms n M rs cl sg).map sqT))) (some (.int (n : Nat))) none none none none none none none none none none none none none) [] = Sms.den cf59 b13_4 (lE (some (.vw (ns.map .int))) (some (.lst (ks.map .int))) (some (.lst ((fms n M rs cl sg).map sqT))) (some (.int (n : Nat))) (some (.ref q3)) none none none none none none none none none none none none) h3 := by
    refine stepS (s := hdS b13_3) rfl ?_
    show Sm.den _ (.set 4 (.lc false _ _ _ _ _)) _ _ = _
    rw [sm_set, e3, gq_ok]; rfl
  have s4 : Sms.den cf59 b13_4 (lE (some (.vw (ns.map .int))) (some (.lst (ks.map .int))) (some (.lst ((fms n M rs cl sg).map sqT))) (some (.int (n : Nat))) (some (.ref q3)) none none none none none none none none none none none none) h3 = Sms.den cf59 b13_9 (lE (some (.vw (ns.map .int))) (some (.lst (ks.map .int))) (some (.lst ((fms n M rs cl sg).map sqT))) (some (.int (n : Nat))) (some (.ref h3.length)) none (some (.int (t : Nat))) (some (.int (c : Nat))) (some (.int (o : Nat))) (some (.int (p : Nat))) none none none none none none none) h5 := by
    generalize D.lst ((fms n M rs cl sg).map sqT) = fd at *
    generalize ((n * n : Nat) : Int) = nn2 at *
    generalize D.lst (ks.map D.int) = kl at *
    generalize D.lst ((ks3.drop t).map .ref) = d1 at *
    generalize D.lst ((ks3.take t).map .ref) = d2 at *
    have p61' : ∀ h, GG (58 + 1) 6 [kl, .int 61, .int 4] h = .ok (.int (c : Nat)) h := p61
    unfold b13_4
    simp [len3, p60]
    unfold b13_5
    simp [sl1, sl2, ad5]
    unfold b13_6
    simp [p61']
    unfold b13_7
    simp [len5, p62]
    unfold b13_8
    simp [len5, p63]
  refine Eq.trans ?_ (s3.trans s4)
  generalize D.lst ((fms n M rs cl sg).map sqT) = fd at *
  generalize sqT ((fms n M rs cl sg).getD 0 []) = d0 at *
  generalize D.lst (ks.map D.int) = kl at *
  unfold b13_0
  simp [eN']
  unfold b13_1
  simp [eF']
  unfold b13_2
  simp [i0, l0]
end K84
theorem PySem.Challenge.cw_matedsquares_k84_codes_holds : PySem.Challenge.rw_matedsquares_k84_codes.Holds := by
  exact K84.all K84.hlaw
