import PyProof.Rows.All
import HandS.Defaults
import HandS.ForExc
import HandS.ForMost
import HandS.Head0
import HandS.Head1
import HandS.Head2
import HandS.HeadEnd
import HandS.HeadHook1
import HandS.HeadHook2
import HandS.HeadHook4
import HandS.IsInst
import HandS.Style
import HandS.TupAny
import HandS.Walk
import HandS.Zip
import KE.DataMinMax
import KE.GoesEnum
import OpenK.AllK
import Wide.All
import Wide.FinOn
import Lean
import PySem.Challenge.RW_lentlimits_k05_whole_kept_exactly_within
set_option Elab.async false
set_option linter.all false
/-! AbCore: a small language for the defs of a text (slots for names, no places), its values as trees over a store of lists, and what its terms reckon. -/
namespace Ab
open PySem

/-- a value: trees of tuples over the leaves; a list by its number in the store -/
inductive D where
  | non | bl (b : Bool) | int (i : Int) | str (x : Str) | tup (ds : List D) | ref (l : Nat) | fn (x : Str)
deriving Inhabited

/-- an exception: its class, its fields -/
structure XV where
  cls : Str
  fs : List (Str × D)

/-- what stands in the store -/
inductive AO where
  | lst (frz : Bool) (ds : List D)
  | dct (kvs : List (D × D))
  | ins (c : Str) (fs : List (Str × D))
  | exo (x : XV)
deriving Inhabited

def AO.mut : AO → Bool
  | .lst true _ => false
  | _ => true

abbrev Sto := List AO
abbrev En := List (Option D)

inductive R (α : Type) where
  | ok (a : α) (st : Sto)
  | ex (x : XV) (st : Sto)
  | bad

def R.bind {α β : Type} (r : R α) (f : α → Sto → R β) : R β :=
  match r with
  | .ok a st => f a st
  | .ex x st => .ex x st
  | .bad => .bad

/-- where nothing may be raised -/
def R.noex {α : Type} (r : R α) : R α :=
  match r with
  | .ex _ _ => .bad
  | r => r

/-- in all: what is wanted of a result -/
def R.sat {α : Type} (r : R α) (Q : α → Sto → Prop) (E : XV → Sto → Prop) : Prop :=
  match r with
  | .ok a st => Q a st
  | .ex x st => E x st
  | .bad => False

inductive Lit where
  | non | bl (b : Bool) | int (i : Int) | str (x : Str)
deriving DecidableEq
def Lit.d : Lit → D
  | .non => .non
  | .bl b => .bl b
  | .int i => .int i
  | .str x => .str x

/-- built-in functions -/
inductive Blt where
  | len | all | any | sum | tuple | list | int | abs | divmod | min | max
deriving DecidableEq
/-- methods of built-in types -/
inductive Mth where
  | append | index | pop
deriving DecidableEq
/-- built-in types that isinstance is asked of -/
inductive Ty where
  | int | bool | str | tuple | list | dict
deriving DecidableEq

mutual
inductive CE where
  | var (i : Nat)
  | lit (l : Lit)
  | glob (x : Str)
  | bin (op : Operator) (a b : CE)
  | neg (a : CE)
  | cmp (op : CmpOp) (a b : CE)
  | chain (o1 o2 : CmpOp) (a b c : CE)
  | and_ (a b : CE)
  | or_ (a b : CE)
  | not_ (a : CE)
  | ife (c a b : CE)
  | tup (es : CEs)
  | lst (es : CEs)
  | sub (a i : CE)
  | slc (a : CE) (lo hi : Pt)
  | call (f : Str) (es : CEs)
  | callk (f : Str) (es : CEs) (ks : List Str) (ws : CEs)
  | blt (b : Blt) (es : CEs)
  | isi (a : CE) (t : Ty)
  | meth (m : Mth) (o : CE) (es : CEs)
  | lc (elt : CE) (tg : Tg) (it : Itr) (cond : Pt) (own : List Nat)
inductive Pt where
  | none
  | some (e : CE)
inductive CEs where
  | nil
  | cons (e : CE) (es : CEs)
inductive Itr where
  | seq (e : CE)
  | rng1 (a : CE)
  | rng2 (a b : CE)
  | enum (e : CE)
  | zip (a b : CE)
inductive Tg where
  | nm (i : Nat)
  | tp (ts : Tgs)
  | sb (a i : CE)
inductive Tgs where
  | nil
  | cons (t : Tg) (ts : Tgs)
end

mutual
inductive CS where
  | asg (t : Tg) (e : CE)
  | par (ts : List Nat) (es : CEs)
  | expr (e : CE)
  | ret (e : CE)
  | retN
  | ife (c : CE) (a b : CSs)
  | for_ (t : Tg) (it : Itr) (b : CSs)
  | while_ (c : CE) (b : CSs)
  | pass
  | never
inductive CSs where
  | nil
  | cons (s : CS) (ss : CSs)
end

structure Fn where
  ps : List Str
  N : List Str
  body : CSs

abbrev Tab := Str → Option Fn
abbrev Gb := Str → Option D

/-! ### values -/
def optAll {α β : Type} (f : α → Option β) : List α → Option (List β)
  | [] => some []
  | x :: xs => match f x, optAll f xs with
    | some y, some ys => some (y :: ys)
    | _, _ => none
/-- as data: lists by what stands in the store, to a depth -/
def pd (st : Sto) : Nat → D → Option PyData
  | 0, d => match d with
    | .non => some .none
    | .bl b => some (.bool b)
    | .int i => some (.int i)
    | .str x => some (.str x)
    | _ => none
  | n + 1, d => match d with
    | .non => some .none
    | .bl b => some (.bool b)
    | .int i => some (.int i)
    | .str x => some (.str x)
    | .tup ds => (optAll (pd st n) ds).map .tuple
    | .ref l => (match st[l]? with
      | some (.lst _ ds) => (optAll (pd st n) ds).map .list
      | _ => none)
    | .fn _ => none
def boolOf : D → Option Bool
  | .bl b => some b
  | _ => none
def intOf : D → Option Int
  | .int i => some i
  | _ => none

/-- == -/
def eqD (st : Sto) (d e : D) : Option Bool :=
  match d, e with
  | .int i, .int j => some (decide (i = j))
  | .str x, .str y => some (decide (x = y))
  | .bl x, .bl y => some (decide (x = y))
  | .non, .non => some true
  | d, e => match pd st 60 d, pd st 60 e with
    | some p, some q => some (PyData.eqv p q)
    | _, _ => none
/-- in -/
def inD (st : Sto) (d : D) : List D → Option Bool
  | [] => some false
  | e :: es => match eqD st e d, inD st d es with
    | some b, some c => some (b || c)
    | _, _ => none
def flatD : D → Bool
  | .non => true | .bl _ => true | .int _ => true | .str _ => true | _ => false

def alloc (o : AO) (st : Sto) : R D := .ok (.ref st.length) (st ++ [o])
def ofOpt {α : Type} (x : Option α) (st : Sto) : R α := match x with
  | some a => .ok a st
  | none => .bad

def binD (op : Operator) (d e : D) (st : Sto) : R D :=
  match op, d, e with
  | .Add, .int i, .int j => .ok (.int (i + j)) st
  | .Add, .str x, .str y => if x.length + y.length ≤ sizeLine then .ok (.str (x ++ y)) st else .bad
  | .Add, .tup xs, .tup ys => if xs.length + ys.length ≤ sizeLine then .ok (.tup (xs ++ ys)) st else .bad
  | .Add, .ref l, .ref k => match st[l]?, st[k]? with
    | some (.lst false xs), some (.lst false ys) => if xs.length + ys.length ≤ sizeLine then alloc (.lst false (xs ++ ys)) st else .bad
    | _, _ => .bad
  | .Sub, .int i, .int j => .ok (.int (i - j)) st
  | .Mult, .int i, .int j => if (-(2 ^ 64) < i ∧ i < 2 ^ 64) ∨ (-(2 ^ 64) < j ∧ j < 2 ^ 64) then .ok (.int (i * j)) st else .bad
  | .Mult, .ref l, .int k => match st[l]? with
    | some (.lst false xs) => if -(2 ^ 63) ≤ k ∧ k < 2 ^ 63 ∧ xs.length * k.toNat ≤ sizeLine then alloc (.lst false (List.replicate k.toNat xs).flatten) st else .bad
    | _ => .bad
  | .FloorDiv, .int i, .int j => if 0 < j ∧ j < 1073741824 then .ok (.int (i / j)) st else .bad
  | .Mod, .int i, .int j => if 0 < j then .ok (.int (i % j)) st else .bad
  | .Pow, .int i, .int j => if 0 ≤ j ∧ j ≤ 1000000 ∧ i.natAbs < 2 ^ 64 then .ok (.int (i ^ j.toNat)) st else .bad
  | _, _, _ => .bad

def subStr (x y : Str) : Bool := !(Builtin.Str.occurrences y x 0 y.length 1).isEmpty
def inOp (d e : D) (st : Sto) : Option Bool :=
  match e with
  | .str y => (match d with
    | .str x => some (subStr x y)
    | _ => none)
  | .tup es => if flatD d && es.all flatD then inD st d es else none
  | .ref l => (match st[l]? with
    | some (.lst _ es) => if flatD d && es.all flatD then inD st d es else none
    | _ => none)
  | _ => none
def cmpD (op : CmpOp) (d e : D) (st : Sto) : Option Bool :=
  match op with
  | .Eq => eqD st d e
  | .NotEq => (eqD st d e).map (!·)
  | .Lt => match d, e with | .int i, .int j => some (decide (i < j)) | _, _ => none
  | .LtE => match d, e with | .int i, .int j => some (decide (i ≤ j)) | _, _ => none
  | .Gt => match d, e with | .int i, .int j => some (decide (j < i)) | _, _ => none
  | .GtE => match d, e with | .int i, .int j => some (decide (j ≤ i)) | _, _ => none
  | .Is => match e with | .non => (match d with | .non => some true | _ => some false) | _ => none
  | .IsNot => match e with | .non => (match d with | .non => some false | _ => some true) | _ => none
  | .In => inOp d e st
  | .NotIn => (inOp d e st).map (!·)

def listOf (st : Sto) : D → Option (List D)
  | .ref l => match st[l]? with
    | some (.lst _ ds) => some ds
    | _ => none
  | _ => none
def seqOf (st : Sto) : D → Option (List D)
  | .tup ds => some ds
  | d => listOf st d

def subD (d i : D) (st : Sto) : R D :=
  match i with
  | .int k => (match d with
    | .tup ds => ofOpt (L2.atI ds k) st
    | .ref l => (match st[l]? with
      | some (.lst _ ds) => ofOpt (L2.atI ds k) st
      | _ => .bad)
    | .str x => if x.length ≤ sizeLine then ofOpt ((L2.atI x.cps.toList k).map fun c => D.str ⟨#[c]⟩) st else .bad
    | _ => .bad)
  | _ => .bad
def setD (d i v : D) (st : Sto) : R Unit :=
  match d, i with
  | .ref l, .int k => (match st[l]? with
    | some (.lst false ds) => (match L2.ixN ds.length k with
      | some j => .ok () (st.set l (.lst false (ds.set j v)))
      | none => .bad)
    | _ => .bad)
  | _, _ => .bad
def cut {α : Type} (xs : List α) (lo hi : Option Int) : List α := (xs.drop (HT.sIx xs.length 0 lo)).take (HT.sIx xs.length xs.length hi - HT.sIx xs.length 0 lo)
def slcD (d : D) (lo hi : Option Int) (st : Sto) : R D :=
  match d with
  | .tup ds => .ok (.tup (cut ds lo hi)) st
  | .ref l => (match st[l]? with
    | some (.lst _ ds) => alloc (.lst false (cut ds lo hi)) st
    | _ => .bad)
  | _ => .bad

def isiD (t : Ty) (d : D) (st : Sto) : Option Bool :=
  match d with
  | .non => some false
  | .bl _ => some (t == .bool || t == .int)
  | .int _ => some (t == .int)
  | .str _ => some (t == .str)
  | .tup _ => some (t == .tuple)
  | .ref l => (match st[l]? with
    | some (.lst _ _) => some (t == .list)
    | _ => none)
  | .fn _ => none

def maxL : List Int → Option Int
  | [] => none
  | x :: xs => some (xs.foldl max x)
def minL : List Int → Option Int
  | [] => none
  | x :: xs => some (xs.foldl min x)
def bltD (b : Blt) (ds : List D) (st : Sto) : R D :=
  match b, ds with
  | .len, [.str x] => if x.length ≤ sizeLine then .ok (.int x.length) st else .bad
  | .len, [d] => ofOpt ((seqOf st d).map fun xs => D.int xs.length) st
  | .all, [d] => ofOpt (((listOf st d).bind (optAll boolOf)).map fun bs => D.bl (bs.all id)) st
  | .any, [d] => ofOpt (((listOf st d).bind (optAll boolOf)).map fun bs => D.bl (bs.any id)) st
  | .sum, [d] => ofOpt (((seqOf st d).bind (optAll intOf)).map fun ns => D.int ns.sum) st
  | .tuple, [d] => ofOpt ((seqOf st d).map fun xs => D.tup xs) st
  | .list, [d] => match seqOf st d with
    | some xs => alloc (.lst false xs) st
    | none => .bad
  | .int, [.int i] => .ok (.int i) st
  | .int, [.bl b] => .ok (.int (if b then 1 else 0)) st
  | .abs, [.int i] => .ok (.int (if i < 0 then -i else i)) st
  | .divmod, [.int i, .int j] => if 0 < j ∧ j < 1073741824 then .ok (.tup [.int (i / j), .int (i % j)]) st else .bad
  | .min, [.int i, .int j] => .ok (.int (if j < i then j else i)) st
  | .max, [.int i, .int j] => .ok (.int (if j > i then j else i)) st
  | .min, [d] => ofOpt ((((listOf st d).bind (optAll intOf)).bind minL).map D.int) st
  | .max, [d] => ofOpt ((((listOf st d).bind (optAll intOf)).bind maxL).map D.int) st
  | _, _ => .bad

def findD (st : Sto) (d : D) : List D → Nat → Option (Option Nat)
  | [], _ => some none
  | e :: es, k => match eqD st e d with
    | some true => some (some k)
    | some false => findD st d es (k + 1)
    | none => none
def mthD (m : Mth) (o : D) (ds : List D) (st : Sto) : R D :=
  match o with
  | .ref l => (match st[l]? with
    | some (.lst false xs) => (match m, ds with
      | .append, [d] => if xs.length < sizeLine then .ok .non (st.set l (.lst false (xs ++ [d]))) else .bad
      | .index, [d] => if flatD d && xs.all flatD then (match findD st d xs 0 with
        | some (some k) => .ok (.int k) st
        | _ => .bad) else .bad
      | .pop, [] => (match xs[xs.length - 1]? with
        | some y => .ok y (st.set l (.lst false xs.dropLast))
        | none => .bad)
      | _, _ => .bad)
    | _ => .bad)
  | _ => .bad

/-! ### what a loop walks: the items, and the list that has to stay as it is -/
structure Src where
  items : List D
  lock : List (Nat × List D)
def Src.still (s : Src) (st : Sto) : Prop := ∀ p ∈ s.lock, ∃ f, st[p.1]? = some (.lst f p.2)
def srcSeq (d : D) (st : Sto) : R Src :=
  match d with
  | .tup ds => .ok ⟨ds, []⟩ st
  | .ref l => (match st[l]? with
    | some (.lst _ ds) => .ok ⟨ds, [(l, ds)]⟩ st
    | _ => .bad)
  | .str x => .ok ⟨x.cps.toList.map fun c => D.str ⟨#[c]⟩, []⟩ st
  | _ => .bad
def rangeL (lo : Int) (n : Nat) : List D := (List.range n).map fun (k : Nat) => D.int (lo + (k : Int))
@[irreducible] def srcRng (i j : D) (st : Sto) : R Src :=
  match i, j with
  | .int i, .int j => if -(2 ^ 62) ≤ i ∧ i < 2 ^ 62 ∧ -(2 ^ 62) ≤ j ∧ j < 2 ^ 62 then .ok ⟨rangeL i (j - i).toNat, []⟩ st else .bad
  | _, _ => .bad
def enumL (k : Nat) : List D → List D
  | [] => []
  | d :: ds => .tup [.int (k : Int), d] :: enumL (k + 1) ds
def srcEnum (d : D) (st : Sto) : R Src :=
  match d with
  | .tup ds => .ok ⟨enumL 0 ds, []⟩ st
  | .ref l => (match st[l]? with
    | some (.lst _ ds) => .ok ⟨enumL 0 ds, [(l, ds)]⟩ st
    | _ => .bad)
  | _ => .bad
def zipL : List D → List D → List D
  | x :: xs, y :: ys => .tup [x, y] :: zipL xs ys
  | _, _ => []

def srcZip (d e : D) (st : Sto) : R Src :=
  match d, e with
  | .tup xs, .tup ys => .ok ⟨zipL xs ys, []⟩ st
  | .ref l, .ref k => (match st[l]?, st[k]? with
    | some (.lst _ xs), some (.lst _ ys) => .ok ⟨zipL xs ys, [(l, xs), (k, ys)]⟩ st
    | _, _ => .bad)
  | _, _ => .bad

def wipeE (env : En) : List Nat → En
  | [] => env
  | v :: vs => (wipeE env vs).set v none

open Classical in
/-- the items of a comprehension, one behind another; what it has made stands apart from the store -/
noncomputable def lcLoop (s : Src) (f : D → Sto → R (Option D)) : List D → List D → Sto → R (List D)
  | [], acc, st => if s.still st then .ok acc st else .bad
  | d :: ds, acc, st => if s.still st then (f d st).bind fun r st1 => match r with
    | some y => if acc.length < sizeLine then lcLoop s f ds (acc ++ [y]) st1 else .bad
    | none => lcLoop s f ds acc st1 else .bad

/-! ### statements' ends -/
inductive RS where
  | nx (env : En) (st : Sto)
  | rt (d : D) (st : Sto)
  | bk (env : En) (st : Sto)
  | ct (env : En) (st : Sto)
  | ex (x : XV) (env : En) (st : Sto)
  | bad
def RS.of {α : Type} (env : En) (r : R α) (f : α → Sto → RS) : RS := match r with
  | .ok a st => f a st
  | .ex x st => .ex x env st
  | .bad => .bad
def RS.andThen (r : RS) (f : En → Sto → RS) : RS := match r with
  | .nx env st => f env st
  | r => r

open Classical in
noncomputable def forLoop (s : Src) (g : D → En → Sto → R En) (b : En → Sto → RS) : List D → En → Sto → RS
  | [], env, st => if s.still st then .nx env st else .bad
  | d :: ds, env, st => if s.still st then RS.of env (g d env st) fun env1 st1 => match b env1 st1 with
    | .nx env2 st2 => forLoop s g b ds env2 st2
    | .ct env2 st2 => forLoop s g b ds env2 st2
    | .bk env2 st2 => .nx env2 st2
    | r => r else .bad
def whileLoop (c : En → Sto → R Bool) (b : En → Sto → RS) : Nat → En → Sto → RS
  | 0, _, _ => .bad
  | n + 1, env, st => RS.of env (c env st) fun k st1 => if k = true then (match b env st1 with
    | .nx env2 st2 => whileLoop c b n env2 st2
    | .ct env2 st2 => whileLoop c b n env2 st2
    | .bk env2 st2 => .nx env2 st2
    | r => r) else .nx env st1

/-- the longest while -/
def turns : Nat := 10 ^ 12

def asBool (d : D) (st : Sto) : R Bool := match d with
  | .bl b => .ok b st
  | _ => .bad
def asPart (d : D) (st : Sto) : R (Option Int) := match d with
  | .int i => .ok (some i) st
  | _ => .bad

section
variable (T : Tab) (G : Gb) (F : Str → List D → Sto → R D)
def lookKw (ks : List Str) (ws : List D) (p : Str) : Option D := (ks.zip ws).lookup p
/-- positional values, then the keywords' in the parameters' order -/
def bindKw (ps : List Str) (ds : List D) (ks : List Str) (ws : List D) : Option (List D) :=
  (optAll (lookKw ks ws) (ps.drop ds.length)).map (ds ++ ·)

mutual
noncomputable def evE : CE → En → Sto → R D
  | .var i, env, st => match env[i]? with
    | some (some d) => .ok d st
    | _ => .bad
  | .lit l, _, st => .ok l.d st
  | .glob x, _, st => ofOpt (G x) st
  | .bin op a b, env, st => (evE a env st).bind fun d st1 => (evE b env st1).bind fun e st2 => binD op d e st2
  | .neg a, env, st => (evE a env st).bind fun d st1 => match d with
    | .int i => .ok (.int (-i)) st1
    | _ => .bad
  | .cmp op a b, env, st => (evE a env st).bind fun d st1 => (evE b env st1).bind fun e st2 => ofOpt ((cmpD op d e st2).map D.bl) st2
  | .chain o1 o2 a b c, env, st => (evE a env st).bind fun d st1 => (evE b env st1).bind fun e st2 => (ofOpt (cmpD o1 d e st2) st2).bind fun k st3 =>
      if k = true then (evE c env st3).bind fun h st4 => ofOpt ((cmpD o2 e h st4).map D.bl) st4 else .ok (.bl false) st3
  | .and_ a b, env, st => (evE a env st).bind fun d st1 => (asBool d st1).bind fun k st2 => if k = true then evE b env st2 else .ok (.bl false) st2
  | .or_ a b, env, st => (evE a env st).bind fun d st1 => (asBool d st1).bind fun k st2 => if k = true then .ok (.bl true) st2 else evE b env st2
  | .not_ a, env, st => (evE a env st).bind fun d st1 => (asBool d st1).bind fun k st2 => .ok (.bl (!k)) st2
  | .ife c a b, env, st => (evE c env st).bind fun d st1 => (asBool d st1).bind fun k st2 => if k = true then evE a env st2 else evE b env st2
  | .tup es, env, st => (evEs es env st).bind fun ds st1 => if ds.length ≤ sizeLine then .ok (.tup ds) st1 else .bad
  | .lst es, env, st => (evEs es env st).bind fun ds st1 => if ds.length ≤ sizeLine then alloc (.lst false ds) st1 else .bad
  | .sub a i, env, st => (evE a env st).bind fun d st1 => (evE i env st1).bind fun k st2 => subD d k st2
  | .slc a lo hi, env, st => (evE a env st).bind fun d st1 => (evP lo env st1).bind fun l st2 => (evP hi env st2).bind fun h st3 => slcD d l h st3
  | .call f es, env, st => (evEs es env st).bind fun ds st1 => F f ds st1
  | .callk f es ks ws, env, st => (evEs es env st).bind fun ds st1 => (evEs ws env st1).bind fun zs st2 => match T f with
    | some fn => (match bindKw fn.ps ds ks zs with
      | some as => F f as st2
      | none => .bad)
    | none => .bad
  | .blt b es, env, st => (evEs es env st).bind fun ds st1 => bltD b ds st1
  | .isi a t, env, st => (evE a env st).bind fun d st1 => ofOpt ((isiD t d st1).map D.bl) st1
  | .meth m o es, env, st => (evE o env st).bind fun d st1 => match listOf st1 d with
    | some _ => (evEs es env st1).bind fun ds st2 => mthD m d ds st2
    | none => .bad
  | .lc elt tg it cond own, env, st => (evI it env st).bind fun s st1 =>
      (lcLoop s (fun d st2 => (setT tg d (wipeE env own) st2).bind fun env2 st3 => (evC cond env2 st3).noex.bind fun k st4 =>
        if k = true then (evE elt env2 st4).noex.bind fun y st5 => .ok (some y) st5 else .ok none st4) s.items [] st1).noex.bind fun ys st6 => alloc (.lst false ys) st6
/-- a clause's test: none is true -/
noncomputable def evC : Pt → En → Sto → R Bool
  | .none, _, st => .ok true st
  | .some c, env, st => (evE c env st).bind fun d st1 => asBool d st1
noncomputable def evP : Pt → En → Sto → R (Option Int)
  | .none, _, st => .ok Option.none st
  | .some e, env, st => (evE e env st).bind fun d st1 => asPart d st1
noncomputable def evEs : CEs → En → Sto → R (List D)
  | .nil, _, st => .ok [] st
  | .cons e es, env, st => (evE e env st).bind fun d st1 => (evEs es env st1).bind fun ds st2 => .ok (d :: ds) st2
noncomputable def evI : Itr → En → Sto → R Src
  | .seq e, env, st => (evE e env st).bind fun d st1 => srcSeq d st1
  | .rng1 a, env, st => (evE a env st).bind fun d st1 => srcRng (.int 0) d st1
  | .rng2 a b, env, st => (evE a env st).bind fun d st1 => (evE b env st1).bind fun e st2 => srcRng d e st2
  | .enum e, env, st => (evE e env st).bind fun d st1 => srcEnum d st1
  | .zip a b, env, st => (evE a env st).bind fun d st1 => (evE b env st1).bind fun e st2 => srcZip d e st2
noncomputable def setT : Tg → D → En → Sto → R En
  | .nm i, d, env, st => .ok (env.set i (some d)) st
  | .tp ts, d, env, st => match d with
    | .tup ds => setTs ts ds env st
    | _ => .bad
  | .sb a i, d, env, st => (evE a env st).noex.bind fun o st1 => (evE i env st1).noex.bind fun k st2 => (setD o k d st2).bind fun _ st3 => .ok env st3
noncomputable def setTs : Tgs → List D → En → Sto → R En
  | .nil, ds, env, st => match ds with
    | [] => .ok env st
    | _ => .bad
  | .cons t ts, ds, env, st => match ds with
    | d :: r => (setT t d env st).bind fun env1 st1 => setTs ts r env1 st1
    | [] => .bad
end
/-- c as a test -/
noncomputable def evT (c : CE) (env : En) (st : Sto) : R Bool := (evE T G F c env st).bind fun d st1 => asBool d st1

mutual
noncomputable def evS : CS → En → Sto → RS
  | .asg t e, env, st => RS.of env (evE T G F e env st) fun d st1 => RS.of env (setT T G F t d env st1) fun env1 st2 => .nx env1 st2
  | .par ts es, env, st => RS.of env (evEs T G F es env st) fun ds st1 => if ds.length = ts.length then .nx ((ts.zip ds).foldl (fun (v : En) p => v.set p.1 (some p.2)) env) st1 else .bad
  | .expr e, env, st => RS.of env (evE T G F e env st) fun _ st1 => .nx env st1
  | .ret e, env, st => RS.of env (evE T G F e env st) fun d st1 => .rt d st1
  | .retN, _, st => .rt .non st
  | .ife c a b, env, st => RS.of env (evT T G F c env st) fun k st1 => if k = true then evSs a env st1 else evSs b env st1
  | .for_ t it b, env, st => RS.of env (evI T G F it env st) fun s st1 => forLoop s (setT T G F t) (evSs b) s.items env st1
  | .while_ c b, env, st => whileLoop (evT T G F c) (evSs b) turns env st
  | .pass, env, st => .nx env st
  | .never, _, _ => .bad
noncomputable def evSs : CSs → En → Sto → RS
  | .nil, env, st => .nx env st
  | .cons s ss, env, st => (evS s env st).andThen (evSs ss)
end

/-- a def's body, from its arguments on -/
noncomputable def runFn (fn : Fn) (ds : List D) (st : Sto) : R D :=
  match evSs T G F fn.body (ds.map some ++ List.replicate (fn.N.length - ds.length) none) st with
  | .nx _ st' => .ok .non st'
  | .rt d st' => .ok d st'
  | .ex x _ st' => .ex x st'
  | _ => .bad
end

noncomputable def callN (T : Tab) (G : Gb) : Nat → Str → List D → Sto → R D
  | 0, _, _, _ => .bad
  | k + 1, f, ds, st => match T f with
    | some fn => if ds.length = fn.ps.length then runFn T G (callN T G k) fn ds st else .bad
    | none => .bad
/-- a call, by depth -/
@[irreducible] noncomputable def callF (T : Tab) (G : Gb) : Nat → Str → List D → Sto → R D := callN T G
theorem callF_def {T : Tab} {G : Gb} : callF T G = callN T G := by unfold callF <;> rfl
theorem callF_zero {T : Tab} {G : Gb} {f : Str} {ds : List D} {st : Sto} : callF T G 0 f ds st = .bad := by rw [callF_def] <;> rfl
theorem callF_succ {T : Tab} {G : Gb} {k : Nat} {f : Str} {fn : Fn} {ds : List D} {st : Sto} (h : T f = some fn) (hl : ds.length = fn.ps.length) : callF T G (k + 1) f ds st = runFn T G (callF T G k) fn ds st := by
  rw [callF_def]
  show (match T f with
    | some fn => if ds.length = fn.ps.length then runFn T G (callN T G k) fn ds st else .bad
    | none => .bad) = _
  rw [h]
  exact if_pos hl
theorem callF_len {T : Tab} {G : Gb} {k : Nat} {f : Str} {fn : Fn} (hf : T f = some fn) {ds : List D} {st : Sto} (h : ds.length ≠ fn.ps.length) : callF T G k f ds st = .bad := by
  cases k with
  | zero => exact callF_zero
  | succ k =>
    rw [callF_def]
    show (match T f with
      | some fn => if ds.length = fn.ps.length then runFn T G (callN T G k) fn ds st else .bad
      | none => .bad) = _
    rw [hf]
    exact if_neg h
end Ab

set_option Elab.async false
set_option linter.all false
set_option autoImplicit false
/-! AbRel: how a value and a store lie in the layer's heap; readings that a term's reckoning gives. -/
namespace Ab
open PySem PySem.Spec PyProof.Rows L2

def sOk (x : Str) : Bool := x.cps.all (· < 0x110000)

section
variable (K : PySem.W.Frag) (mg : Str → Option Value) (m : List Addr) (H : Hp)
mutual
def Den : D → V → Prop
  | .non, v => v = .non
  | .bl b, v => v = .bl b
  | .int i, v => v = .int i
  | .str x, v => v = .str x ∧ sOk x = true
  | .tup ds, v => ∃ a vs, v = .ref a ∧ SqT K H a vs ∧ Dens ds vs
  | .ref l, v => ∃ a, m[l]? = some a ∧ v = .ref a
  | .fn x, v => ∃ a, mg x = some (.ref a) ∧ v = .ref a
def Dens : List D → List V → Prop
  | [], vs => vs = []
  | d :: ds, vs => ∃ v r, vs = v :: r ∧ Den d v ∧ Dens ds r
end
/-- an object of the store -/
def ObjD (a : Addr) : AO → Prop
  | .lst false ds => ∃ vs, H a = some (.lst vs) ∧ Dens K mg m H ds vs
  | .lst true ds => ∃ vs, ((∃ o, H a = some (.frz o (.lst vs))) ∨ (∀ H', SqL K H' a vs)) ∧ Dens K mg m H ds vs
  | _ => False
end
/-- a place of the heap that the store may change -/
def Trk (m : List Addr) (st : Sto) (a : Addr) : Prop := ∃ (l : Nat) (o : AO), m[l]? = some a ∧ st[l]? = some o ∧ o.mut = true

structure StOk (K : PySem.W.Frag) (mg : Str → Option Value) (m : List Addr) (H : Hp) (st : Sto) : Prop where
  len : m.length = st.length
  inj : ∀ (l k : Nat) (a : Addr) (o u : AO), m[l]? = some a → m[k]? = some a → st[l]? = some o → st[k]? = some u → o.mut = true → u.mut = true → l = k
  obj : ∀ (l : Nat) (a : Addr) (o : AO), m[l]? = some a → st[l]? = some o → ObjD K mg m H a o

structure Grow (m : List Addr) (H : Hp) (st : Sto) (m' : List Addr) (H' : Hp) (st' : Sto) : Prop where
  ext : ∀ (l : Nat) (a : Addr), m[l]? = some a → m'[l]? = some a
  keep : ∀ a o, H a = some o → ¬ Trk m st a → H' a = some o ∧ ¬ Trk m' st' a

theorem Grow.refl {m : List Addr} {H : Hp} {st : Sto} : Grow m H st m H st := ⟨fun _ _ h => h, fun _ _ h k => ⟨h, k⟩⟩
theorem Grow.trans {m m1 m2 : List Addr} {H H1 H2 : Hp} {st st1 st2 : Sto} (a : Grow m H st m1 H1 st1) (b : Grow m1 H1 st1 m2 H2 st2) : Grow m H st m2 H2 st2 :=
  ⟨fun l c h => b.ext l c (a.ext l c h), fun c o h k => let ⟨h1, k1⟩ := a.keep c o h k; b.keep c o h1 k1⟩

section
variable {K : PySem.W.Frag} {mg : Str → Option Value} {m m' : List Addr} {H H' : Hp} {st st' : Sto}

/-- a tuple's place isn't one that the store changes -/
theorem StOk.noTrk (S : StOk K mg m H st) {a : Addr} {o : HO} (h : H a = some o) (hn : ∀ vs, o ≠ .lst vs) : ¬ Trk m st a := by
  rintro ⟨l, u, h1, h2, h3⟩
  have q := S.obj l a u h1 h2
  cases u with
  | lst f ds =>
    cases f with
    | true => cases h3
    | false =>
      obtain ⟨vs, e, _⟩ := q
      rw [h] at e
      cases e
      exact hn vs rfl
  | dct _ => exact q
  | ins _ _ => exact q
  | exo _ => exact q
theorem SqT.grow (S : StOk K mg m H st) (g : Grow m H st m' H' st') {a : Addr} {vs : List V} (h : SqT K H a vs) : SqT K H' a vs := by
  rcases h with (h | ⟨o, h⟩) | h
  · exact .inl (.inl (g.keep a _ h (S.noTrk h fun _ z => nomatch z)).1)
  · exact .inl (.inr ⟨o, (g.keep a _ h (S.noTrk h fun _ z => nomatch z)).1⟩)
  · exact .inr h
mutual
theorem Den.mono (he : ∀ (l : Nat) (a : Addr), m[l]? = some a → m'[l]? = some a) (ht : ∀ a vs, SqT K H a vs → SqT K H' a vs) : ∀ (d : D) (v : V), Den K mg m H d v → Den K mg m' H' d v
  | .non, _, h => h
  | .bl _, _, h => h
  | .int _, _, h => h
  | .str _, _, h => h
  | .tup ds, _, h => by
    obtain ⟨a, vs, e, h1, h2⟩ := h
    exact ⟨a, vs, e, ht _ _ h1, Dens.mono he ht ds vs h2⟩
  | .ref _, _, h => by
    obtain ⟨a, h1, h2⟩ := h
    exact ⟨a, he _ _ h1, h2⟩
  | .fn _, _, h => h
theorem Dens.mono (he : ∀ (l : Nat) (a : Addr), m[l]? = some a → m'[l]? = some a) (ht : ∀ a vs, SqT K H a vs → SqT K H' a vs) : ∀ (ds : List D) (vs : List V), Dens K mg m H ds vs → Dens K mg m' H' ds vs
  | [], _, h => h
  | d :: ds, _, h => by
    obtain ⟨v, r, e, h1, h2⟩ := h
    exact ⟨v, r, e, Den.mono he ht d v h1, Dens.mono he ht ds r h2⟩
end
theorem Den.grow (S : StOk K mg m H st) (g : Grow m H st m' H' st') {d : D} {v : V} (h : Den K mg m H d v) : Den K mg m' H' d v := Den.mono g.ext (fun _ _ q => SqT.grow S g q) d v h
theorem Dens.grow (S : StOk K mg m H st) (g : Grow m H st m' H' st') {ds : List D} {vs : List V} (h : Dens K mg m H ds vs) : Dens K mg m' H' ds vs := Dens.mono g.ext (fun _ _ q => SqT.grow S g q) ds vs h

theorem Dens.length : ∀ {ds : List D} {vs : List V}, Dens K mg m H ds vs → ds.length = vs.length
  | [], _, h => by
    cases h
    rfl
  | _ :: ds, _, h => by
    obtain ⟨v, r, rfl, _, h2⟩ := h
    simp [Dens.length h2]
theorem Dens.get : ∀ {ds : List D} {vs : List V} {i : Nat} {d : D}, Dens K mg m H ds vs → ds[i]? = some d → ∃ v, vs[i]? = some v ∧ Den K mg m H d v
  | [], _, _, _, _, e => by simp at e
  | d :: ds, _, 0, _, h, e => by
    obtain ⟨v, r, rfl, h1, _⟩ := h
    simp at e
    subst e
    exact ⟨v, rfl, h1⟩
  | d :: ds, _, i + 1, _, h, e => by
    obtain ⟨v, r, rfl, _, h2⟩ := h
    obtain ⟨u, q1, q2⟩ := Dens.get (i := i) h2 (by simpa using e)
    exact ⟨u, by simpa using q1, q2⟩
theorem Dens.append : ∀ {ds es : List D} {vs us : List V}, Dens K mg m H ds vs → Dens K mg m H es us → Dens K mg m H (ds ++ es) (vs ++ us)
  | [], _, _, _, h, q => by
    cases h
    exact q
  | _ :: ds, _, _, _, h, q => by
    obtain ⟨v, r, rfl, h1, h2⟩ := h
    exact ⟨v, r ++ _, rfl, h1, Dens.append h2 q⟩
theorem Dens.one {d : D} {v : V} (h : Den K mg m H d v) : Dens K mg m H [d] [v] := ⟨v, [], rfl, h, rfl⟩
theorem Dens.take : ∀ {ds : List D} {vs : List V} (n : Nat), Dens K mg m H ds vs → Dens K mg m H (ds.take n) (vs.take n)
  | _, _, 0, _ => by simp [Dens]
  | [], _, n + 1, h => by
    cases h
    simp [Dens]
  | _ :: ds, _, n + 1, h => by
    obtain ⟨v, r, rfl, h1, h2⟩ := h
    exact ⟨v, r.take n, rfl, h1, Dens.take n h2⟩
theorem Dens.drop : ∀ {ds : List D} {vs : List V} (n : Nat), Dens K mg m H ds vs → Dens K mg m H (ds.drop n) (vs.drop n)
  | _, _, 0, h => by simpa using h
  | [], _, n + 1, h => by
    cases h
    simp [Dens]
  | _ :: ds, _, n + 1, h => by
    obtain ⟨v, r, rfl, h1, h2⟩ := h
    simpa using Dens.drop n h2
theorem Dens.set : ∀ {ds : List D} {vs : List V} {d : D} {v : V} (n : Nat), Dens K mg m H ds vs → Den K mg m H d v → Dens K mg m H (ds.set n d) (vs.set n v)
  | [], _, _, _, n, h, _ => by
    cases h
    simp [Dens]
  | _ :: ds, _, _, _, 0, h, q => by
    obtain ⟨v, r, rfl, h1, h2⟩ := h
    exact ⟨_, r, rfl, q, h2⟩
  | _ :: ds, _, _, _, n + 1, h, q => by
    obtain ⟨v, r, rfl, h1, h2⟩ := h
    exact ⟨v, r.set n _, rfl, h1, Dens.set n h2 q⟩

/-! ### a new list; a list changed -/
theorem Trk.some (S : StOk K mg m H st) {a : Addr} (t : Trk m st a) : ∃ vs, H a = Option.some (.lst vs) := by
  obtain ⟨l, u, h1, h2, h3⟩ := t
  have q := S.obj l a u h1 h2
  cases u with
  | lst f ds =>
    cases f with
    | true => cases h3
    | false =>
      obtain ⟨vs, e, _⟩ := q
      exact ⟨vs, e⟩
  | dct _ => exact q.elim
  | ins _ _ => exact q.elim
  | exo _ => exact q.elim
theorem get_snoc {α : Type} {xs : List α} {x y : α} {i : Nat} (h : (xs ++ [x])[i]? = some y) : xs[i]? = some y ∨ (i = xs.length ∧ x = y) := by
  by_cases hi : i < xs.length
  · rw [List.getElem?_append_left hi] at h
    exact .inl h
  · rw [List.getElem?_append_right (by omega)] at h
    cases q : i - xs.length with
    | zero =>
      rw [q] at h
      exact .inr ⟨by omega, by simpa using h⟩
    | succ n =>
      rw [q] at h
      simp at h
theorem get_snoc_old {α : Type} {xs : List α} {x y : α} {i : Nat} (h : xs[i]? = some y) : (xs ++ [x])[i]? = some y := by
  rw [List.getElem?_append_left (List.getElem?_eq_some_iff.mp h).1]
  exact h
theorem Trk.snoc {p a : Addr} {o : AO} (hl : m.length = st.length) (t : Trk (m ++ [p]) (st ++ [o]) a) : Trk m st a ∨ a = p := by
  obtain ⟨l, u, h1, h2, h3⟩ := t
  rcases get_snoc h1 with h1 | ⟨e1, h1⟩
  · rcases get_snoc h2 with h2 | ⟨e2, _⟩
    · exact .inl ⟨l, u, h1, h2, h3⟩
    · have := (List.getElem?_eq_some_iff.mp h1).1
      omega
  · exact .inr h1.symm
theorem ObjD.mono {a : Addr} (he : ∀ (l : Nat) (a : Addr), m[l]? = some a → m'[l]? = some a) (ht : ∀ a vs, SqT K H a vs → SqT K H' a vs) (hf : ∀ o vs, H a = some (.frz o (.lst vs)) → H' a = some (.frz o (.lst vs))) :
    ∀ {o : AO}, (o.mut = true → ∀ vs, H a = some (.lst vs) → H' a = some (.lst vs)) → ObjD K mg m H a o → ObjD K mg m' H' a o
  | .lst false ds, hl, h => by
    obtain ⟨vs, h1, h2⟩ := h
    exact ⟨vs, hl rfl vs h1, Dens.mono he ht ds vs h2⟩
  | .lst true ds, _, h => by
    obtain ⟨vs, h1, h2⟩ := h
    refine ⟨vs, ?_, Dens.mono he ht ds vs h2⟩
    rcases h1 with ⟨o, e⟩ | e
    · exact .inl ⟨o, hf o vs e⟩
    · exact .inr e
  | .dct _, _, h => h.elim
  | .ins _ _, _, h => h.elim
  | .exo _, _, h => h.elim
/-- a thing that is no tuple changes, the store doesn't know it -/
theorem sqT_upd {p : Addr} {o : HO} (hp : H p = none ∨ (∃ vs, H p = some (.lst vs))) : ∀ a vs, SqT K H a vs → SqT K (upd H p o) a vs := fun a vs h => by
  rcases h with (h | ⟨u, h⟩) | h
  · refine .inl (.inl ?_)
    rw [upd_ne (fun z => ?_)]
    · exact h
    · subst z
      rcases hp with q | ⟨_, q⟩ <;> (rw [q] at h; cases h)
  · refine .inl (.inr ⟨u, ?_⟩)
    rw [upd_ne (fun z => ?_)]
    · exact h
    · subst z
      rcases hp with q | ⟨_, q⟩ <;> (rw [q] at h; cases h)
  · exact .inr h
theorem frz_upd {p : Addr} {o : HO} (hp : H p = none ∨ (∃ vs, H p = some (.lst vs))) {a : Addr} {u : Obj} {vs : List V} (e : H a = some (.frz u (.lst vs))) : upd H p o a = some (.frz u (.lst vs)) := by
  rw [upd_ne (fun z => ?_)]
  · exact e
  · subst z
    rcases hp with q | ⟨_, q⟩ <;> (rw [q] at e; cases e)
theorem StOk.poke (S : StOk K mg m H st) {p : Addr} {o : HO} (hp : H p = none ∨ (∃ vs, H p = some (.lst vs))) (hn : ¬ Trk m st p) : StOk K mg m (upd H p o) st :=
  ⟨S.len, S.inj, fun l a u h1 h2 => (S.obj l a u h1 h2).mono (fun _ _ h => h) (sqT_upd hp) (fun o vs e => frz_upd hp e) (fun hu vs e => by
    rw [upd_ne (fun z => hn ⟨l, u, by rw [← z]; exact h1, h2, hu⟩)]
    exact e)⟩
/-- a new thing that the store doesn't know -/
theorem Grow.lay (S : StOk K mg m H st) {p : Addr} {o : HO} (hp : H p = none) : Grow m H st m (upd H p o) st :=
  ⟨fun _ _ h => h, fun a u h k => ⟨by rw [upd_ne (ne_of_none h hp)]; exact h, k⟩⟩
theorem StOk.noTrkNone (S : StOk K mg m H st) {p : Addr} (hp : H p = none) : ¬ Trk m st p := fun t => by
  obtain ⟨vs, e⟩ := t.some S
  rw [hp] at e
  cases e
/-- a list that the store doesn't know joins it -/
theorem StOk.join (S : StOk K mg m H st) {p : Addr} {vs : List V} {ds : List D} (hp : H p = some (.lst vs)) (hn : ¬ Trk m st p) (hd : Dens K mg m H ds vs) : StOk K mg (m ++ [p]) H (st ++ [.lst false ds]) := by
  have ext : ∀ (l : Nat) (a : Addr), m[l]? = some a → (m ++ [p])[l]? = some a := fun l a h => get_snoc_old h
  refine ⟨by simp [S.len], fun l k a o u h1 h2 h3 h4 h5 h6 => ?_, fun l a o h1 h2 => ?_⟩
  · rcases get_snoc h3 with h3 | ⟨e3, h3⟩
    · rcases get_snoc h1 with h1 | ⟨e1, h1⟩
      · rcases get_snoc h4 with h4 | ⟨e4, h4⟩
        · rcases get_snoc h2 with h2 | ⟨e2, h2⟩
          · exact S.inj l k a o u h1 h2 h3 h4 h5 h6
          · have := (List.getElem?_eq_some_iff.mp h4).1
            have := S.len
            omega
        · rcases get_snoc h2 with h2 | ⟨e2, h2⟩
          · have := (List.getElem?_eq_some_iff.mp h2).1
            have := S.len
            omega
          · exact absurd ⟨l, o, by rw [h2]; exact h1, h3, h5⟩ hn
      · have := (List.getElem?_eq_some_iff.mp h3).1
        have := S.len
        omega
    · rcases get_snoc h4 with h4 | ⟨e4, h4⟩
      · rcases get_snoc h1 with h1 | ⟨e1, h1⟩
        · have := (List.getElem?_eq_some_iff.mp h1).1
          have := S.len
          omega
        · rcases get_snoc h2 with h2 | ⟨e2, h2⟩
          · exact absurd ⟨k, u, by rw [h1]; exact h2, h4, h6⟩ hn
          · have := (List.getElem?_eq_some_iff.mp h4).1
            have := S.len
            omega
      · omega
  · rcases get_snoc h2 with h2 | ⟨e2, h2⟩
    · rcases get_snoc h1 with h1 | ⟨e1, h1⟩
      · exact (S.obj l a o h1 h2).mono ext (fun _ _ h => h) (fun _ _ h => h) (fun _ _ h => h)
      · have := (List.getElem?_eq_some_iff.mp h2).1
        have := S.len
        omega
    · rcases get_snoc h1 with h1 | ⟨e1, h1⟩
      · have := (List.getElem?_eq_some_iff.mp h1).1
        have := S.len
        omega
      · subst h1
        subst h2
        exact ⟨vs, hp, Dens.mono ext (fun _ _ h => h) ds vs hd⟩
theorem Grow.join {m0 : List Addr} {H0 : Hp} {st0 : Sto} (g : Grow m0 H0 st0 m H st) (hl : m.length = st.length) {p : Addr} {ds : List D} (hp : H0 p = none) : Grow m0 H0 st0 (m ++ [p]) H (st ++ [.lst false ds]) :=
  ⟨fun l a h => get_snoc_old (g.ext l a h), fun a o h k => by
    obtain ⟨h1, k1⟩ := g.keep a o h k
    refine ⟨h1, fun t => ?_⟩
    rcases Trk.snoc hl t with t | rfl
    · exact k1 t
    · rw [hp] at h
      cases h⟩
theorem Grow.poke {m0 : List Addr} {H0 : Hp} {st0 : Sto} (g : Grow m0 H0 st0 m H st) {p : Addr} {o : HO} (hp : H0 p = none) : Grow m0 H0 st0 m (upd H p o) st :=
  ⟨g.ext, fun a u h k => by
    obtain ⟨h1, k1⟩ := g.keep a u h k
    rw [upd_ne (ne_of_none h hp)]
    exact ⟨h1, k1⟩⟩
/-- a new list -/
theorem StOk.alloc (S : StOk K mg m H st) {p : Addr} {vs : List V} {ds : List D} (hp : H p = none) (hd : Dens K mg m H ds vs) :
    StOk K mg (m ++ [p]) (upd H p (.lst vs)) (st ++ [.lst false ds]) ∧ Grow m H st (m ++ [p]) (upd H p (.lst vs)) (st ++ [.lst false ds]) ∧ (m ++ [p])[st.length]? = some p := by
  have S1 : StOk K mg m (upd H p (.lst vs)) st := S.poke (.inl hp) (S.noTrkNone hp)
  have g1 : Grow m H st m (upd H p (.lst vs)) st := Grow.lay S hp
  refine ⟨S1.join upd_same (S.noTrkNone hp) (Dens.grow S g1 hd), g1.join S.len hp, ?_⟩
  rw [← S.len, List.getElem?_append_right (Nat.le_refl _)]
  simp
/-- a list changed -/
theorem StOk.put (S : StOk K mg m H st) {l : Nat} {p : Addr} {vs : List V} {ds es : List D} (hl : m[l]? = some p) (hs : st[l]? = some (.lst false es)) (hd : Dens K mg m H ds vs) :
    StOk K mg m (upd H p (.lst vs)) (st.set l (.lst false ds)) ∧ Grow m H st m (upd H p (.lst vs)) (st.set l (.lst false ds)) := by
  obtain ⟨vs0, hp, _⟩ := S.obj l p _ hl hs
  have hlt : l < st.length := (List.getElem?_eq_some_iff.mp hs).1
  have trk : ∀ {k : Nat} {o : AO}, (st.set l (.lst false ds))[k]? = some o → o.mut = true → ∃ u, st[k]? = some u ∧ u.mut = true := fun {k o} h hm => by
    by_cases e : l = k
    · subst e
      exact ⟨_, hs, rfl⟩
    · rw [List.getElem?_set_ne e] at h
      exact ⟨o, h, hm⟩
  have sq := sqT_upd (K := K) (o := .lst vs) (.inr ⟨vs0, hp⟩)
  refine ⟨⟨by simp [S.len], fun i k a o u h1 h2 h3 h4 h5 h6 => ?_, fun k a o h1 h2 => ?_⟩, fun _ _ h => h, fun a o h k => ⟨?_, ?_⟩⟩
  · obtain ⟨o', h3, h5⟩ := trk h3 h5
    obtain ⟨u', h4, h6⟩ := trk h4 h6
    exact S.inj i k a o' u' h1 h2 h3 h4 h5 h6
  · by_cases e : l = k
    · subst e
      rw [hl] at h1
      cases h1
      rw [List.getElem?_set_self hlt] at h2
      cases h2
      exact ⟨vs, upd_same, Dens.mono (fun _ _ h => h) sq ds vs hd⟩
    · rw [List.getElem?_set_ne e] at h2
      refine (S.obj k a o h1 h2).mono (fun _ _ h => h) sq (fun o vs e => frz_upd (.inr ⟨vs0, hp⟩) e) (fun hu ws q => ?_)
      rw [upd_ne (fun z => e (S.inj l k p _ o hl (by rw [← z]; exact h1) hs h2 rfl hu))]
      exact q
  · rw [upd_ne (fun z => k ⟨l, _, by rw [z]; exact hl, hs, rfl⟩)]
    exact h
  · rintro ⟨i, u, h1, h2, h3⟩
    obtain ⟨u', h2, h3⟩ := trk h2 h3
    exact k ⟨i, u', h1, h2, h3⟩

/-! ### slots -/
def EnOk (K : PySem.W.Frag) (mg : Str → Option Value) (m : List Addr) (H : Hp) (σ : L2.St) (env : En) : Prop :=
  env.length = σ.length ∧ ∀ (i : Nat) (d : D), env[i]? = some (some d) → ∃ v, σ[i]? = some (some v) ∧ Den K mg m H d v
theorem EnOk.grow (S : StOk K mg m H st) (g : Grow m H st m' H' st') {σ : L2.St} {env : En} (h : EnOk K mg m H σ env) : EnOk K mg m' H' σ env :=
  ⟨h.1, fun i d e => let ⟨v, h1, h2⟩ := h.2 i d e; ⟨v, h1, Den.grow S g h2⟩⟩
theorem EnOk.set {σ : L2.St} {env : En} (h : EnOk K mg m H σ env) {d : D} {v : V} (hd : Den K mg m H d v) (i : Nat) : EnOk K mg m H (σ.set i (some v)) (env.set i (some d)) := by
  refine ⟨by simp [h.1], fun j e q => ?_⟩
  by_cases hj : i = j
  · subst hj
    by_cases hi : i < env.length
    · rw [List.getElem?_set_self hi] at q
      cases q
      exact ⟨v, by rw [List.getElem?_set_self (by rw [← h.1]; exact hi)], hd⟩
    · rw [List.getElem?_eq_none (by simpa using hi)] at q
      cases q
  · rw [List.getElem?_set_ne hj] at q
    obtain ⟨u, h1, h2⟩ := h.2 j e q
    exact ⟨u, by rw [List.getElem?_set_ne hj]; exact h1, h2⟩
theorem EnOk.drop {σ : L2.St} {env : En} (h : EnOk K mg m H σ env) (i : Nat) : EnOk K mg m H (σ.set i none) (env.set i none) := by
  refine ⟨by simp [h.1], fun j e q => ?_⟩
  by_cases hj : i = j
  · subst hj
    by_cases hi : i < env.length
    · rw [List.getElem?_set_self hi] at q
      cases q
    · rw [List.getElem?_eq_none (by simpa using hi)] at q
      cases q
  · rw [List.getElem?_set_ne hj] at q
    obtain ⟨u, h1, h2⟩ := h.2 j e q
    exact ⟨u, by rw [List.getElem?_set_ne hj]; exact h1, h2⟩
theorem EnOk.wipe {σ : L2.St} {env : En} (h : EnOk K mg m H σ env) : ∀ vs : List Nat, EnOk K mg m H (L2.wipe σ vs) (wipeE env vs)
  | [] => h
  | v :: vs => (EnOk.wipe h vs).drop v
end
end Ab

set_option Elab.async false
set_option linter.all false
set_option autoImplicit false
set_option maxRecDepth 10000
/-! AbTup: the sum of a tuple of ints. -/
namespace L2
open PySem PySem.Spec PyProof.Rows PySem.W
section
variable {prog : Program} {w : World} {A : Around} {E : Value → Shared → Prop} {s : Shared} {l : Addr} {its : List Value} {ns : List Int} {Q : Value → Shared → Prop}
theorem sumT_raw (hh : A.handled = none) (hl : s.heap.IsTuple l its.toArray) (hi : IntsAre its ns)
    (h : ∀ h' tk t', (∀ b o, s.heap.get? b = some o → h'.get? b = some o) → Q (.int ns.sum t') { s with heap := h', toks := tk }) : wpAny (model prog w) A (call (.builtin "sum") [.ref l]) Q E s := by
  obtain ⟨xs, e⟩ := hi.allInts.items
  have hn : numsOf (intItems xs).toList = ns := by rw [← e]; exact hi.numsOf
  rw [nums_intItems] at hn
  rw [e] at hl
  refine call_sum_walkAnyS (iter_tupleW (A := A.in1) hh hl fun s₂ e2 W st hfp hw hk => ?_)
  refine ⟨_, _, _, _, _, _, _, numAt xs, rfl, W, st, hfp, fun _ _ => intItems_at, fun s' t' m => ?_⟩
  obtain ⟨h', tk, rfl, hk'⟩ := moved_old e2 rfl m
  have := h h' tk t' hk'
  rw [preSum_eq, List.take_of_length_le (by simp [intItems]), hn]
  exact this
end
section
variable {X : Cx}
theorem cr_sumT (hc : X.calm = true) : CallR X (.builtin "sum") (fun vs H Q => ∃ (a : Addr) (ns : List Int), vs = [V.ref a] ∧ SqT X.K H a (ns.map V.int) ∧ Q (.int ns.sum) H) := by
  intro pins s σ H vs us Q I r h
  obtain ⟨a, ns, rfl, hs, q⟩ := h
  obtain ⟨its, rv, hl, _⟩ := I.tuple hs
  rw [Vals.ref1 r]
  exact sumT_raw (I.ok.hd hc) hl rv.ints fun h' tk t' hk => ⟨.int _, H, I.kept hk, ⟨_, rfl⟩, q⟩
end
end L2

set_option Elab.async false
set_option linter.all false
set_option autoImplicit false
set_option maxRecDepth 10000
/-! AbOps: each operation on values does what the small language says. -/
namespace Ab
open PySem PySem.Spec PyProof.Rows L2

section
variable {X : Cx} {m : List Addr} {H : Hp} {st : Sto}

/-- what a plain operation's end gives -/
def Ends1 (K : PySem.W.Frag) (mg : Str → Option Value) (m : List Addr) (H : Hp) (st : Sto) (r : R D) (Q : VK) : Prop :=
  ∃ d st', r = .ok d st' ∧ ∀ m' H' v, Grow m H st m' H' st' → StOk K mg m' H' st' → Den K mg m' H' d v → Q v H'
def r2 (K : PySem.W.Frag) (mg : Str → Option Value) (g : D → D → Sto → R D) : R2 := fun x y H Q => ∃ m st d e, StOk K mg m H st ∧ Den K mg m H d x ∧ Den K mg m H e y ∧ Ends1 K mg m H st (g d e st) Q
def r1 (K : PySem.W.Frag) (mg : Str → Option Value) (g : D → Sto → R D) : V → Hp → VK → Prop := fun x H Q => ∃ m st d, StOk K mg m H st ∧ Den K mg m H d x ∧ Ends1 K mg m H st (g d st) Q
def rN (K : PySem.W.Frag) (mg : Str → Option Value) (g : List D → Sto → R D) : List V → Hp → VK → Prop := fun xs H Q => ∃ m st ds, StOk K mg m H st ∧ Dens K mg m H ds xs ∧ Ends1 K mg m H st (g ds st) Q

theorem den_int {K : PySem.W.Frag} {mg : Str → Option Value} {i : Int} {v : V} (h : Den K mg m H (.int i) v) : v = .int i := h
theorem ends_pure {K : PySem.W.Frag} {mg : Str → Option Value} {d : D} {v : V} {Q : VK} (S : StOk K mg m H st) (hd : Den K mg m H d v) (h : Ends1 K mg m H st (.ok d st) Q) : Q v H := by
  obtain ⟨d', st', e, q⟩ := h
  cases e
  exact q m H v Grow.refl S hd
theorem ends_bad {K : PySem.W.Frag} {mg : Str → Option Value} {Q : VK} (h : Ends1 K mg m H st .bad Q) : False := by
  obtain ⟨d', st', e, q⟩ := h
  cases e
theorem ends_int {K : PySem.W.Frag} {mg : Str → Option Value} {i : Int} {Q : VK} (S : StOk K mg m H st) (h : Ends1 K mg m H st (.ok (.int i) st) Q) : Q (.int i) H := ends_pure (v := .int i) S (show Den K mg m H (.int i) (.int i) from rfl) h
theorem ends_bl {K : PySem.W.Frag} {mg : Str → Option Value} {i : Bool} {Q : VK} (S : StOk K mg m H st) (h : Ends1 K mg m H st (.ok (.bl i) st) Q) : Q (.bl i) H := ends_pure (v := .bl i) S (show Den K mg m H (.bl i) (.bl i) from rfl) h
theorem ends_non {K : PySem.W.Frag} {mg : Str → Option Value} {Q : VK} (S : StOk K mg m H st) (h : Ends1 K mg m H st (.ok .non st) Q) : Q .non H := ends_pure (v := .non) S (show Den K mg m H .non .non from rfl) h
theorem ends_str {K : PySem.W.Frag} {mg : Str → Option Value} {i : Str} {Q : VK} (S : StOk K mg m H st) (hs : sOk i = true) (h : Ends1 K mg m H st (.ok (.str i) st) Q) : Q (.str i) H := ends_pure (v := .str i) S (show Den K mg m H (.str i) (.str i) from ⟨rfl, hs⟩) h
theorem ends_tupv {K : PySem.W.Frag} {mg : Str → Option Value} {ds : List D} {a : Addr} {vs : List V} {Q : VK} (S : StOk K mg m H st) (ha : SqT K H a vs) (hd : Dens K mg m H ds vs) (h : Ends1 K mg m H st (.ok (.tup ds) st) Q) : Q (.ref a) H := ends_pure (v := .ref a) S (show Den K mg m H (.tup ds) (.ref a) from ⟨a, vs, rfl, ha, hd⟩) h
/-- a new tuple -/
theorem ends_tup {K : PySem.W.Frag} {mg : Str → Option Value} {ds : List D} {vs : List V} {Q : VK} (S : StOk K mg m H st) (hd : Dens K mg m H ds vs) (h : Ends1 K mg m H st (.ok (.tup ds) st) Q) : ∀ p, H p = none → Q (.ref p) (upd H p (.tup vs)) := fun p hp => by
  obtain ⟨d', st', e, q⟩ := h
  cases e
  have g : Grow m H st m (upd H p (.tup vs)) st := Grow.lay S hp
  exact q m _ (.ref p) g (S.poke (.inl hp) (S.noTrkNone hp)) ⟨p, vs, rfl, SqT.of upd_same, Dens.grow S g hd⟩
/-- a new list -/
theorem ends_lst {K : PySem.W.Frag} {mg : Str → Option Value} {ds : List D} {vs : List V} {Q : VK} (S : StOk K mg m H st) (hd : Dens K mg m H ds vs) (h : Ends1 K mg m H st (alloc (.lst false ds) st) Q) : ∀ p, H p = none → Q (.ref p) (upd H p (.lst vs)) := fun p hp => by
  obtain ⟨d', st', e, q⟩ := h
  obtain ⟨S1, g1, e1⟩ := S.alloc hp hd
  cases e
  exact q _ _ (.ref p) g1 S1 ⟨p, e1, rfl⟩
theorem den_tup {K : PySem.W.Frag} {mg : Str → Option Value} {ds : List D} {v : V} (h : Den K mg m H (.tup ds) v) : ∃ a vs, v = .ref a ∧ SqT K H a vs ∧ Dens K mg m H ds vs := h
theorem den_lst {K : PySem.W.Frag} {mg : Str → Option Value} {l : Nat} {ds : List D} {f : Bool} {v : V} (S : StOk K mg m H st) (h : Den K mg m H (.ref l) v) (hs : st[l]? = some (.lst f ds)) : ∃ a vs, v = .ref a ∧ m[l]? = some a ∧ SqL K H a vs ∧ Dens K mg m H ds vs ∧ (f = false → H a = some (.lst vs)) := by
  obtain ⟨a, h1, h2⟩ := h
  have q := S.obj l a _ h1 hs
  cases f with
  | false =>
    obtain ⟨vs, e, hd⟩ := q
    exact ⟨a, vs, h2, h1, SqL.of e, hd, fun _ => e⟩
  | true =>
    obtain ⟨vs, e, hd⟩ := q
    refine ⟨a, vs, h2, h1, ?_, hd, fun z => nomatch z⟩
    rcases e with ⟨o, e⟩ | e
    · exact .inl (.inr ⟨o, e⟩)
    · exact e H

/-! ### + - * // % ** -/
theorem sOk_append {x y : Str} (hx : sOk x = true) (hy : sOk y = true) : sOk (x ++ y) = true := by
  unfold sOk at *
  show ((x.cps ++ y.cps).all fun c => decide (c < 0x110000)) = true
  rw [Array.all_append, hx, hy]
  rfl
def powOk : Operator → Bool
  | .Add | .Sub | .Mult | .FloorDiv | .Mod | .Pow => true
  | _ => false
theorem Dens.nil {K : PySem.W.Frag} {mg : Str → Option Value} {ds : List D} (h : Dens K mg m H ds []) : ds = [] := by
  cases ds with
  | nil => rfl
  | cons d ds => obtain ⟨_, _, e, _⟩ := h; cases e
theorem dens_rep {K : PySem.W.Frag} {mg : Str → Option Value} {m : List Addr} {H : Hp} {ds : List D} {vs : List V} (h : Dens K mg m H ds vs) : ∀ n : Nat, Dens K mg m H (List.replicate n ds).flatten (List.replicate n vs).flatten
  | 0 => rfl
  | n + 1 => by
    rw [List.replicate_succ, List.replicate_succ, List.flatten_cons, List.flatten_cons]
    exact h.append (dens_rep h n)
theorem or_bin {op : Operator} (ho : powOk op = true) : OpR X (binaryOp op) (r2 X.K X.mg (binD op)) := by
  intro pins s σ H x y v u Q I rx ry h
  obtain ⟨m, st, d, e, S, hd, he, h⟩ := h
  cases op with
  | Add =>
    unfold binD at h
    split at h
    any_goals contradiction
    · rename_i i j _
      cases hd; cases he
      exact op_add pins s σ H _ _ v u Q I rx ry ⟨i, j, rfl, rfl, ends_int S h⟩
    · rename_i a b _
      obtain ⟨rfl, hx⟩ := hd
      obtain ⟨rfl, hy⟩ := he
      split at h
      · rename_i hz
        exact op_add_str pins s σ H _ _ v u Q I rx ry ⟨a, b, rfl, rfl, hz, ends_str S (sOk_append hx hy) h⟩
      · exact (ends_bad h).elim
    · rename_i xs ys _
      obtain ⟨a, vs, rfl, ha, hda⟩ := den_tup hd
      obtain ⟨b, us, rfl, hb, hdb⟩ := den_tup he
      split at h
      · rename_i hz
        refine op_catA pins s σ H _ _ v u Q I rx ry ⟨a, b, vs, us, rfl, rfl, ha, hb, by rw [← hda.length, ← hdb.length]; exact hz, fun e => ?_, fun _ e => ?_, fun _ _ => ends_tup S (hda.append hdb) h⟩
        · subst e
          obtain rfl := hda.nil
          exact ends_tupv S hb hdb h
        · subst e
          obtain rfl := hdb.nil
          rw [List.append_nil] at h
          exact ends_tupv S ha hda h
      · exact (ends_bad h).elim
    · rename_i l k _
      split at h
      · rename_i xs ys e1 e2
        split at h
        · rename_i hz
          obtain ⟨a, vs, rfl, _, _, hda, ha⟩ := den_lst S hd e1
          obtain ⟨b, us, rfl, _, _, hdb, hb⟩ := den_lst S he e2
          exact op_cat pins s σ H _ _ v u Q I rx ry ⟨a, b, vs, us, rfl, rfl, ha rfl, hb rfl, by rw [← hda.length, ← hdb.length]; exact hz, ends_lst S (hda.append hdb) h⟩
        · exact (ends_bad h).elim
      · exact (ends_bad h).elim
    all_goals exact (ends_bad h).elim
  | Sub =>
    unfold binD at h
    split at h
    any_goals contradiction
    · rename_i i j _
      cases hd; cases he
      exact op_sub pins s σ H _ _ v u Q I rx ry ⟨i, j, rfl, rfl, ends_int S h⟩
    all_goals exact (ends_bad h).elim
  | Mult =>
    unfold binD at h
    split at h
    any_goals contradiction
    · rename_i i j _
      cases hd; cases he
      split at h
      · rename_i hz
        exact op_mul pins s σ H _ _ v u Q I rx ry ⟨i, j, rfl, rfl, hz, ends_int S h⟩
      · exact (ends_bad h).elim
    · rename_i l k _
      cases he
      split at h
      · rename_i xs e1
        split at h
        · rename_i hz
          obtain ⟨a, vs, rfl, _, _, hda, ha⟩ := den_lst S hd e1
          exact op_rep pins s σ H _ _ v u Q I rx ry ⟨a, k, vs, rfl, rfl, ha rfl, hz.1, hz.2.1, by rw [← hda.length]; exact hz.2.2, ends_lst S (dens_rep hda k.toNat) h⟩
        · exact (ends_bad h).elim
      · exact (ends_bad h).elim
    all_goals exact (ends_bad h).elim
  | FloorDiv =>
    unfold binD at h
    split at h
    any_goals contradiction
    · rename_i i j _
      cases hd; cases he
      split at h
      · rename_i hz
        exact op_fdiv pins s σ H _ _ v u Q I rx ry ⟨i, j, rfl, rfl, hz, ends_int S h⟩
      · exact (ends_bad h).elim
    all_goals exact (ends_bad h).elim
  | Mod =>
    unfold binD at h
    split at h
    any_goals contradiction
    · rename_i i j _
      cases hd; cases he
      split at h
      · rename_i hz
        exact op_mod pins s σ H _ _ v u Q I rx ry ⟨i, j, rfl, rfl, hz, ends_int S h⟩
      · exact (ends_bad h).elim
    all_goals exact (ends_bad h).elim
  | Pow =>
    unfold binD at h
    split at h
    any_goals contradiction
    · rename_i i j _
      cases hd; cases he
      split at h
      · rename_i hz
        exact op_pow pins s σ H _ _ v u Q I rx ry ⟨i, j, rfl, rfl, hz, ends_int S h⟩
      · exact (ends_bad h).elim
    all_goals exact (ends_bad h).elim
  | _ => cases ho
theorem un_negD : UnR X (unaryOp .USub) (r1 X.K X.mg fun d st => match d with | .int i => .ok (.int (-i)) st | _ => .bad) := by
  intro pins s σ H x v Q I rx h
  obtain ⟨m, st, d, S, hd, h⟩ := h
  cases d with
  | int i =>
    cases hd
    exact un_neg pins s σ H _ v Q I rx ⟨i, rfl, ends_int S h⟩
  | _ => exact (ends_bad h).elim

/-! ### data -/
theorem optAll_some {α β : Type} {f : α → Option β} : ∀ {xs : List α} {ys : List β}, optAll f xs = some ys → xs.length = ys.length ∧ ∀ (i : Nat) (x : α), xs[i]? = some x → ∃ y, ys[i]? = some y ∧ f x = some y
  | [], ys, h => by
    cases h
    exact ⟨rfl, fun i x e => by simp at e⟩
  | x :: xs, ys, h => by
    unfold optAll at h
    split at h
    · rename_i y zs e1 e2
      cases h
      obtain ⟨h1, h2⟩ := optAll_some e2
      refine ⟨by simp [h1], fun i z e => ?_⟩
      cases i with
      | zero =>
        simp at e
        subst e
        exact ⟨y, rfl, e1⟩
      | succ i => exact by simpa using h2 i z (by simpa using e)
    · cases h
theorem dps {K : PySem.W.Frag} {mg : Str → Option Value} {f : D → Option PyData} (ih : ∀ d v p, Den K mg m H d v → f d = some p → Dp K H v p) : ∀ {ds : List D} {vs : List V} {ps : List PyData}, Dens K mg m H ds vs → optAll f ds = some ps → DpAll K H vs ps
  | [], vs, ps, h, e => by
    cases h
    cases e
    exact .nil
  | d :: ds, vs, ps, h, e => by
    obtain ⟨v, r, rfl, h1, h2⟩ := h
    unfold optAll at e
    split at e
    · rename_i y zs e1 e2
      cases e
      exact .cons (ih d v y h1 e1) (dps ih h2 e2)
    · cases e
theorem dp_of {K : PySem.W.Frag} {mg : Str → Option Value} (S : StOk K mg m H st) : ∀ (n : Nat) (d : D) (v : V) (p : PyData), Den K mg m H d v → pd st n d = some p → Dp K H v p
  | 0, d, v, p, h, e => by
    cases d with
    | non => cases h; cases e; exact .non
    | bl b => cases h; cases e; exact .bl b
    | int i => cases h; cases e; exact .int i
    | str x => cases h.1; cases e; exact .str x
    | _ => cases e
  | n + 1, d, v, p, h, e => by
    cases d with
    | non => cases h; cases e; exact .non
    | bl b => cases h; cases e; exact .bl b
    | int i => cases h; cases e; exact .int i
    | str x => cases h.1; cases e; exact .str x
    | tup ds =>
      obtain ⟨a, vs, rfl, ha, hd⟩ := den_tup h
      unfold pd at e
      simp only [Option.map_eq_some_iff] at e
      obtain ⟨ps, e, rfl⟩ := e
      exact .tup ha (dps (fun d v p h q => dp_of S n d v p h q) hd e)
    | ref l =>
      unfold pd at e
      simp only at e
      split at e
      · rename_i f ds hs
        simp only [Option.map_eq_some_iff] at e
        obtain ⟨ps, e, rfl⟩ := e
        obtain ⟨a, vs, rfl, _, ha, hd, _⟩ := den_lst S h hs
        exact .lst ha (dps (fun d v p h q => dp_of S n d v p h q) hd e)
      · cases e
    | fn x => cases e
theorem lay_all {f : D → Option PyData} {n : Nat} : ∀ {ds : List D} {ps : List PyData}, (∀ d ∈ ds, ∀ p, f d = some p → p.canLay0 = true ∧ p.depth ≤ n) → optAll f ds = some ps → PyData.canLayAll0 ps = true ∧ PyData.depthAll ps ≤ n
  | [], ps, h, e => by
    cases e
    exact ⟨rfl, Nat.zero_le _⟩
  | d :: ds, ps, h, e => by
    unfold optAll at e
    split at e
    · rename_i y zs e1 e2
      cases e
      obtain ⟨h1, h2⟩ := h d List.mem_cons_self y e1
      obtain ⟨h3, h4⟩ := lay_all (fun d hd => h d (List.mem_cons_of_mem _ hd)) e2
      exact ⟨by simp [PyData.canLayAll0, h1, h3], by simp [PyData.depthAll]; omega⟩
    · cases e
theorem Dens.each {K : PySem.W.Frag} {mg : Str → Option Value} : ∀ {ds : List D} {vs : List V}, Dens K mg m H ds vs → ∀ d ∈ ds, ∃ v, Den K mg m H d v
  | [], _, _, d, hd => by cases hd
  | e :: ds, _, h, d, hd => by
    obtain ⟨v, r, rfl, h1, h2⟩ := h
    rcases List.mem_cons.mp hd with rfl | hd
    · exact ⟨v, h1⟩
    · exact Dens.each h2 d hd
theorem lay_of {K : PySem.W.Frag} {mg : Str → Option Value} (S : StOk K mg m H st) : ∀ (n : Nat) (d : D) (v : V) (p : PyData), Den K mg m H d v → pd st n d = some p → p.canLay0 = true ∧ p.depth ≤ n
  | 0, d, v, p, h, e => by
    cases d with
    | non => cases e; exact ⟨rfl, Nat.zero_le _⟩
    | bl b => cases e; exact ⟨rfl, Nat.zero_le _⟩
    | int i => cases e; exact ⟨rfl, Nat.zero_le _⟩
    | str x => cases e; exact ⟨h.2, Nat.zero_le _⟩
    | _ => cases e
  | n + 1, d, v, p, h, e => by
    cases d with
    | non => cases e; exact ⟨rfl, Nat.zero_le _⟩
    | bl b => cases e; exact ⟨rfl, Nat.zero_le _⟩
    | int i => cases e; exact ⟨rfl, Nat.zero_le _⟩
    | str x => cases e; exact ⟨h.2, Nat.zero_le _⟩
    | tup ds =>
      obtain ⟨a, vs, rfl, ha, hd⟩ := den_tup h
      unfold pd at e
      simp only [Option.map_eq_some_iff] at e
      obtain ⟨ps, e, rfl⟩ := e
      obtain ⟨h1, h2⟩ := lay_all (n := n) (fun d hm p q => let ⟨v, hv⟩ := hd.each d hm; lay_of S n d v p hv q) e
      exact ⟨by simpa [PyData.canLay0] using h1, by simp [PyData.depth]; omega⟩
    | ref l =>
      unfold pd at e
      simp only at e
      split at e
      · rename_i f ds hs
        simp only [Option.map_eq_some_iff] at e
        obtain ⟨ps, e, rfl⟩ := e
        obtain ⟨a, vs, rfl, _, ha, hd, _⟩ := den_lst S h hs
        obtain ⟨h1, h2⟩ := lay_all (n := n) (fun d hm p q => let ⟨v, hv⟩ := hd.each d hm; lay_of S n d v p hv q) e
        exact ⟨by simpa [PyData.canLay0] using h1, by simp [PyData.depth]; omega⟩
      · cases e
    | fn x => cases e
theorem shaped_of {K : PySem.W.Frag} {mg : Str → Option Value} (S : StOk K mg m H st) {d : D} {v : V} {p : PyData} (h : Den K mg m H d v) (e : pd st 60 d = some p) : SeqAt.shaped p = true := by
  obtain ⟨h1, h2⟩ := lay_of S 60 d v p h e
  unfold SeqAt.shaped
  rw [h1, decide_eq_true (show p.depth ≤ 64 by omega)]
  rfl

/-! ### == -/
theorem ends_opt {K : PySem.W.Frag} {mg : Str → Option Value} {o : Option D} {Q : VK} (h : Ends1 K mg m H st (ofOpt o st) Q) : ∃ d, o = some d ∧ Ends1 K mg m H st (.ok d st) Q := by
  cases o with
  | none => exact (ends_bad h).elim
  | some d => exact ⟨d, rfl, h⟩
def cmpE (op : CmpOp) (d e : D) (st : Sto) : R D := ofOpt ((cmpD op d e st).map D.bl) st
theorem or_eq (hu : X.A.units + 64 < cLine) : OpR X (compareOp .Eq) (r2 X.K X.mg (cmpE .Eq)) := by
  intro pins s σ H x y v u Q I rx ry h
  obtain ⟨m, st, d, e, S, hd, he, h⟩ := h
  obtain ⟨r, h1, h⟩ := ends_opt h
  simp only [cmpD, Option.map_eq_some_iff] at h1
  obtain ⟨b, h1, rfl⟩ := h1
  have q := ends_bl S h
  unfold eqD at h1
  split at h1
  · cases h1; cases hd; cases he
    exact op_eq pins s σ H _ _ v u Q I rx ry ⟨rfl, by simpa using q⟩
  · cases h1
    obtain ⟨rfl, _⟩ := hd
    obtain ⟨rfl, _⟩ := he
    exact op_eq pins s σ H _ _ v u Q I rx ry ⟨rfl, by simpa using q⟩
  · cases h1; cases hd; cases he
    exact op_eq pins s σ H _ _ v u Q I rx ry ⟨rfl, by simpa using q⟩
  · cases h1; cases hd; cases he
    exact op_eq pins s σ H _ _ v u Q I rx ry ⟨rfl, by simpa using q⟩
  · split at h1
    · rename_i p1 p2 e1 e2
      cases h1
      exact op_eqD hu pins s σ H _ _ v u Q I rx ry ⟨p1, p2, dp_of S 60 _ _ _ hd e1, dp_of S 60 _ _ _ he e2, shaped_of S hd e1, shaped_of S he e2, q⟩
    · cases h1
theorem or_ne (hu : X.A.units + 64 < cLine) : OpR X (compareOp .NotEq) (r2 X.K X.mg (cmpE .NotEq)) := by
  intro pins s σ H x y v u Q I rx ry h
  obtain ⟨m, st, d, e, S, hd, he, h⟩ := h
  obtain ⟨r, h1, h⟩ := ends_opt h
  simp only [cmpD, Option.map_eq_some_iff] at h1
  obtain ⟨b', ⟨b, h1, rfl⟩, rfl⟩ := h1
  have q := ends_bl S h
  unfold eqD at h1
  split at h1
  · cases h1; cases hd; cases he
    exact op_ne pins s σ H _ _ v u Q I rx ry ⟨rfl, by simpa using q⟩
  · cases h1
    obtain ⟨rfl, _⟩ := hd
    obtain ⟨rfl, _⟩ := he
    exact op_ne pins s σ H _ _ v u Q I rx ry ⟨rfl, by simpa using q⟩
  · cases h1; cases hd; cases he
    exact op_ne pins s σ H _ _ v u Q I rx ry ⟨rfl, by simpa using q⟩
  · cases h1; cases hd; cases he
    exact op_ne pins s σ H _ _ v u Q I rx ry ⟨rfl, by simpa using q⟩
  · split at h1
    · rename_i p1 p2 e1 e2
      cases h1
      exact op_neD hu pins s σ H _ _ v u Q I rx ry ⟨p1, p2, dp_of S 60 _ _ _ hd e1, dp_of S 60 _ _ _ he e2, shaped_of S hd e1, shaped_of S he e2, q⟩
    · cases h1

/-! ### in -/
theorem flat_den {K : PySem.W.Frag} {mg : Str → Option Value} {d : D} {v : V} (h : Den K mg m H d v) (f : flatD d = true) : flatV v = true := by
  cases d with
  | non => cases h; rfl
  | bl b => cases h; rfl
  | int i => cases h; rfl
  | str x => cases h.1; rfl
  | _ => cases f
theorem eqD_flat {K : PySem.W.Frag} {mg : Str → Option Value} {d e : D} {x y : V} (hd : Den K mg m H d x) (he : Den K mg m H e y) (fd : flatD d = true) (fe : flatD e = true) : eqD st e d = some (eqV y x) := by
  cases d with
  | non => cases hd; cases e with
    | non => cases he; rfl
    | bl b => cases he; rfl
    | int i => cases he; rfl
    | str z => cases he.1; rfl
    | _ => cases fe
  | bl b => cases hd; cases e with
    | non => cases he; rfl
    | bl c => cases he; simp [eqD, eqV, Bool.beq_eq_decide_eq]
    | int i => cases he; rfl
    | str z => cases he.1; rfl
    | _ => cases fe
  | int i => cases hd; cases e with
    | non => cases he; rfl
    | bl b => cases he; rfl
    | int j => cases he; simp [eqD, eqV, Bool.beq_eq_decide_eq]
    | str z => cases he.1; rfl
    | _ => cases fe
  | str z => cases hd.1; cases e with
    | non => cases he; rfl
    | bl b => cases he; rfl
    | int j => cases he; rfl
    | str w =>
      cases he.1
      simp only [eqD, eqV, Option.some.injEq]
      rw [Bool.eq_iff_iff]
      simp
    | _ => cases fe
  | _ => cases fd
theorem inD_flat {K : PySem.W.Frag} {mg : Str → Option Value} {d : D} {x : V} (hd : Den K mg m H d x) (fd : flatD d = true) : ∀ {es : List D} {ys : List V}, Dens K mg m H es ys → es.all flatD = true → inD st d es = some (inV x ys) ∧ ys.all flatV = true
  | [], _, h, _ => by
    cases h
    exact ⟨rfl, rfl⟩
  | e :: es, _, h, f => by
    obtain ⟨y, r, rfl, h1, h2⟩ := h
    simp only [List.all_cons, Bool.and_eq_true] at f
    obtain ⟨i1, i2⟩ := inD_flat hd fd h2 f.2
    refine ⟨?_, by simp [flat_den h1 f.1, i2]⟩
    unfold inD
    rw [eqD_flat hd h1 fd f.1, i1]
    rfl
theorem or_in : OpR X (compareOp .In) (r2 X.K X.mg (cmpE .In)) := by
  intro pins s σ H x y v u Q I rx ry h
  obtain ⟨m, st, d, e, S, hd, he, h⟩ := h
  obtain ⟨r, h1, h⟩ := ends_opt h
  simp only [cmpD, Option.map_eq_some_iff] at h1
  obtain ⟨b, h1, rfl⟩ := h1
  have q := ends_bl S h
  unfold inOp at h1
  split at h1
  · split at h1
    · cases h1
      obtain ⟨rfl, _⟩ := hd
      obtain ⟨rfl, _⟩ := he
      exact op_in_str pins s σ H _ _ v u Q I rx ry ⟨_, _, rfl, rfl, q⟩
    · cases h1
  · split at h1
    · rename_i hf
      simp only [Bool.and_eq_true] at hf
      obtain ⟨a, vs, rfl, ha, hds⟩ := den_tup he
      obtain ⟨i1, i2⟩ := inD_flat (st := st) hd hf.1 hds hf.2
      rw [i1] at h1
      cases h1
      exact op_in_seq pins s σ H _ _ v u Q I rx ry ⟨a, vs, rfl, .inr ha, flat_den hd hf.1, i2, q⟩
    · cases h1
  · split at h1
    · rename_i hs
      split at h1
      · rename_i hf
        simp only [Bool.and_eq_true] at hf
        obtain ⟨a, vs, rfl, _, ha, hds, _⟩ := den_lst S he hs
        obtain ⟨i1, i2⟩ := inD_flat (st := st) hd hf.1 hds hf.2
        rw [i1] at h1
        cases h1
        exact op_in_seq pins s σ H _ _ v u Q I rx ry ⟨a, vs, rfl, .inl ha, flat_den hd hf.1, i2, q⟩
      · cases h1
    · cases h1
  · cases h1
theorem or_notin : OpR X (compareOp .NotIn) (r2 X.K X.mg (cmpE .NotIn)) := by
  intro pins s σ H x y v u Q I rx ry h
  obtain ⟨m, st, d, e, S, hd, he, h⟩ := h
  obtain ⟨r, h1, h⟩ := ends_opt h
  simp only [cmpD, Option.map_eq_some_iff] at h1
  obtain ⟨b', ⟨b, h1, rfl⟩, rfl⟩ := h1
  have q := ends_bl S h
  unfold inOp at h1
  split at h1
  · split at h1
    · cases h1
      obtain ⟨rfl, _⟩ := hd
      obtain ⟨rfl, _⟩ := he
      exact L2.op_notIn_str pins s σ H _ _ v u Q I rx ry ⟨_, _, rfl, rfl, q⟩
    · cases h1
  · split at h1
    · rename_i hf
      simp only [Bool.and_eq_true] at hf
      obtain ⟨a, vs, rfl, ha, hds⟩ := den_tup he
      obtain ⟨i1, i2⟩ := inD_flat (st := st) hd hf.1 hds hf.2
      rw [i1] at h1
      cases h1
      exact op_notIn_seq pins s σ H _ _ v u Q I rx ry ⟨a, vs, rfl, .inr ha, flat_den hd hf.1, i2, q⟩
    · cases h1
  · split at h1
    · rename_i hs
      split at h1
      · rename_i hf
        simp only [Bool.and_eq_true] at hf
        obtain ⟨a, vs, rfl, _, ha, hds, _⟩ := den_lst S he hs
        obtain ⟨i1, i2⟩ := inD_flat (st := st) hd hf.1 hds hf.2
        rw [i1] at h1
        cases h1
        exact op_notIn_seq pins s σ H _ _ v u Q I rx ry ⟨a, vs, rfl, .inl ha, flat_den hd hf.1, i2, q⟩
      · cases h1
    · cases h1
  · cases h1
theorem den_non {K : PySem.W.Frag} {mg : Str → Option Value} {d : D} {v : V} (h : Den K mg m H d v) : (v = .non ∧ d = .non) ∨ (v ≠ .non ∧ d ≠ .non) := by
  cases d with
  | non => cases h; exact .inl ⟨rfl, rfl⟩
  | bl b => cases h; exact .inr ⟨fun z => (nomatch z), fun z => (nomatch z)⟩
  | int b => cases h; exact .inr ⟨fun z => (nomatch z), fun z => (nomatch z)⟩
  | str b => cases h.1; exact .inr ⟨fun z => (nomatch z), fun z => (nomatch z)⟩
  | tup b => obtain ⟨a, vs, rfl, _⟩ := h; exact .inr ⟨fun z => (nomatch z), fun z => (nomatch z)⟩
  | ref b => obtain ⟨a, _, rfl⟩ := h; exact .inr ⟨fun z => (nomatch z), fun z => (nomatch z)⟩
  | fn b => obtain ⟨a, _, rfl⟩ := h; exact .inr ⟨fun z => (nomatch z), fun z => (nomatch z)⟩
theorem or_cmp (hu : X.A.units + 64 < cLine) (op : CmpOp) : OpR X (compareOp op) (r2 X.K X.mg (cmpE op)) := by
  have ords : ∀ (o : CmpOp) (p : Int → Int → Bool), (∀ d e st b, cmpD o d e st = some b → ∃ i j, d = .int i ∧ e = .int j ∧ b = p i j) → OpR X (compareOp o) (rI0 fun i j => .bl (p i j)) → OpR X (compareOp o) (r2 X.K X.mg (cmpE o)) := by
    intro o p hp ho pins s σ H x y v u Q I rx ry h
    obtain ⟨m, st, d, e, S, hd, he, h⟩ := h
    obtain ⟨r, h1, h⟩ := ends_opt h
    simp only [Option.map_eq_some_iff] at h1
    obtain ⟨b, h1, rfl⟩ := h1
    obtain ⟨i, j, rfl, rfl, rfl⟩ := hp d e st b h1
    cases hd; cases he
    exact ho pins s σ H _ _ v u Q I rx ry ⟨i, j, rfl, rfl, ends_bl S h⟩
  cases op with
  | Eq => exact or_eq hu
  | NotEq => exact or_ne hu
  | Lt => exact ords _ _ (fun d e st b h => by unfold cmpD at h; simp only at h; split at h <;> cases h; exact ⟨_, _, rfl, rfl, rfl⟩) op_lt
  | LtE => exact ords _ _ (fun d e st b h => by unfold cmpD at h; simp only at h; split at h <;> cases h; exact ⟨_, _, rfl, rfl, rfl⟩) op_le
  | Gt => exact ords _ _ (fun d e st b h => by unfold cmpD at h; simp only at h; split at h <;> cases h; exact ⟨_, _, rfl, rfl, rfl⟩) op_gt
  | GtE => exact ords _ _ (fun d e st b h => by unfold cmpD at h; simp only at h; split at h <;> cases h; exact ⟨_, _, rfl, rfl, rfl⟩) op_ge
  | In => exact or_in
  | NotIn => exact or_notin
  | Is =>
    intro pins s σ H x y v u Q I rx ry h
    obtain ⟨m, st, d, e, S, hd, he, h⟩ := h
    obtain ⟨r, h1, h⟩ := ends_opt h
    simp only [cmpD, Option.map_eq_some_iff] at h1
    obtain ⟨b, h1, rfl⟩ := h1
    have q := ends_bl S h
    cases e with
    | non =>
      cases he
      refine op_isN pins s σ H _ _ v u Q I rx ry ⟨rfl, ?_⟩
      rcases den_non hd with ⟨rfl, rfl⟩ | ⟨hv, hn⟩
      · cases h1
        exact q
      · rw [decide_eq_false hv]
        cases d <;> first | exact absurd rfl hn | (cases h1; exact q)
    | _ => cases h1
  | IsNot =>
    intro pins s σ H x y v u Q I rx ry h
    obtain ⟨m, st, d, e, S, hd, he, h⟩ := h
    obtain ⟨r, h1, h⟩ := ends_opt h
    simp only [cmpD, Option.map_eq_some_iff] at h1
    obtain ⟨b, h1, rfl⟩ := h1
    have q := ends_bl S h
    cases e with
    | non =>
      cases he
      refine op_notN pins s σ H _ _ v u Q I rx ry ⟨rfl, ?_⟩
      rcases den_non hd with ⟨rfl, rfl⟩ | ⟨hv, hn⟩
      · cases h1
        exact q
      · rw [decide_eq_false hv]
        cases d <;> first | exact absurd rfl hn | (cases h1; exact q)
    | _ => cases h1
end
end Ab

set_option Elab.async false
set_option linter.all false
set_option autoImplicit false
set_option maxRecDepth 10000
/-! AbOps2: subscripts, slices, stores, built-in functions and methods. -/
namespace Ab
open PySem PySem.Spec PyProof.Rows L2

section
variable {X : Cx} {m : List Addr} {H : Hp} {st : Sto}

theorem ends_get {K : PySem.W.Frag} {mg : Str → Option Value} {ds : List D} {vs : List V} {k : Int} {Q : VK} (S : StOk K mg m H st) (hd : Dens K mg m H ds vs) (h : Ends1 K mg m H st (ofOpt (atI ds k) st) Q) : ∃ v, atI vs k = some v ∧ Q v H := by
  obtain ⟨d, h1, h⟩ := ends_opt h
  unfold atI at h1 ⊢
  rw [← hd.length]
  cases e : ixN ds.length k with
  | none => rw [e] at h1; cases h1
  | some j =>
    rw [e] at h1
    obtain ⟨v, h2, h3⟩ := hd.get h1
    exact ⟨v, h2, ends_pure S h3 h⟩
theorem sOk_one {x : Str} {c : Nat} (h : sOk x = true) (hc : c ∈ x.cps.toList) : sOk ⟨#[c]⟩ = true := by
  unfold sOk at h ⊢
  rw [Array.all_eq_true'] at h
  have := h c (by simpa using hc)
  simp at this
  simpa using this
theorem ix_d : IxR X (r2 X.K X.mg subD) := by
  intro value slice pins s σ H x y v u Q I rx ry h hs
  obtain ⟨m, st, d, e, S, hd, he, h⟩ := h
  unfold subD at h
  split at h
  · rename_i k
    cases he
    split at h
    · obtain ⟨a, vs, rfl, ha, hds⟩ := den_tup hd
      obtain ⟨w, h1, h2⟩ := ends_get S hds h
      exact ix_tup value slice pins s σ H _ _ v u Q I rx ry ⟨a, vs, k, w, rfl, rfl, ha, h1, h2⟩ hs
    · split at h
      · rename_i hl
        obtain ⟨a, vs, rfl, _, ha, hds, _⟩ := den_lst S hd hl
        obtain ⟨w, h1, h2⟩ := ends_get S hds h
        exact ix_list value slice pins s σ H _ _ v u Q I rx ry ⟨a, vs, k, w, rfl, rfl, ha, h1, h2⟩ hs
      · exact (ends_bad h).elim
    · split at h
      · rename_i z hz
        obtain ⟨rfl, hok⟩ := hd
        obtain ⟨d, h1, h⟩ := ends_opt h
        simp only [Option.map_eq_some_iff] at h1
        obtain ⟨c, h1, rfl⟩ := h1
        refine ix_str value slice pins s σ H _ _ v u Q I rx ry ⟨_, k, c, rfl, rfl, hz, h1, ends_str S (sOk_one hok ?_) h⟩ hs
        obtain ⟨j, _, h2, _⟩ := atI_get h1
        exact List.mem_of_getElem? h2
      · exact (ends_bad h).elim
    · exact (ends_bad h).elim
  · exact (ends_bad h).elim

theorem cut_nil {α : Type} (xs : List α) (lo hi : Option Int) (h : HT.sIx xs.length 0 lo = 0 ∧ HT.sIx xs.length xs.length hi = xs.length) : cut xs lo hi = xs := by
  unfold cut
  rw [h.1, h.2]
  simp
theorem Dens.cut {K : PySem.W.Frag} {mg : Str → Option Value} {ds : List D} {vs : List V} (h : Dens K mg m H ds vs) (lo hi : Option Int) : Dens K mg m H (cut ds lo hi) (cutV vs lo hi) := by
  unfold Ab.cut cutV
  rw [h.length]
  exact (h.drop _).take _
def rS (K : PySem.W.Frag) (mg : Str → Option Value) : V → Option Int → Option Int → Hp → VK → Prop := fun x lo hi H Q => ∃ m st d, StOk K mg m H st ∧ Den K mg m H d x ∧ Ends1 K mg m H st (slcD d lo hi st) Q
theorem sl_d : SlR X (rS X.K X.mg) := by
  intro pins s σ H x v vl vu lo hi sl Q I rx hs pl pu h
  obtain ⟨m, st, d, S, hd, h⟩ := h
  unfold slcD at h
  split at h
  · obtain ⟨a, vs, rfl, ha, hds⟩ := den_tup hd
    refine sl_tupA pins s σ H _ v vl vu lo hi sl Q I rx hs pl pu ⟨a, vs, rfl, ha, fun e => ?_, fun _ => ends_tup S (hds.cut lo hi) h⟩
    rw [cut_nil _ _ _ (by rw [hds.length]; exact e)] at h
    exact ends_tupv S ha hds h
  · split at h
    · rename_i hl
      obtain ⟨a, vs, rfl, _, ha, hds, _⟩ := den_lst S hd hl
      exact sl_list pins s σ H _ v vl vu lo hi sl Q I rx hs pl pu ⟨a, vs, rfl, ha, ends_lst S (hds.cut lo hi) h⟩
    · exact (ends_bad h).elim
  · exact (ends_bad h).elim

/-- o[i] = v -/
def rPut (K : PySem.W.Frag) (mg : Str → Option Value) : V → V → V → Hp → (Hp → Prop) → Prop := fun o i v H Q => ∃ m st d k e st', StOk K mg m H st ∧ Den K mg m H d o ∧ Den K mg m H k i ∧ Den K mg m H e v ∧ setD d k e st = .ok () st' ∧
  ∀ m' H', Grow m H st m' H' st' → StOk K mg m' H' st' → Q H'
theorem set_d : PSet X (rPut X.K X.mg) := by
  intro pins s σ H o i v ov iv u Q I ro ri rv h
  obtain ⟨m, st, d, k, e, st', S, hd, hk, he, h, q⟩ := h
  unfold setD at h
  split at h
  · rename_i l j
    split at h
    · rename_i ds hl
      split at h
      · rename_i n hn
        cases h
        cases hk
        obtain ⟨a, vs, rfl, hm, _, hds, ha⟩ := den_lst S hd hl
        obtain ⟨S1, g1⟩ := S.put hm hl (hds.set n he)
        exact set_list pins s σ H _ _ v ov iv u Q I ro ri rv ⟨a, vs, j, n, rfl, rfl, ha rfl, by rw [← hds.length]; exact hn, q m _ g1 S1⟩
      · cases h
    · cases h
  · cases h

/-! ### built-in functions -/
theorem ints_of {K : PySem.W.Frag} {mg : Str → Option Value} : ∀ {ds : List D} {vs : List V} {ns : List Int}, Dens K mg m H ds vs → optAll intOf ds = some ns → vs = ns.map V.int
  | [], vs, ns, h, e => by
    cases h
    cases e
    rfl
  | d :: ds, vs, ns, h, e => by
    obtain ⟨v, r, rfl, h1, h2⟩ := h
    unfold optAll at e
    split at e
    · rename_i y zs e1 e2
      cases e
      cases d <;> cases e1
      cases h1
      rw [ints_of h2 e2]
      rfl
    · cases e
theorem bools_of {K : PySem.W.Frag} {mg : Str → Option Value} : ∀ {ds : List D} {vs : List V} {ns : List Bool}, Dens K mg m H ds vs → optAll boolOf ds = some ns → vs = ns.map V.bl
  | [], vs, ns, h, e => by
    cases h
    cases e
    rfl
  | d :: ds, vs, ns, h, e => by
    obtain ⟨v, r, rfl, h1, h2⟩ := h
    unfold optAll at e
    split at e
    · rename_i y zs e1 e2
      cases e
      cases d <;> cases e1
      cases h1
      rw [bools_of h2 e2]
      rfl
    · cases e
theorem dens1 {K : PySem.W.Frag} {mg : Str → Option Value} {d : D} {xs : List V} (h : Dens K mg m H [d] xs) : ∃ v, xs = [v] ∧ Den K mg m H d v := by
  obtain ⟨v, r, rfl, h1, h2⟩ := h
  cases h2
  exact ⟨v, rfl, h1⟩
theorem dens2 {K : PySem.W.Frag} {mg : Str → Option Value} {d e : D} {xs : List V} (h : Dens K mg m H [d, e] xs) : ∃ v u, xs = [v, u] ∧ Den K mg m H d v ∧ Den K mg m H e u := by
  obtain ⟨v, r, rfl, h1, h2⟩ := h
  obtain ⟨u, rfl, h3⟩ := dens1 h2
  exact ⟨v, u, rfl, h1, h3⟩
theorem listOf_some {st : Sto} {d : D} {ds : List D} (h : listOf st d = some ds) : ∃ l f, d = .ref l ∧ st[l]? = some (.lst f ds) := by
  unfold listOf at h
  split at h
  · split at h
    · rename_i hl
      cases h
      exact ⟨_, _, rfl, hl⟩
    · cases h
  · cases h
theorem seqOf_some {K : PySem.W.Frag} {mg : Str → Option Value} {d : D} {ds : List D} {v : V} (S : StOk K mg m H st) (hd : Den K mg m H d v) (h : seqOf st d = some ds) :
    ∃ a vs, v = .ref a ∧ (SqL K H a vs ∨ (SqT K H a vs ∧ d = .tup ds)) ∧ Dens K mg m H ds vs := by
  unfold seqOf at h
  split at h
  · cases h
    obtain ⟨a, vs, rfl, ha, hds⟩ := den_tup hd
    exact ⟨a, vs, rfl, .inr ⟨ha, rfl⟩, hds⟩
  · obtain ⟨l, f, rfl, hl⟩ := listOf_some h
    obtain ⟨a, vs, rfl, _, ha, hds, _⟩ := den_lst S hd hl
    exact ⟨a, vs, rfl, .inl ha, hds⟩
theorem maxL_ok : ∀ {ns : List Int} {k : Int}, maxL ns = some k → ∀ m, m ∈ ns → (∀ y, y ∈ ns → y ≤ m) → m = k
  | [], k, h => by cases h
  | x :: xs, k, h => by
    cases h
    have key : ∀ (ys : List Int) (a : Int), (a ≤ ys.foldl max a ∧ ∀ y ∈ ys, y ≤ ys.foldl max a) ∧ (ys.foldl max a = a ∨ ys.foldl max a ∈ ys) := by
      intro ys
      induction ys with
      | nil => intro a; exact ⟨⟨Int.le_refl _, fun y hy => by cases hy⟩, .inl rfl⟩
      | cons y ys ih =>
        intro a
        obtain ⟨⟨h1, h2⟩, h3⟩ := ih (max a y)
        simp only [List.foldl_cons]
        refine ⟨⟨by omega, fun z hz => ?_⟩, ?_⟩
        · rcases List.mem_cons.mp hz with rfl | hz
          · omega
          · exact h2 z hz
        · rcases h3 with h3 | h3
          · by_cases hay : a ≤ y
            · right
              rw [h3, show max a y = y by omega]
              exact List.mem_cons_self
            · left
              rw [h3]
              omega
          · exact .inr (List.mem_cons_of_mem _ h3)
    intro m hm hall
    obtain ⟨⟨h1, h2⟩, h3⟩ := key xs x
    have a1 : m ≤ xs.foldl max x := by
      rcases List.mem_cons.mp hm with rfl | hm
      · exact h1
      · exact h2 m hm
    have a2 : xs.foldl max x ≤ m := by
      rcases h3 with h3 | h3
      · rw [h3]
        exact hall x List.mem_cons_self
      · exact hall _ (List.mem_cons_of_mem _ h3)
    omega
theorem minL_ok : ∀ {ns : List Int} {k : Int}, minL ns = some k → ∀ m, m ∈ ns → (∀ y, y ∈ ns → m ≤ y) → m = k
  | [], k, h => by cases h
  | x :: xs, k, h => by
    cases h
    have key : ∀ (ys : List Int) (a : Int), (ys.foldl min a ≤ a ∧ ∀ y ∈ ys, ys.foldl min a ≤ y) ∧ (ys.foldl min a = a ∨ ys.foldl min a ∈ ys) := by
      intro ys
      induction ys with
      | nil => intro a; exact ⟨⟨Int.le_refl _, fun y hy => by cases hy⟩, .inl rfl⟩
      | cons y ys ih =>
        intro a
        obtain ⟨⟨h1, h2⟩, h3⟩ := ih (min a y)
        simp only [List.foldl_cons]
        refine ⟨⟨by omega, fun z hz => ?_⟩, ?_⟩
        · rcases List.mem_cons.mp hz with rfl | hz
          · omega
          · exact h2 z hz
        · rcases h3 with h3 | h3
          · by_cases hay : a ≤ y
            · left
              rw [h3]
              omega
            · right
              rw [h3, show min a y = y by omega]
              exact List.mem_cons_self
          · exact .inr (List.mem_cons_of_mem _ h3)
    intro m hm hall
    obtain ⟨⟨h1, h2⟩, h3⟩ := key xs x
    have a1 : xs.foldl min x ≤ m := by
      rcases List.mem_cons.mp hm with rfl | hm
      · exact h1
      · exact h2 m hm
    have a2 : m ≤ xs.foldl min x := by
      rcases h3 with h3 | h3
      · rw [h3]
        exact hall x List.mem_cons_self
      · exact hall _ (List.mem_cons_of_mem _ h3)
    omega
theorem maxL_pos {ns : List Int} {k : Int} (h : maxL ns = some k) : 0 < ns.length := by cases ns <;> simp_all [maxL]
theorem minL_pos {ns : List Int} {k : Int} (h : minL ns = some k) : 0 < ns.length := by cases ns <;> simp_all [minL]

/-- what a built-in is called as, what stands behind it -/
def Blt.val : Blt → Value
  | .len => .builtin "len" | .all => .builtin "all" | .any => .builtin "any" | .sum => .builtin "sum" | .tuple => .type "tuple" | .list => .type "list"
  | .int => .type "int" | .abs => .builtin "abs" | .divmod => .builtin "divmod" | .min => .builtin "min" | .max => .builtin "max"
theorem ends_opti {K : PySem.W.Frag} {mg : Str → Option Value} {α : Type} {o : Option α} {f : α → D} {Q : VK} (h : Ends1 K mg m H st (ofOpt (o.map f) st) Q) : ∃ a, o = some a ∧ Ends1 K mg m H st (.ok (f a) st) Q := by
  obtain ⟨d, h1, h⟩ := ends_opt h
  simp only [Option.map_eq_some_iff] at h1
  obtain ⟨a, h1, rfl⟩ := h1
  exact ⟨a, h1, h⟩
theorem call_d (hc : X.calm = true) (b : Blt) : CallR X b.val (rN X.K X.mg (bltD b)) := by
  intro pins s σ H xs us Q I r h
  obtain ⟨m, st, ds, S, hds, h⟩ := h
  unfold bltD at h
  split at h
  · obtain ⟨v, rfl, hv⟩ := dens1 hds
    obtain ⟨rfl, _⟩ := hv
    split at h
    · rename_i hz
      exact call_len_str pins s σ H _ us Q I r ⟨_, rfl, hz, ends_int S h⟩
    · exact (ends_bad h).elim
  · obtain ⟨v, rfl, hv⟩ := dens1 hds
    obtain ⟨xs, h1, h⟩ := ends_opti h
    obtain ⟨a, vs, rfl, ha, hx⟩ := seqOf_some S hv h1
    refine call_len_seq pins s σ H _ us Q I r ⟨a, vs, rfl, ?_, by rw [← hx.length]; exact ends_int S h⟩
    rcases ha with ha | ⟨ha, _⟩
    · exact .inl ha
    · exact .inr ha
  · obtain ⟨v, rfl, hv⟩ := dens1 hds
    obtain ⟨bs, h1, h9⟩ := ends_opti h
    simp only [Option.bind_eq_some_iff] at h1
    obtain ⟨ds, h1, h2⟩ := h1
    obtain ⟨l, f, rfl, hl⟩ := listOf_some h1
    obtain ⟨a, vs, rfl, _, ha, hx, _⟩ := den_lst S hv hl
    rw [bools_of hx h2] at ha
    exact cr_all hc pins s σ H _ us Q I r ⟨a, bs, rfl, ha, ends_bl S h9⟩
  · obtain ⟨v, rfl, hv⟩ := dens1 hds
    obtain ⟨bs, h1, h9⟩ := ends_opti h
    simp only [Option.bind_eq_some_iff] at h1
    obtain ⟨ds, h1, h2⟩ := h1
    obtain ⟨l, f, rfl, hl⟩ := listOf_some h1
    obtain ⟨a, vs, rfl, _, ha, hx, _⟩ := den_lst S hv hl
    rw [bools_of hx h2] at ha
    exact cr_any hc pins s σ H _ us Q I r ⟨a, bs, rfl, ha, ends_bl S h9⟩
  · obtain ⟨v, rfl, hv⟩ := dens1 hds
    obtain ⟨bs, h1, h9⟩ := ends_opti h
    simp only [Option.bind_eq_some_iff] at h1
    obtain ⟨ds, h1, h2⟩ := h1
    obtain ⟨a, vs, rfl, ha, hx⟩ := seqOf_some S hv h1
    rcases ha with ha | ⟨ha, _⟩
    · rw [ints_of hx h2] at ha
      exact cr_sum hc pins s σ H _ us Q I r ⟨a, bs, rfl, ha, ends_int S h9⟩
    · rw [ints_of hx h2] at ha
      exact cr_sumT hc pins s σ H _ us Q I r ⟨a, bs, rfl, ha, ends_int S h9⟩
  · obtain ⟨v, rfl, hv⟩ := dens1 hds
    obtain ⟨xs, h1, h⟩ := ends_opti h
    obtain ⟨a, vs, rfl, ha, hx⟩ := seqOf_some S hv h1
    refine call_tuple_of pins s σ H _ us Q I r ⟨a, vs, rfl, ?_⟩
    rcases ha with ha | ⟨ha, e⟩
    · exact .inl ⟨ha, ends_tup S hx h⟩
    · exact .inr ⟨ha, ends_tupv S ha hx h⟩
  · obtain ⟨v, rfl, hv⟩ := dens1 hds
    split at h
    · rename_i xs h1
      obtain ⟨a, vs, rfl, ha, hx⟩ := seqOf_some S hv h1
      refine call_list_of pins s σ H _ us Q I r ⟨a, vs, rfl, ?_, ends_lst S hx h⟩
      rcases ha with ha | ⟨ha, e⟩
      · exact .inl ha
      · exact .inr ha
    · exact (ends_bad h).elim
  · obtain ⟨v, rfl, hv⟩ := dens1 hds
    cases hv
    exact call_int1 pins s σ H _ us Q I r (.inl ⟨_, rfl, ends_int S h⟩)
  · obtain ⟨v, rfl, hv⟩ := dens1 hds
    cases hv
    exact call_int1 pins s σ H _ us Q I r (.inr ⟨_, rfl, ends_int S h⟩)
  · obtain ⟨v, rfl, hv⟩ := dens1 hds
    cases hv
    exact call_abs pins s σ H _ us Q I r ⟨_, rfl, ends_int S h⟩
  · obtain ⟨v, u, rfl, hv, hu⟩ := dens2 hds
    cases hv
    cases hu
    split at h
    · rename_i hz
      refine call_divmod pins s σ H _ us Q I r ⟨_, _, rfl, hz, ends_tup S ?_ h⟩
      exact ⟨_, _, rfl, rfl, _, _, rfl, rfl, rfl⟩
    · exact (ends_bad h).elim
  · obtain ⟨v, u, rfl, hv, hu⟩ := dens2 hds
    cases hv
    cases hu
    exact call_min2 hc pins s σ H _ us Q I r ⟨_, _, rfl, ends_int S h⟩
  · obtain ⟨v, u, rfl, hv, hu⟩ := dens2 hds
    cases hv
    cases hu
    exact call_max2 hc pins s σ H _ us Q I r ⟨_, _, rfl, ends_int S h⟩
  · obtain ⟨v, rfl, hv⟩ := dens1 hds
    obtain ⟨k, h1, h9⟩ := ends_opti h
    simp only [Option.bind_eq_some_iff] at h1
    obtain ⟨ns, ⟨ds, h1, h2⟩, h3⟩ := h1
    obtain ⟨l, f, rfl, hl⟩ := listOf_some h1
    obtain ⟨a, vs, rfl, _, ha, hx, _⟩ := den_lst S hv hl
    rw [ints_of hx h2] at ha
    exact cr_min hc pins s σ H _ us Q I r ⟨a, ns, rfl, ha, minL_pos h3, fun m h4 h5 => by rw [minL_ok h3 m h4 h5]; exact ends_int S h9⟩
  · obtain ⟨v, rfl, hv⟩ := dens1 hds
    obtain ⟨k, h1, h9⟩ := ends_opti h
    simp only [Option.bind_eq_some_iff] at h1
    obtain ⟨ns, ⟨ds, h1, h2⟩, h3⟩ := h1
    obtain ⟨l, f, rfl, hl⟩ := listOf_some h1
    obtain ⟨a, vs, rfl, _, ha, hx, _⟩ := den_lst S hv hl
    rw [ints_of hx h2] at ha
    exact cr_max hc pins s σ H _ us Q I r ⟨a, ns, rfl, ha, maxL_pos h3, fun m h4 h5 => by rw [maxL_ok h3 m h4 h5]; exact ends_int S h9⟩
  · exact (ends_bad h).elim
end
end Ab

set_option Elab.async false
set_option linter.all false
set_option autoImplicit false
set_option maxRecDepth 100000
/-! AbIter: enumerate of a tuple, walked. -/
namespace L2
open PySem PySem.Spec PyProof.Rows
open AutoSeq1 (wpAny_loadPart')

set_option maxHeartbeats 1000000 in
theorem meets_enumerate_newT {v : Value} {o : Obj} {H : Heap → Prop} (B : Begins v o H) :
    Meets (Builtin.«enumerate.__new__» ⟨[.type "enumerate", v], []⟩) (fun _ R s => H s.heap ∧
      R (.ok (.ret (.ref (s.heap.push o).objs.size))) { s with heap := (s.heap.push o).push { cls := .type "enumerate", data := .fields #[.none, .bool false, .ref s.heap.objs.size, rawInt 0, .none, .none] } }) :=
  .of_wp fun prog w A R s h => by
    obtain ⟨hp, g, d, tk, os⟩ := s; obtain ⟨h1, h⟩ := h
    have hsub := sub_enumerate
    have q1 : ∀ {A' : Around} {E : Value → Shared → Prop} {Q : Value → Shared → Prop}, Q (.ref hp.objs.size) ⟨hp.push o, g, d, tk, os⟩ → wpAny (model prog w) A' (pyIter v) Q E ⟨hp, g, d, tk, os⟩ :=
      fun q => B.iter prog w _ _ ⟨hp, g, d, tk, os⟩ _ h1 q
    wp_walk using q1
    refine wpAny_stack_any fun st => wpAny_pure ?_
    split
    · rename_i c _ _ _ _ _
      cases (c == Value.type "enumerate")
      · wp_walk using q1
        exact ⟨_, rfl, h⟩
      · wp_walk using q1
        exact ⟨_, rfl, h⟩
    · wp_walk using q1
      exact ⟨_, rfl, h⟩
section
variable {prog : Program} {w : World} {A : Around} {E : Value → Shared → Prop} {s : Shared}
theorem call_enumerate_begins {v : Value} {o : Obj} {H : Heap → Prop} {Q : Value → Shared → Prop} (B : Begins v o H) (h1 : H s.heap)
    (h : ∀ h', IsEnum h' (s.heap.objs.size + 1) s.heap.objs.size 0 .none → h'.get? s.heap.objs.size = some o → h'.objs.size = s.heap.objs.size + 2 →
      (∀ b o, s.heap.get? b = some o → h'.get? b = some o) → Q (.ref (s.heap.objs.size + 1)) { s with heap := h' }) :
    wpAny (model prog w) A (call (.type "enumerate") [v]) Q E s := by
  refine callType_new F.called_enumerate (by decide) (F.typeCall_enumerate_1 _) (F.newCall_enumerate_1 _) (fun obj => F.args_object_init_2 obj _) F.entry_enumerate_new
    (meets_enumerate_newT B) ⟨h1, ?_⟩
  have hz : (s.heap.push o).objs.size = s.heap.objs.size + 1 := Heap.size_push ..
  show _ ∧ _
  rw [hz]
  have he : IsEnum ((s.heap.push o).push { cls := .type "enumerate", data := .fields #[.none, .bool false, .ref s.heap.objs.size, rawInt 0, .none, .none] }) (s.heap.objs.size + 1) s.heap.objs.size 0 .none := by
    have := Heap.get?_push_size (s.heap.push o) (o := { cls := .type "enumerate", data := .fields #[.none, .bool false, .ref s.heap.objs.size, rawInt 0, .none, .none] }) rfl
    rw [hz] at this; exact this
  refine ⟨⟨_, he, rfl⟩, h _ he (Heap.get?_push_of_some _ (Heap.get?_push_size _ B.free)) (by rw [Heap.size_push, hz]) fun b o x => Heap.get?_push_of_some _ (Heap.get?_push_of_some _ x)⟩
end

/-- the tuple at a, each item in a new pair -/
def IteT (K : PySem.W.Frag) (a : Addr) : It :=
  ⟨fun i H => ∃ (xs : List V) (x : V), SqT K H a xs ∧ xs[i]? = some x, fun i H v H' => ∃ T x, v = .ref T ∧ H T = none ∧ H' = upd H T (.tup [.int (i : Nat), x]) ∧ ∀ xs, SqT K H a xs → xs[i]? = some x, fun i H => ∃ xs : List V, SqT K H a xs ∧ xs.length = i⟩
theorem turn_enumT {P : Program} {w : World} {K : PySem.W.Frag} {elts : List Expr} {kk : Nat} {tpos : Pos} (a e it : Addr) :
    Turn P w K (.Tuple elts kk tpos) (IteT K a) [e, it] e (fun i h => (∃ old, IsEnum h e it ((i : Nat) : Int) old) ∧ h.IsTupleIter it a i ∧ e ≠ it ∧ a ≠ it ∧ a ≠ e) where
  mem := by simp
  obj := fun i h st b hb => by
    obtain ⟨⟨old, he⟩, ⟨o, ho, hc, hd⟩, _⟩ := st
    have e' : b = e ∨ b = it := by simpa using hb
    rcases e' with z | z
    · rw [z]; exact ⟨_, he, fun v q => nomatch q⟩
    · rw [z]; exact ⟨o, ho, fun v q => by rw [hd] at q; cases q⟩
  keep := fun i h h' st k => let ⟨⟨old, he⟩, hi, hne⟩ := st; ⟨⟨old, k e (by simp) _ he⟩, hi.at fun o q => k it (by simp) o q, hne⟩
  item := by
    intro X hP hw hK hc i pins s σ H E I hf st hg
    subst hP hw hK
    obtain ⟨⟨old, he⟩, hit, hne, hni, hnE⟩ := st
    obtain ⟨xs, x, hq, hx⟩ := hg
    obtain ⟨its, rv, p, hz⟩ := I.tuple hq
    obtain ⟨u, hu, ru⟩ := rv.get hx
    have hel : e < s.heap.objs.size := Heap.lt_size he
    have hil : it < s.heap.objs.size := by obtain ⟨_, q, _⟩ := hit; exact Heap.lt_size q
    have hlt : i < its.toArray.size := by
      have := (List.getElem?_eq_some_iff.mp hu).1
      simpa using this
    refine wpAny_pyNext_enum_itemD (Draws.tuple (A := X.A.in1) (I.ok.hd hc) it a hni its.toArray) he ⟨hit, p⟩ hlt hne (by simp [hne, Ne.symm hnE]) fun y h' tk hy ho hit' hT hsz hk => ?_
    have hyu : y = u := by
      have hy : its.toArray[i]? = some y := hy
      rw [show its.toArray[i]? = some u by simpa using hu] at hy
      exact (Option.some.inj hy).symm
    subst hyu
    refine ⟨_, rfl, wpAny_letOwnedTupleGo_enum (s := { s with heap := h', toks := tk + 1 }) ho fun h'' he' sb => ?_⟩
    have hT2 : h''.get? s.heap.objs.size = some { cls := .type "tuple", data := .seq #[.int i tk, y] } := (sb.2 _ (Nat.ne_of_gt hel)).trans hT
    have new : ObjOk X.prog X.w (upd H s.heap.objs.size (.tup [.int (i : Nat), x])) h'' s.heap.objs.size (.tup [.int (i : Nat), x]) :=
      ⟨by show 2 ≤ sizeLine; decide, [.int i tk, y], .cons ⟨_, rfl⟩ (.cons ru .nil), ⟨_, hT2, rfl, _, rfl⟩⟩
    have I1 : Inv X pins σ (upd H s.heap.objs.size (.tup [.int (i : Nat), x])) { s with heap := h'', toks := tk + 1 } :=
      I.turnedNew (ch := [e, it]) (fun b ob hb q => (sb.2 b (fun z => hb (by simp [z]))).trans (hk b ob (fun z => hb (by simp [z])) (fun z => hb (by simp [z])) q)) hf (Nat.le_refl _) new
    refine ⟨.ref s.heap.objs.size, _, I1, rfl, ⟨_, x, rfl, I.hok.fresh (Nat.le_refl _), rfl, fun ys hy => by rw [I.tuple_inj hy hq]; exact hx⟩, ⟨⟨y, ?_⟩, hit'.1.at fun o q => (sb.2 it (Ne.symm hne)).trans q, hne, hni, hnE⟩, fun b hb => ?_⟩
    · have e1 : ((i + 1 : Nat) : Int) = (i : Int) + 1 := by omega
      rw [e1]; exact he'
    · have hb' : b < s.heap.objs.size := by
        have e' : b = e ∨ b = it := by simpa using hb
        rcases e' with z | z
        · rw [z]; exact hel
        · rw [z]; exact hil
      rw [upd_ne (Nat.ne_of_lt hb')]
      exact (hf b hb).1
  done := by
    intro X hP hw hK hc i pins s σ H E I hf st hg
    subst hP hw hK
    obtain ⟨⟨old, he⟩, hit, hne, hni, hnE⟩ := st
    obtain ⟨xs, hq, hx⟩ := hg
    obtain ⟨its, rv, p, hz⟩ := I.tuple hq
    obtain ⟨f0, f1, f2, f3, f4, f5⟩ := hf it (by simp)
    have hl := rv.length
    have e1 : its.toArray.size = i := by simp; omega
    subst e1
    exact wpAny_pyNext_enum_endD (Draws.tuple (A := X.A.in1) (I.ok.hd hc) it a hni its.toArray) he ⟨hit, p⟩ fun h' eb => ⟨rfl, I.turned (t' := s.toks) (fun b o hb q => eb b o hb q) f0 f1 f3 f4 f5⟩
  self := fun A i s Q E st h => let ⟨⟨_, he⟩, _⟩ := st; wpAny_pyIter_enum he h
def iEnumT (K : PySem.W.Frag) (ta : TA) : TI := fun σ H R => ta σ H fun vs H1 => ∃ a xs, vs = [.ref a] ∧ SqT K H1 a xs ∧ R (IteT K a) H1
theorem pi_enumT {X : Cx} {e : Expr} {ta : TA} {p pos tpos : Pos} {elts : List Expr} {kk : Nat} (hg : Gl X "enumerate") (hm : X.mg "enumerate" = none) (ha : PA X [e] ta) (hs : starEach [e] X.env = [(false, eval e X.env)] := by rfl) :
    PI X (.Tuple elts kk tpos) (.Call (.Name "enumerate" p) [e] [] pos) (iEnumT X.K ta) := by
  refine ⟨fun pins s σ H R I h => ?_⟩
  refine Call_ (ld_blt I hg hm boot_enumerate (PyProof.Rows.callWith_type1 (thn (ha.run pos pins s σ H _ I h) fun us s1 ⟨vs, H1, I1, r1, q1⟩ => ?_) hs rfl))
  obtain ⟨a, xs, ex, hq, q⟩ := q1
  subst ex
  cases r1 with
  | cons r rr =>
    cases rr
    cases r
    obtain ⟨its, rv, p', hz⟩ := I1.tuple hq
    have hal : a < s1.heap.objs.size := by obtain ⟨o, q, _⟩ := p'; exact Heap.lt_size q
    refine call_enumerate_begins (begins_tuple a its.toArray) p' fun h' he hit hsz hk => wpAny_pyIter_enum he ?_
    have I2 : Inv X pins σ H1 { s1 with heap := h' } := I1.kept (t' := s1.toks) hk
    refine ⟨s1.heap.objs.size + 1, [s1.heap.objs.size + 1, s1.heap.objs.size], _, _, H1, rfl, I2, turn_enumT a (s1.heap.objs.size + 1) s1.heap.objs.size, ⟨⟨.none, he⟩, ⟨_, hit, rfl, rfl⟩, Nat.succ_ne_self _, Nat.ne_of_lt hal, Nat.ne_of_lt (Nat.lt_succ_of_lt hal)⟩, fun b hb => ?_, q⟩
    have e' : b = s1.heap.objs.size + 1 ∨ b = s1.heap.objs.size := by simpa using hb
    have hle : s1.heap.objs.size ≤ b := by
      rcases e' with z | z
      · rw [z]; exact Nat.le_add_right _ _
      · rw [z]; exact Nat.le_refl _
    exact I1.fpOk hle (I1.hok.fresh hle)
theorem walk_enumT {K : PySem.W.Frag} {a : Addr} {xs : List V} : Walk (IteT K a) xs.length (fun H => SqT K H a xs) (YPair (fun i => some (.int (i : Nat))) (fun i => xs[i]?)) := by
  refine ⟨fun i _ hi q => ⟨xs, xs[i], q, by simp [hi]⟩, fun _ q => ⟨xs, q, rfl⟩, fun i H v H' _ q y => ?_⟩
  obtain ⟨T, x, h1, h2, h3, h4⟩ := y
  exact ⟨T, .int (i : Nat), x, h1, h2, h3, rfl, h4 xs q⟩
/-- two ways to walk, one text -/
theorem PI.or {X : Cx} {tg l : Expr} {w1 w2 : TI} (h1 : PI X tg l w1) (h2 : PI X tg l w2) : PI X tg l (fun σ H R => w1 σ H R ∨ w2 σ H R) :=
  ⟨fun pins s σ H R I h => h.elim (fun q => h1.run pins s σ H R I q) fun q => h2.run pins s σ H R I q⟩
theorem PI.weak {X : Cx} {tg l : Expr} {w1 w2 : TI} (h1 : PI X tg l w1) (h : ∀ σ H R, w2 σ H R → w1 σ H R) : PI X tg l w2 :=
  ⟨fun pins s σ H R I q => h1.run pins s σ H R I (h _ _ _ q)⟩
end L2

set_option Elab.async false
set_option linter.all false
set_option autoImplicit false
set_option maxRecDepth 10000
/-! AbOps3: isinstance, methods of lists. -/
namespace Ab
open PySem PySem.Spec PyProof.Rows L2
section
variable {X : Cx} {m : List Addr} {H : Hp} {st : Sto}
def Ty.name : Ty → String
  | .int => "int" | .bool => "bool" | .str => "str" | .tuple => "tuple" | .list => "list" | .dict => "dict"
theorem isi_kit {K : PySem.W.Frag} {mg : Str → Option Value} (S : StOk K mg m H st) {d : D} {v : V} {t : Ty} {b : Bool} (hd : Den K mg m H d v) (h : isiD t d st = some b) : ∃ tv, TyX K H v tv ∧ PySem.W.kitOne K tv (.type t.name) = some b := by
  cases d with
  | non =>
    cases hd; cases h
    exact ⟨_, .base .non, by cases t <;> exact kit_ty (by decide +kernel)⟩
  | bl c =>
    cases hd; cases h
    exact ⟨_, .base (.bl c), by cases t <;> exact kit_ty (by decide +kernel)⟩
  | int i =>
    cases hd; cases h
    exact ⟨_, .base (.int i), by cases t <;> exact kit_ty (by decide +kernel)⟩
  | str x =>
    cases hd.1; cases h
    exact ⟨_, .base (.str x), by cases t <;> exact kit_ty (by decide +kernel)⟩
  | tup ds =>
    cases h
    obtain ⟨a, vs, rfl, ha, hx⟩ := den_tup hd
    have ty : TyX K H (.ref a) (.type "tuple") := by
      rcases ha with (ha | ⟨o, ha⟩) | ⟨o, its, n, hk, hc, _⟩
      · exact .base (.tup ha)
      · exact .fTuple ha
      · exact .kTuple hk hc
    exact ⟨_, ty, by cases t <;> exact kit_ty (by decide +kernel)⟩
  | ref l =>
    unfold isiD at h
    simp only at h
    split at h
    · rename_i f ds hl
      cases h
      obtain ⟨a, vs, rfl, _, ha, hx, _⟩ := den_lst S hd hl
      have ty : TyX K H (.ref a) (.type "list") := by
        rcases ha with (ha | ⟨o, ha⟩) | ⟨o, its, n, hk, hc, _⟩
        · exact .base (.lst ha)
        · exact .base (.frz ha)
        · exact .kList hk hc
      exact ⟨_, ty, by cases t <;> exact kit_ty (by decide +kernel)⟩
    · cases h
  | fn x => cases h

def Mth.id : Mth → String
  | .append => "list.append" | .index => "list.index" | .pop => "list.pop"
def Mth.nm : Mth → Str
  | .append => "append" | .index => "index" | .pop => "pop"
theorem findD_at {K : PySem.W.Frag} {mg : Str → Option Value} {d : D} {y : V} (hd : Den K mg m H d y) (fd : flatD d = true) : ∀ {es : List D} {ys : List V} {b k : Nat}, Dens K mg m H es ys → es.all flatD = true → findD st d es b = some (some k) →
    b ≤ k ∧ (∃ z, ys[k - b]? = some z ∧ eqV z y = true) ∧ ∀ (j : Nat) (z : V), j < k - b → ys[j]? = some z → eqV z y = false
  | [], ys, b, k, h, f, e => by cases e
  | d' :: es, ys, b, k, h, f, e => by
    obtain ⟨z, r, rfl, h1, h2⟩ := h
    simp only [List.all_cons, Bool.and_eq_true] at f
    unfold findD at e
    rw [eqD_flat hd h1 fd f.1] at e
    cases q : eqV z y with
    | true =>
      rw [q] at e
      cases e
      refine ⟨Nat.le_refl _, ⟨z, by simp, q⟩, fun j z' hj _ => by omega⟩
    | false =>
      rw [q] at e
      obtain ⟨i1, ⟨z1, i2, i3⟩, i4⟩ := findD_at hd fd h2 f.2 e
      refine ⟨by omega, ⟨z1, ?_, i3⟩, fun j z' hj hz => ?_⟩
      · have : k - b = (k - (b + 1)) + 1 := by omega
        rw [this]
        simpa using i2
      · cases j with
        | zero =>
          simp at hz
          subst hz
          exact q
        | succ j => exact i4 j z' (by omega) (by simpa using hz)
def rM (K : PySem.W.Frag) (mg : Str → Option Value) (g : D → List D → Sto → R D) : V → List V → Hp → VK → Prop := fun x xs H Q => ∃ m st d ds, StOk K mg m H st ∧ Den K mg m H d x ∧ Dens K mg m H ds xs ∧ Ends1 K mg m H st (g d ds st) Q
theorem dens0 {K : PySem.W.Frag} {mg : Str → Option Value} {xs : List V} (h : Dens K mg m H [] xs) : xs = [] := h
theorem Dens.dropLast {K : PySem.W.Frag} {mg : Str → Option Value} {ds : List D} {vs : List V} (h : Dens K mg m H ds vs) : Dens K mg m H ds.dropLast vs.dropLast := by
  rw [List.dropLast_eq_take, List.dropLast_eq_take, h.length]
  exact h.take _
theorem mth_d (mt : Mth) : MtR X mt.id (rM X.K X.mg (mthD mt)) := by
  intro pins s σ H x xs v us Q I rx r h
  obtain ⟨m, st, d, ds, S, hd, hds, h⟩ := h
  unfold mthD at h
  split at h
  · split at h
    · rename_i ys hl
      obtain ⟨a, vs, rfl, hm, ha, hx, hw⟩ := den_lst S hd hl
      split at h
      · obtain ⟨u, rfl, hu⟩ := dens1 hds
        split at h
        · rename_i hz
          obtain ⟨S1, g1⟩ := S.put hm hl (hx.append (Dens.one hu))
          obtain ⟨d', st', e, q⟩ := h
          cases e
          exact mt_append pins s σ H _ _ v us Q I rx r ⟨a, vs, u, rfl, rfl, hw rfl, by rw [← hx.length]; exact hz, q m _ .non g1 S1 rfl⟩
        · exact (ends_bad h).elim
      · obtain ⟨u, rfl, hu⟩ := dens1 hds
        split at h
        · rename_i hf
          simp only [Bool.and_eq_true] at hf
          split at h
          · rename_i k hk
            obtain ⟨_, ⟨z, i2, i3⟩, i4⟩ := findD_at hu hf.1 hx hf.2 hk
            have i5 := (inD_flat (st := st) hu hf.1 hx hf.2).2
            exact mt_index pins s σ H _ _ v us Q I rx r ⟨a, vs, u, k, z, rfl, rfl, ha, flat_den hu hf.1, i5, i2, i3, i4, ends_int S h⟩
          · exact (ends_bad h).elim
        · exact (ends_bad h).elim
      · cases dens0 hds
        split at h
        · rename_i y hy
          obtain ⟨u, hu, hdu⟩ := hx.get hy
          obtain ⟨S1, g1⟩ := S.put hm hl hx.dropLast
          obtain ⟨d', st', e, q⟩ := h
          cases e
          exact mt_pop pins s σ H _ _ v us Q I rx r ⟨a, vs, u, rfl, rfl, hw rfl, by rw [← hx.length]; exact hu, q m _ u g1 S1 (Den.grow S g1 hdu)⟩
        · exact (ends_bad h).elim
      · exact (ends_bad h).elim
    · exact (ends_bad h).elim
  · exact (ends_bad h).elim
end
end Ab

set_option Elab.async false
set_option linter.all false
set_option autoImplicit false
set_option maxRecDepth 10000
/-! AbChk: whether a term of the small language is a text's own term. -/
namespace Ab
open PySem PySem.Spec PyProof.Rows L2

def dunder (x : Str) : Bool := x == ("__debug__" : Str) || x == ("__classdict__" : Str)
def visB (sc : Scope) (x : Str) : Bool := match sc.names.lookup x with
  | some .local => true
  | some .cell => true
  | some .free => true
  | _ => false
def glbB (sc : Scope) (x : Str) : Bool := match sc.names.lookup x with
  | some .globalImplicit => !(x == ("__debug__" : Str)) && decide (x ≠ "__name__")
  | _ => false
/-- a name that is stored here: raw is the block's own scope -/
def stoB (sc raw : Scope) (x : Str) : Bool := match sc.names.lookup x with
  | some .local => true
  | some .cell => (match raw.names.lookup x with
    | some .cell => true
    | _ => false)
  | _ => false
def isCall0 : Expr → Bool
  | .Call (.Name _ _) [] [] _ => true
  | _ => false
def isSlice : Expr → Bool
  | .Slice .. => true
  | _ => false
def isStar : Expr → Bool
  | .Starred .. => true
  | _ => false
def isSet : Expr → Bool
  | .Set .. => true
  | _ => false
def isComp : Expr → Bool
  | .ListComp .. => true
  | .SetComp .. => true
  | .DictComp .. => true
  | _ => false
/-- an expression whose truth is its value's -/
def plainT : Expr → Bool
  | .UnaryOp .Not _ _ => false
  | .BoolOp .. => false
  | .IfExp .. => false
  | .Compare .. => false
  | _ => true
def Blt.nm : Blt → Str
  | .len => "len" | .all => "all" | .any => "any" | .sum => "sum" | .tuple => "tuple" | .list => "list" | .int => "int" | .abs => "abs" | .divmod => "divmod" | .min => "min" | .max => "max"
def Ty.nm : Ty → Str
  | .int => "int" | .bool => "bool" | .str => "str" | .tuple => "tuple" | .list => "list" | .dict => "dict"
def ownP (N : List Str) (own : List Nat) : List (Str × Nat) := own.map fun i => (N.getD i "", i)
mutual
def tgIn (own : List Nat) : Tg → Bool
  | .nm i => own.contains i
  | .tp ts => tgsIn own ts
  | .sb _ _ => false
def tgsIn (own : List Nat) : Tgs → Bool
  | .nil => true
  | .cons t ts => tgIn own t && tgsIn own ts
end
def isTup : Expr → Bool
  | .Tuple .. => true
  | _ => false

/-- the defs' names; the calls with keywords: the name, how many values ahead, the keywords -/
structure Tx where
  fs : List Str
  kw : List (Str × Nat × List Str)
section
variable (N : List Str) (KW : Tx)
mutual
def chkE (sc raw : Scope) : CE → Expr → Bool
  | .var i, e => match e with
    | .Name x _ => decide (N[i]? = some x) && visB sc x && !dunder x
    | _ => false
  | .lit l, e => match l, e with
    | .non, .Constant .none _ _ => true
    | .bl b, .Constant (.bool c) _ _ => b == c
    | .int i, .Constant (.int j) _ _ => decide (i = j)
    | .str x, .Constant (.str y) _ _ => decide (x = y) && sOk x
    | _, _ => false
  | .glob x, e => match e with
    | .Name y _ => decide (x = y) && glbB sc x
    | _ => false
  | .bin op a b, e => match e with
    | .BinOp x o y _ => decide (op = o) && powOk op && chkE sc raw a x && chkE sc raw b y
    | _ => false
  | .neg a, e => match e with
    | .UnaryOp .USub x _ => chkE sc raw a x
    | _ => false
  | .cmp op a b, e => match e with
    | .Compare x [o] [y] _ => decide (op = o) && !isSet y && chkE sc raw a x && chkE sc raw b y
    | _ => false
  | .chain o1 o2 a b c, e => match e with
    | .Compare x [p1, p2] [y, z] _ => decide (o1 = p1) && decide (o2 = p2) && !isSet y && !isSet z && chkE sc raw a x && chkE sc raw b y && chkE sc raw c z
    | _ => false
  | .and_ a b, e => match e with
    | .BoolOp .And [x, y] _ => chkE sc raw a x && chkE sc raw b y
    | .BoolOp .And (x :: y :: z :: r) pos => chkE sc raw a x && chkE sc raw b (.BoolOp .And (y :: z :: r) pos)
    | _ => false
  | .or_ a b, e => match e with
    | .BoolOp .Or [x, y] _ => chkE sc raw a x && chkE sc raw b y
    | .BoolOp .Or (x :: y :: z :: r) pos => chkE sc raw a x && chkE sc raw b (.BoolOp .Or (y :: z :: r) pos)
    | _ => false
  | .not_ a, e => match e with
    | .UnaryOp .Not x _ => chkE sc raw a x
    | _ => false
  | .ife c a b, e => match e with
    | .IfExp t x y _ => chkT sc raw c t && chkE sc raw a x && chkE sc raw b y
    | _ => false
  | .tup es, e => match e with
    | .Tuple xs _ _ => chkEs sc raw es xs
    | _ => false
  | .lst es, e => match e with
    | .List xs _ => chkEs sc raw es xs
    | _ => false
  | .sub a i, e => match e with
    | .Subscript x y _ => !isSlice y && chkE sc raw a x && chkE sc raw i y
    | _ => false
  | .slc a lo hi, e => match e with
    | .Subscript x (.Slice l h none _) _ => chkE sc raw a x && chkP sc raw lo l && chkP sc raw hi h
    | _ => false
  | .call f es, e => match e with
    | .Call (.Name g _) xs [] _ => decide (f = g) && decide (f ∈ KW.fs) && glbB sc g && chkEs sc raw es xs
    | _ => false
  | .callk f es ks ws, e => match e with
    | .Call (.Name g _) xs kws _ => decide (f = g) && glbB sc g && chkEs sc raw es xs && decide (f ∈ KW.fs) && decide ((f, xs.length, ks) ∈ KW.kw) && decide (ks ≠ []) && decide (kws.map (·.arg) = ks.map some) && chkEs sc raw ws (kws.map (·.value))
    | _ => false
  | .blt b es, e => match e with
    | .Call (.Name g _) (x :: xs) [] _ => decide (g = b.nm) && glbB sc g && chkEs sc raw es (x :: xs)
    | _ => false
  | .isi a t, e => match e with
    | .Call (.Name g _) [x, .Name h _] [] _ => decide (g = ("isinstance" : Str)) && glbB sc g && decide (h = t.nm) && glbB sc h && !isStar x && chkE sc raw a x
    | _ => false
  | .meth m o es, e => match e with
    | .Call (.Attribute x nm apos) xs [] cpos => decide (nm = m.nm) && (apos.endLine == cpos.line) && decide (xs.length < 20) && !isCall0 x && chkE sc raw o x && chkEs sc raw es xs
    | _ => false
  | .lc elt tg it cond own, e => match e with
    | .ListComp x [⟨tgt, iter, ifs, k⟩] scope _ => (k == 0) && !isSet iter && blkC N sc scope (ownP N own) && tgIn own tg && chkI sc raw it iter (isTup tgt) && chkTg (relS scope sc) scope tg tgt && chkC (relS scope sc) scope cond ifs && chkE (relS scope sc) scope elt x
    | _ => false
/-- .. as a test -/
def chkT (sc raw : Scope) : CE → Expr → Bool
  | .not_ a, e => match e with
    | .UnaryOp .Not x _ => chkT sc raw a x
    | _ => false
  | .and_ a b, e => match e with
    | .BoolOp .And [x, y] _ => chkT sc raw a x && chkT sc raw b y
    | .BoolOp .And (x :: y :: z :: r) pos => chkT sc raw a x && chkT sc raw b (.BoolOp .And (y :: z :: r) pos)
    | _ => false
  | .or_ a b, e => match e with
    | .BoolOp .Or [x, y] _ => chkT sc raw a x && chkT sc raw b y
    | .BoolOp .Or (x :: y :: z :: r) pos => chkT sc raw a x && chkT sc raw b (.BoolOp .Or (y :: z :: r) pos)
    | _ => false
  | .cmp op a b, e => match e with
    | .Compare x [o] [y] _ => decide (op = o) && !isSet y && chkE sc raw a x && chkE sc raw b y
    | _ => false
  | .chain o1 o2 a b c, e => match e with
    | .Compare x [p1, p2] [y, z] _ => decide (o1 = p1) && decide (o2 = p2) && !isSet y && !isSet z && chkE sc raw a x && chkE sc raw b y && chkE sc raw c z
    | _ => false
  | .var i, e => match e with
    | .Name x _ => decide (N[i]? = some x) && visB sc x && !dunder x
    | _ => false
  | .lit l, e => match l, e with
    | .non, .Constant .none _ _ => true
    | .bl b, .Constant (.bool c) _ _ => b == c
    | .int i, .Constant (.int j) _ _ => decide (i = j)
    | .str x, .Constant (.str y) _ _ => decide (x = y) && sOk x
    | _, _ => false
  | .sub a i, e => match e with
    | .Subscript x y _ => !isSlice y && chkE sc raw a x && chkE sc raw i y
    | _ => false
  | .call f es, e => match e with
    | .Call (.Name g _) xs [] _ => decide (f = g) && decide (f ∈ KW.fs) && glbB sc g && chkEs sc raw es xs
    | _ => false
  | .callk f es ks ws, e => match e with
    | .Call (.Name g _) xs kws _ => decide (f = g) && glbB sc g && chkEs sc raw es xs && decide (f ∈ KW.fs) && decide ((f, xs.length, ks) ∈ KW.kw) && decide (ks ≠ []) && decide (kws.map (·.arg) = ks.map some) && chkEs sc raw ws (kws.map (·.value))
    | _ => false
  | .blt b es, e => match e with
    | .Call (.Name g _) (x :: xs) [] _ => decide (g = b.nm) && glbB sc g && chkEs sc raw es (x :: xs)
    | _ => false
  | .isi a t, e => match e with
    | .Call (.Name g _) [x, .Name h _] [] _ => decide (g = ("isinstance" : Str)) && glbB sc g && decide (h = t.nm) && glbB sc h && !isStar x && chkE sc raw a x
    | _ => false
  | _, _ => false
def chkP (sc raw : Scope) : Pt → Option Expr → Bool
  | .none, e => match e with
    | none => true
    | some _ => false
  | .some c, e => match e with
    | some x => chkE sc raw c x
    | none => false
/-- a clause's tests -/
def chkC (sc raw : Scope) : Pt → List Expr → Bool
  | .none, es => match es with
    | [] => true
    | _ => false
  | .some c, es => match es with
    | [x] => chkT sc raw c x
    | _ => false
def chkEs (sc raw : Scope) : CEs → List Expr → Bool
  | .nil, es => match es with
    | [] => true
    | _ => false
  | .cons c cs, es => match es with
    | x :: xs => !isStar x && chkE sc raw c x && chkEs sc raw cs xs
    | [] => false
def chkI (sc raw : Scope) : Itr → Expr → Bool → Bool
  | .seq c, e, _ => chkE sc raw c e
  | .rng1 a, e, _ => match e with
    | .Call (.Name g _) [x] [] _ => decide (g = ("range" : Str)) && glbB sc g && !isStar x && chkE sc raw a x
    | _ => false
  | .rng2 a b, e, _ => match e with
    | .Call (.Name g _) [x, y] [] _ => decide (g = ("range" : Str)) && glbB sc g && !isStar x && !isStar y && chkE sc raw a x && chkE sc raw b y
    | _ => false
  | .enum a, e, t => match e with
    | .Call (.Name g _) [x] [] _ => t && decide (g = ("enumerate" : Str)) && glbB sc g && !isStar x && chkE sc raw a x
    | _ => false
  | .zip a b, e, t => match e with
    | .Call (.Name g _) [x, y] [] _ => t && decide (g = ("zip" : Str)) && glbB sc g && !isStar x && !isStar y && chkE sc raw a x && chkE sc raw b y
    | _ => false
def chkTg (sc raw : Scope) : Tg → Expr → Bool
  | .nm i, e => match e with
    | .Name x _ => decide (N[i]? = some x) && stoB sc raw x
    | _ => false
  | .tp ts, e => match e with
    | .Tuple xs _ _ => chkTgs sc raw ts xs
    | _ => false
  | .sb a i, e => match e with
    | .Subscript x y _ => !isSlice y && chkE sc raw a x && chkE sc raw i y
    | _ => false
def chkTgs (sc raw : Scope) : Tgs → List Expr → Bool
  | .nil, es => match es with
    | [] => true
    | _ => false
  | .cons t ts, es => match es with
    | x :: xs => !isStar x && chkTg sc raw t x && chkTgs sc raw ts xs
    | [] => false
end
theorem chkT_var {sc raw : Scope} {i : Nat} {e : Expr} (h : chkT N KW sc raw (.var i) e = true) : (plainT e && chkE N KW sc raw (.var i) e) = true := by
  cases e <;> first | (simp [chkT] at h; done) | (simp only [plainT, Bool.true_and]; unfold chkT at h; unfold chkE; exact h)
theorem chkT_lit {sc raw : Scope} {l : Lit} {e : Expr} (h : chkT N KW sc raw (.lit l) e = true) : (plainT e && chkE N KW sc raw (.lit l) e) = true := by
  cases e <;> first | (cases l <;> simp [chkT] at h; done) | (simp only [plainT, Bool.true_and]; unfold chkT at h; unfold chkE; exact h)

/-- no stores that are exchanged -/
def swapNo (sc : Scope) (t v : Expr) : Bool := match t, v with
  | .Tuple ts _ _, .Tuple vs _ _ =>
    !(ts.length == 2 || ts.length == 3) || (vs.length != ts.length) || (!(vs.any isStar) && (ts.all fun t => match t with | .Name x p => !(decide (sc.names.lookup x = some .local) && (p.line == ((ts.head?.map (·.pos.line)).getD 0))) | _ => true) && !ts.isEmpty)
  | .List .., _ => false
  | _, _ => true
/-- the comprehension goes straight to the name -/
def swapLc (sc : Scope) (y : Str) (py : Pos) (v : Expr) : Bool := match v with
  | .ListComp _ _ scope pos => decide (sc.names.lookup y = some .local) && (py.line == pos.line) && !(scope.names.any fun (n, k) => n == y && (k == .local || k == .cell))
  | _ => false
def nmLocal (sc : Scope) (i : Nat) (e : Expr) : Bool := match e with
  | .Name x _ => decide (N[i]? = some x) && decide (sc.names.lookup x = some .local)
  | _ => false
def firstLine (ts : List Expr) : Nat := (ts.head?.map (·.pos.line)).getD 0
def parOk (sc : Scope) (ts : List Expr) (vs : List Expr) : Bool :=
  !(vs.any isStar) && (ts.all fun t => t.pos.line == firstLine ts) && !(vs.all (foldedForSure 8)) && !(vs.all (constantsAlone 8))

mutual
def chkS (sc : Scope) : CS → Stmt → Bool
  | .asg t e, s => match s with
    | .Assign [tgt] v _ => chkTg N KW sc sc t tgt && chkE N KW sc sc e v && swapNo sc tgt v
    | _ => false
  | .par is es, s => match s with
    | .Assign [.Tuple [x, y] _ _] (.Tuple [a, b] _ _) _ => (match is with
      | [i, j] => nmLocal N sc i x && nmLocal N sc j y && decide (i ≠ j) && parOk sc [x, y] [a, b] && chkEs N KW sc sc es [a, b]
      | _ => false)
    | .Assign [.Tuple [x, y, z] _ _] (.Tuple [a, b, c] _ _) _ => (match is with
      | [i, j, k] => nmLocal N sc i x && nmLocal N sc j y && nmLocal N sc k z && decide (i ≠ j) && decide (i ≠ k) && decide (j ≠ k) && parOk sc [x, y, z] [a, b, c] && chkEs N KW sc sc es [a, b, c]
      | _ => false)
    | _ => false
  | .expr e, s => match s with
    | .Expr v _ => !isComp v && chkE N KW sc sc e v
    | _ => false
  | .ret e, s => match s with
    | .Return (some v) _ => chkE N KW sc sc e v
    | _ => false
  | .retN, s => match s with
    | .Return none _ => true
    | _ => false
  | .ife c a b, s => match s with
    | .If t x y _ => chkT N KW sc sc c t && chkSs sc a x && chkSs sc b y
    | _ => false
  | .for_ t it b, s => match s with
    | .For tgt iter body [] _ => !isSet iter && chkI N KW sc sc it iter (isTup tgt) && chkTg N KW sc sc t tgt && chkSs sc b body
    | _ => false
  | .while_ c b, s => match s with
    | .While t body [] _ => chkT N KW sc sc c t && chkSs sc b body
    | _ => false
  | .pass, s => match s with
    | .Pass _ => true
    | _ => false
  | .never, _ => true
def chkSs (sc : Scope) : CSs → List Stmt → Bool
  | .nil, ss => match ss with
    | [] => true
    | _ => false
  | .cons c cs, ss => match ss with
    | s :: r => chkS sc c s && chkSs sc cs r
    | [] => false
end
end
end Ab

set_option Elab.async false
set_option linter.all false
set_option autoImplicit false
set_option maxRecDepth 10000
/-! AbLift: readings made of the small language's reckoning, how they follow one another. -/
namespace Ab
open PySem PySem.Spec PyProof.Rows L2

/-- how an exception lies -/
def XR (K : PySem.W.Frag) (mg : Str → Option Value) (m : List Addr) (H : Hp) (x : XV) (cls : Value) (d : Option Addr) : Prop :=
  ∃ C, mg x.cls = some (.ref C) ∧ cls = .ref C ∧ match x.fs with
    | [] => True
    | [(f, e)] => ∃ a v, d = some a ∧ H a = some (.xd [(f, v)]) ∧ Den K mg m H e v
    | _ => False

/-- a result, its end wanted -/
def Res (K : PySem.W.Frag) (mg : Str → Option Value) (W : WX) (σ : L2.St) (m : List Addr) (H : Hp) (st : Sto) {α : Type} (r : R α) (Q : α → List Addr → Hp → Sto → Prop) : Prop :=
  match r with
  | .ok a st' => ∀ m' H', Grow m H st m' H' st' → StOk K mg m' H' st' → Q a m' H' st'
  | .ex x st' => ∀ m' H' cls d, Grow m H st m' H' st' → StOk K mg m' H' st' → XR K mg m' H' x cls d → W cls d σ H'
  | .bad => False
section
variable {K : PySem.W.Frag} {mg : Str → Option Value} {W : WX} {σ : L2.St} {m : List Addr} {H : Hp} {st : Sto} {α β : Type}
theorem Res.bind {r : R α} {f : α → Sto → R β} {Q : β → List Addr → Hp → Sto → Prop} (h : Res K mg W σ m H st (r.bind f) Q) : Res K mg W σ m H st r (fun a m1 H1 st1 => Res K mg W σ m1 H1 st1 (f a st1) Q) := by
  cases r with
  | ok a st1 =>
    intro m1 H1 g1 S1
    have h : Res K mg W σ m H st (f a st1) Q := h
    cases q : f a st1 with
    | ok b st2 =>
      rw [q] at h
      exact fun m2 H2 g2 S2 => h m2 H2 (g1.trans g2) S2
    | ex x st2 =>
      rw [q] at h
      exact fun m2 H2 c d g2 S2 => h m2 H2 c d (g1.trans g2) S2
    | bad =>
      rw [q] at h
      exact h
  | ex x st1 => exact h
  | bad => exact h
theorem Res.imp {r : R α} {Q Q' : α → List Addr → Hp → Sto → Prop} (h : Res K mg W σ m H st r Q) (i : ∀ a m' H' st', Grow m H st m' H' st' → StOk K mg m' H' st' → Q a m' H' st' → Q' a m' H' st') : Res K mg W σ m H st r Q' := by
  cases r with
  | ok a st1 => exact fun m1 H1 g1 S1 => i a m1 H1 st1 g1 S1 (h m1 H1 g1 S1)
  | ex x st1 => exact h
  | bad => exact h
theorem Res.pure {a : α} {Q : α → List Addr → Hp → Sto → Prop} (S : StOk K mg m H st) (h : Res K mg W σ m H st (.ok a st) Q) : Q a m H st := h m H Grow.refl S

/-- no exception -/
def R.plain (r : R α) : Prop := match r with
  | .ex _ _ => False
  | _ => True
theorem Res.ends {r : R D} {Q : VK} (h : Res K mg W σ m H st r (fun d m' H' _ => ∀ v, Den K mg m' H' d v → Q v H')) (hp : r.plain) : Ends1 K mg m H st r Q := by
  cases r with
  | ok d st1 => exact ⟨d, st1, rfl, fun m' H' v g S hd => h m' H' g S v hd⟩
  | ex x st1 => exact hp.elim
  | bad => exact h.elim
theorem plain_ofOpt {o : Option α} {st : Sto} : (ofOpt o st).plain := by
  cases o <;> trivial
theorem plain_ite {c : Prop} [Decidable c] {a b : R α} (ha : a.plain) (hb : b.plain) : (if c then a else b).plain := by
  by_cases h : c
  · rw [if_pos h]; exact ha
  · rw [if_neg h]; exact hb
theorem plain_alloc {o : AO} {st : Sto} : (Ab.alloc o st).plain := trivial
theorem plain_bin {op : Operator} {d e : D} {st : Sto} : (binD op d e st).plain := by
  unfold binD
  split
  any_goals trivial
  any_goals exact plain_ite trivial trivial
  all_goals
    split
    · exact plain_ite trivial trivial
    · trivial
theorem plain_sub {d e : D} {st : Sto} : (subD d e st).plain := by
  unfold subD
  split
  · split
    · exact plain_ofOpt
    · split
      · exact plain_ofOpt
      · trivial
    · exact plain_ite plain_ofOpt trivial
    · trivial
  · trivial
theorem plain_slc {d : D} {lo hi : Option Int} {st : Sto} : (slcD d lo hi st).plain := by
  unfold slcD
  split
  · trivial
  · split <;> trivial
  · trivial
theorem plain_blt {b : Blt} {ds : List D} {st : Sto} : (bltD b ds st).plain := by
  unfold bltD
  split
  any_goals trivial
  any_goals exact plain_ofOpt
  any_goals exact plain_ite trivial trivial
  split <;> trivial
theorem plain_mth {mt : Mth} {d : D} {ds : List D} {st : Sto} : (mthD mt d ds st).plain := by
  unfold mthD
  split
  · split
    · split
      · exact plain_ite trivial trivial
      · refine plain_ite ?_ trivial
        split <;> trivial
      · split <;> trivial
      · trivial
    · trivial
  · trivial
end

section
variable (X : Cx) (W : WX)
/-- a reading by what is reckoned -/
def Lf {α β : Type} (f : En → Sto → R α) (rel : α → List Addr → Hp → β → Prop) : L2.St → Hp → (β → Hp → Prop) → Prop := fun σ H Q =>
  ∃ m env st, StOk X.K X.mg m H st ∧ EnOk X.K X.mg m H σ env ∧ Res X.K X.mg W σ m H st (f env st) (fun a m' H' _ => ∀ b, rel a m' H' b → Q b H')
abbrev LfE (f : En → Sto → R D) : TE := Lf X W f (fun d m H v => Den X.K X.mg m H d v)
abbrev LfT (f : En → Sto → R Bool) : TT := Lf X W f (fun k _ _ b => b = k)
abbrev LfA (f : En → Sto → R (List D)) : TA := Lf X W f (fun ds m H vs => Dens X.K X.mg m H ds vs)
abbrev LfP (f : En → Sto → R (Option Int)) : TO := Lf X W f (fun k _ _ b => b = k)
variable {X W}
theorem Lf.of {α β γ : Type} {f : En → Sto → R α} {rel : α → List Addr → Hp → β → Prop} {m : List Addr} {H : Hp} {st : Sto} {σ : L2.St} {env : En} {k : α → Sto → R γ} {Q : γ → List Addr → Hp → Sto → Prop} {B : β → Hp → Prop}
    (S : StOk X.K X.mg m H st) (E : EnOk X.K X.mg m H σ env) (h : Res X.K X.mg W σ m H st ((f env st).bind k) Q)
    (nx : ∀ a m1 H1 st1 b, Grow m H st m1 H1 st1 → StOk X.K X.mg m1 H1 st1 → EnOk X.K X.mg m1 H1 σ env → rel a m1 H1 b → Res X.K X.mg W σ m1 H1 st1 (k a st1) Q → B b H1) : Lf X W f rel σ H B :=
  ⟨m, env, st, S, E, h.bind.imp fun a m1 H1 st1 g1 S1 q b hb => nx a m1 H1 st1 b g1 S1 (E.grow S g1) hb q⟩
theorem Lf.to {α β : Type} {f : En → Sto → R α} {rel : α → List Addr → Hp → β → Prop} {m : List Addr} {H : Hp} {st : Sto} {σ : L2.St} {env : En} {Q : α → List Addr → Hp → Sto → Prop} {B : β → Hp → Prop}
    (S : StOk X.K X.mg m H st) (E : EnOk X.K X.mg m H σ env) (h : Res X.K X.mg W σ m H st (f env st) Q)
    (nx : ∀ a m1 H1 st1 b, Grow m H st m1 H1 st1 → StOk X.K X.mg m1 H1 st1 → rel a m1 H1 b → Q a m1 H1 st1 → B b H1) : Lf X W f rel σ H B :=
  ⟨m, env, st, S, E, h.imp fun a m1 H1 st1 g1 S1 q b hb => nx a m1 H1 st1 b g1 S1 hb q⟩
end

theorem PE.weak {X : Cx} {e : Expr} {t u : TE} (h : PE X e t) (w : ∀ σ H Q, u σ H Q → t σ H Q) : PE X e u := ⟨fun pins s σ H Q I q => h.run pins s σ H Q I (w σ H Q q)⟩
theorem PT.weak {X : Cx} {e : Expr} {t u : TT} (h : PT X e t) (w : ∀ σ H Q, u σ H Q → t σ H Q) : PT X e u := ⟨fun pins s σ H Q I q => h.run pins s σ H Q I (w σ H Q q)⟩
theorem PW.weak {X : Cx} {e : Expr} {t u : TT} (h : PW X e t) (w : ∀ σ H Q, u σ H Q → t σ H Q) : PW X e u := ⟨fun wh pins s σ H Q I q => h.run wh pins s σ H Q I (w σ H Q q)⟩
theorem PA.weak {X : Cx} {e : List Expr} {t u : TA} (h : PA X e t) (w : ∀ σ H Q, u σ H Q → t σ H Q) : PA X e u := ⟨fun pos pins s σ H Q I q => h.run pos pins s σ H Q I (w σ H Q q)⟩
theorem PK.weak {X : Cx} {e : List Keyword} {t u : TA} (h : PK X e t) (w : ∀ σ H Q, u σ H Q → t σ H Q) : PK X e u := ⟨fun pos pins s σ H Q I q => h.run pos pins s σ H Q I (w σ H Q q)⟩
theorem PO.weak {X : Cx} {e : Option Expr} {t u : TO} (h : PO X e t) (w : ∀ σ H Q, u σ H Q → t σ H Q) : PO X e u := ⟨fun pins s σ H Q I q => h.run pins s σ H Q I (w σ H Q q)⟩
theorem PTs.weak {X : Cx} {e : List Expr} {t u : TT} (h : PTs X e t) (w : ∀ σ H Q, u σ H Q → t σ H Q) : PTs X e u := ⟨fun pins s σ H Q I q => h.run pins s σ H Q I (w σ H Q q)⟩
theorem PS.weak {X : Cx} {e : Stmt} {t u : TS} (h : PS X e t) (w : ∀ D σ H, u D σ H → t D σ H) : PS X e u := ⟨fun pins s σ H D I q => h.run pins s σ H D I (w D σ H q)⟩
theorem PSs.weak {X : Cx} {e : List Stmt} {t u : TS} (h : PSs X e t) (w : ∀ D σ H, u D σ H → t D σ H) : PSs X e u := ⟨fun pins s σ H D I q => h.run pins s σ H D I (w D σ H q)⟩
theorem PG.weak {X : Cx} {e : Expr} {t u : TG} (h : PG X e t) (w : ∀ v σ H Q, u v σ H Q → t v σ H Q) : PG X e u := ⟨fun pins s σ H v uu Q I r q => h.run pins s σ H v uu Q I r (w v σ H Q q)⟩
theorem PGs.weak {X : Cx} {e : List Expr} {t u : TGs} (h : PGs X e t) (w : ∀ v σ H Q, u v σ H Q → t v σ H Q) : PGs X e u := ⟨fun pins s σ H v uu Q I r q => h.run pins s σ H v uu Q I r (w v σ H Q q)⟩

/-! ### stars, sets -/
theorem star_cons {e : Expr} {es : List Expr} {env : Env} (h : isStar e = false) : starEach (e :: es) env = (false, eval e env) :: starEach es env := by
  cases e <;> first | rfl | cases h
theorem behind_no {op : CmpOp} {b : Expr} (h : isSet b = false) : behindInMarks op b = false := by
  cases b <;> first | rfl | cases h
theorem folded_no {e : Expr} {env : Env} (h : isSet e = false) : ∀ x, foldedSetIterable e env x = pure x := by
  intro x
  cases e <;> first | rfl | cases h
theorem plain_ix {b : Expr} (h : isSlice b = false) : PlainIx b := by
  intro o i
  cases b <;> first | rfl | cases h
theorem plain_true {e : Expr} (h : plainT e = true) {env : Env} : ∀ whole, isTrue e env whole = (do let v ← whole; standAt e.pos; holding [v] (truthy v)) := by
  intro whole
  cases e with
  | UnaryOp op x p => cases op <;> first | rfl | cases h
  | _ => first | rfl | cases h
end Ab

set_option Elab.async false
set_option linter.all false
set_option autoImplicit false
set_option maxRecDepth 10000
/-! AbSrc: what a loop walks, by the layer's walks. -/
namespace Ab
open PySem PySem.Spec PyProof.Rows L2

def SrcOk (K : PySem.W.Frag) (mg : Str → Option Value) (J : It) (m : List Addr) (H : Hp) (st : Sto) (s : Src) : Prop :=
  ∀ m' H' st', Grow m H st m' H' st' → StOk K mg m' H' st' → s.still st' →
    (∀ i, i < s.items.length → J.go i H') ∧ J.stop s.items.length H' ∧
    ∀ i x H'', i < s.items.length → J.yld i H' x H'' → Grow m' H' st' m' H'' st' ∧ StOk K mg m' H'' st' ∧ ∃ d, s.items[i]? = some d ∧ Den K mg m' H'' d x
def LfI (X : Cx) (W : WX) (f : En → Sto → R Src) : TI := fun σ H Q =>
  ∃ m env st, StOk X.K X.mg m H st ∧ EnOk X.K X.mg m H σ env ∧ Res X.K X.mg W σ m H st (f env st) (fun s m' H' st' => ∀ J, SrcOk X.K X.mg J m' H' st' s → Q J H')

section
variable {K : PySem.W.Frag} {mg : Str → Option Value} {m : List Addr} {H : Hp} {st : Sto}
theorem walk_src {J : It} {n : Nat} {G : Hp → Prop} {Y : Nat → Hp → V → Hp → Prop} {s : Src} (hn : n = s.items.length) {H' : Hp} (w : Walk J n G Y) (hG : G H') {P : Nat → V → Hp → Prop} (hY : ∀ i x H'', i < n → Y i H' x H'' → P i x H'') :
    (∀ i, i < s.items.length → J.go i H') ∧ J.stop s.items.length H' ∧ ∀ i x H'', i < s.items.length → J.yld i H' x H'' → P i x H'' := by
  subst hn
  exact ⟨fun i hi => w.goes i H' hi hG, w.stops H' hG, fun i x H'' hi y => hY i x H'' hi (w.yields i H' x H'' hi hG y)⟩
theorem src_tup (S : StOk K mg m H st) {ds : List D} {a : Addr} {vs : List V} (ha : SqT K H a vs) (hd : Dens K mg m H ds vs) : SrcOk K mg (Itt K a) m H st ⟨ds, []⟩ := by
  intro m' H' st' g S' _
  have hd' := Dens.grow S g hd
  refine walk_src (hd.length.symm) walk_tup (SqT.grow S g ha) fun i x H'' hi y => ?_
  obtain ⟨rfl, hx⟩ := y
  refine ⟨Grow.refl, S', ?_⟩
  have hi' : i < ds.length := by rw [hd.length]; exact hi
  obtain ⟨u, h1, h2⟩ := hd'.get (List.getElem?_eq_getElem hi')
  rw [hx] at h1
  cases h1
  exact ⟨_, List.getElem?_eq_getElem hi', h2⟩
theorem src_lst (S : StOk K mg m H st) {l : Nat} {ds : List D} {a : Addr} (hm : m[l]? = some a) : SrcOk K mg (Itl K a) m H st ⟨ds, [(l, ds)]⟩ := by
  intro m' H' st' g S' hs
  obtain ⟨f, hl⟩ := hs (l, ds) (by simp)
  obtain ⟨a', vs, e1, e2, ha, hd, _⟩ := den_lst (v := .ref a) S' ⟨a, g.ext _ _ hm, rfl⟩ hl
  cases e1
  refine walk_src (hd.length.symm) walk_list ha fun i x H'' hi y => ?_
  obtain ⟨rfl, hx⟩ := y
  refine ⟨Grow.refl, S', ?_⟩
  have hi' : i < ds.length := by rw [hd.length]; exact hi
  obtain ⟨u, h1, h2⟩ := hd.get (List.getElem?_eq_getElem hi')
  rw [hx] at h1
  cases h1
  exact ⟨_, List.getElem?_eq_getElem hi', h2⟩
theorem src_str (S : StOk K mg m H st) {x : Str} (hx : sOk x = true) : SrcOk K mg (Its x) m H st ⟨x.cps.toList.map fun c => D.str ⟨#[c]⟩, []⟩ := by
  intro m' H' st' g S' _
  refine walk_src (by simp) walk_str trivial fun i v H'' hi y => ?_
  obtain ⟨rfl, c, hc, rfl⟩ := y
  refine ⟨Grow.refl, S', .str ⟨#[c]⟩, by simp [hc], rfl, sOk_one hx ?_⟩
  rw [← Array.getElem?_toList] at hc
  exact List.mem_of_getElem? hc
theorem src_rng {lo : Int} {n : Nat} (S : StOk K mg m H st) : SrcOk K mg (L2.Itr lo n) m H st ⟨rangeL lo n, []⟩ := by
  intro m' H' st' g S' _
  refine walk_src (by simp [rangeL]) walk_range trivial fun i v H'' hi y => ?_
  obtain ⟨rfl, rfl⟩ := y
  exact ⟨Grow.refl, S', .int (lo + (i : Int)), by simp [rangeL, hi], rfl⟩
theorem enumL_get : ∀ (ds : List D) (k i : Nat), (enumL k ds)[i]? = (ds[i]?).map fun d => D.tup [.int ((k + i : Nat) : Int), d]
  | [], _, _ => by simp [enumL]
  | d :: ds, k, 0 => by simp [enumL]
  | d :: ds, k, i + 1 => by
    unfold enumL
    rw [List.getElem?_cons_succ, enumL_get ds (k + 1) i, List.getElem?_cons_succ]
    simp only [show k + 1 + i = k + (i + 1) by omega]
theorem enumL_len : ∀ (ds : List D) (k : Nat), (enumL k ds).length = ds.length
  | [], _ => rfl
  | d :: ds, k => by simp [enumL, enumL_len ds (k + 1)]
theorem zipL_get : ∀ (xs ys : List D) (i : Nat) (x y : D), xs[i]? = some x → ys[i]? = some y → (zipL xs ys)[i]? = some (.tup [x, y])
  | [], _, _, _, _, h, _ => by simp at h
  | _ :: _, [], _, _, _, _, h => by simp at h
  | a :: xs, b :: ys, 0, x, y, h1, h2 => by
    simp at h1 h2
    subst h1 h2
    rfl
  | a :: xs, b :: ys, i + 1, x, y, h1, h2 => by
    unfold zipL
    rw [List.getElem?_cons_succ]
    exact zipL_get xs ys i x y (by simpa using h1) (by simpa using h2)
theorem zipL_len : ∀ (xs ys : List D), (zipL xs ys).length = min xs.length ys.length
  | [], _ => by simp [zipL]
  | _ :: _, [] => by simp [zipL]
  | a :: xs, b :: ys => by
    simp only [zipL, List.length_cons, zipL_len xs ys]
    omega
/-- a new pair -/
theorem new_pair (S : StOk K mg m H st) {d e : D} {x y : V} (hd : Den K mg m H d x) (he : Den K mg m H e y) {T : Addr} (hT : H T = none) :
    Grow m H st m (upd H T (.tup [x, y])) st ∧ StOk K mg m (upd H T (.tup [x, y])) st ∧ Den K mg m (upd H T (.tup [x, y])) (.tup [d, e]) (.ref T) := by
  have g : Grow m H st m (upd H T (.tup [x, y])) st := Grow.lay S hT
  exact ⟨g, S.poke (.inl hT) (S.noTrkNone hT), T, [x, y], rfl, SqT.of upd_same, x, [y], rfl, Den.grow S g hd, y, [], rfl, Den.grow S g he, rfl⟩
theorem src_enumT (S : StOk K mg m H st) {ds : List D} {a : Addr} {vs : List V} (ha : SqT K H a vs) (hd : Dens K mg m H ds vs) : SrcOk K mg (IteT K a) m H st ⟨enumL 0 ds, []⟩ := by
  intro m' H' st' g S' _
  have hd' := Dens.grow S g hd
  refine walk_src (by rw [enumL_len, hd.length]) walk_enumT (SqT.grow S g ha) fun i x H'' hi y => ?_
  obtain ⟨T, x1, x2, rfl, hT, rfl, h1, h2⟩ := y
  cases h1
  have hi' : i < ds.length := by rw [hd.length]; exact hi
  obtain ⟨u, h3, h4⟩ := hd'.get (List.getElem?_eq_getElem hi')
  have h2 : vs[i]? = some x2 := h2
  rw [h2] at h3
  cases h3
  obtain ⟨q1, q2, q3⟩ := new_pair S' (d := .int (i : Int)) (x := .int (i : Int)) rfl h4 hT
  refine ⟨q1, q2, _, ?_, q3⟩
  rw [enumL_get, List.getElem?_eq_getElem hi']
  simp
theorem src_enumL (S : StOk K mg m H st) {l : Nat} {ds : List D} {a : Addr} (hm : m[l]? = some a) : SrcOk K mg (Ite K a) m H st ⟨enumL 0 ds, [(l, ds)]⟩ := by
  intro m' H' st' g S' hs
  obtain ⟨f, hl⟩ := hs (l, ds) (by simp)
  obtain ⟨a', vs, e1, e2, ha, hd, _⟩ := den_lst (v := .ref a) S' ⟨a, g.ext _ _ hm, rfl⟩ hl
  cases e1
  refine walk_src (by rw [enumL_len, hd.length]) walk_enum ha fun i x H'' hi y => ?_
  obtain ⟨T, x1, x2, rfl, hT, rfl, h1, h2⟩ := y
  cases h1
  have hi' : i < ds.length := by rw [hd.length]; exact hi
  obtain ⟨u, h3, h4⟩ := hd.get (List.getElem?_eq_getElem hi')
  have h2 : vs[i]? = some x2 := h2
  rw [h2] at h3
  cases h3
  obtain ⟨q1, q2, q3⟩ := new_pair S' (d := .int (i : Int)) (x := .int (i : Int)) rfl h4 hT
  refine ⟨q1, q2, _, ?_, q3⟩
  rw [enumL_get, List.getElem?_eq_getElem hi']
  simp
theorem walk_zipT {K : PySem.W.Frag} {a b : Addr} {xs ys : List V} {n : Nat} (hn : n = min xs.length ys.length) : Walk (RZ.ItzT K a b) n (fun H => SqT K H a xs ∧ SqT K H b ys) (YPair (fun i => xs[i]?) (fun i => ys[i]?)) := by
  subst hn
  refine ⟨fun i _ hi q => ?_, fun _ q => ⟨xs, ys, q.1, q.2, by omega⟩, fun i H v H' _ q y => ?_⟩
  · have h1 : i < xs.length := by omega
    have h2 : i < ys.length := by omega
    exact ⟨xs, ys, xs[i], ys[i], q.1, q.2, by simp [h1], by simp [h2]⟩
  · obtain ⟨T, x, z, h1, h2, h3, h4, h5⟩ := y
    exact ⟨T, x, z, h1, h2, h3, h4 xs q.1, h5 ys q.2⟩
theorem src_zip_at (S' : StOk K mg m H st) {xs ys : List D} {vs us : List V} (hd : Dens K mg m H xs vs) (he : Dens K mg m H ys us) {i : Nat} (hi : i < min vs.length us.length) {x : V} {H'' : Hp}
    (y : YPair (fun i => vs[i]?) (fun i => us[i]?) i H x H'') : Grow m H st m H'' st ∧ StOk K mg m H'' st ∧ ∃ d, (zipL xs ys)[i]? = some d ∧ Den K mg m H'' d x := by
  obtain ⟨T, x1, x2, rfl, hT, rfl, h1, h2⟩ := y
  have l1 := hd.length
  have l2 := he.length
  have hi1 : i < xs.length := by omega
  have hi2 : i < ys.length := by omega
  obtain ⟨u, h3, h4⟩ := hd.get (List.getElem?_eq_getElem hi1)
  obtain ⟨w, h5, h6⟩ := he.get (List.getElem?_eq_getElem hi2)
  have h1 : vs[i]? = some x1 := h1
  have h2 : us[i]? = some x2 := h2
  rw [h1] at h3
  cases h3
  rw [h2] at h5
  cases h5
  obtain ⟨q1, q2, q3⟩ := new_pair S' h4 h6 hT
  exact ⟨q1, q2, _, zipL_get xs ys i _ _ (List.getElem?_eq_getElem hi1) (List.getElem?_eq_getElem hi2), q3⟩
theorem src_zipT (S : StOk K mg m H st) {xs ys : List D} {a b : Addr} {vs us : List V} (ha : SqT K H a vs) (hd : Dens K mg m H xs vs) (hb : SqT K H b us) (he : Dens K mg m H ys us) : SrcOk K mg (RZ.ItzT K a b) m H st ⟨zipL xs ys, []⟩ := by
  intro m' H' st' g S' _
  have hd' := Dens.grow S g hd
  have he' := Dens.grow S g he
  exact walk_src (n := min vs.length us.length) (by rw [zipL_len, hd.length, he.length]) (walk_zipT rfl) ⟨SqT.grow S g ha, SqT.grow S g hb⟩ fun i x H'' hi y => src_zip_at S' hd' he' hi y
theorem src_zipL (S : StOk K mg m H st) {l k : Nat} {xs ys : List D} {a b : Addr} (hm : m[l]? = some a) (hk : m[k]? = some b) : SrcOk K mg (Itz K a b) m H st ⟨zipL xs ys, [(l, xs), (k, ys)]⟩ := by
  intro m' H' st' g S' hs
  obtain ⟨f, hl⟩ := hs (l, xs) (by simp)
  obtain ⟨f', hl'⟩ := hs (k, ys) (by simp)
  obtain ⟨a', vs, e1, e2, ha, hd, _⟩ := den_lst (v := .ref a) S' ⟨a, g.ext _ _ hm, rfl⟩ hl
  cases e1
  obtain ⟨b', us, e3, e4, hb, he, _⟩ := den_lst (v := .ref b) S' ⟨b, g.ext _ _ hk, rfl⟩ hl'
  cases e3
  exact walk_src (n := min vs.length us.length) (by rw [zipL_len, hd.length, he.length]) (walk_zip rfl) ⟨ha, hb⟩ fun i x H'' hi y => src_zip_at S' hd he hi y
end

section
variable {X : Cx} {W : WX} {tg iter : Expr} {f g : En → Sto → R D}
theorem Res.pureI {σ : L2.St} {m : List Addr} {H : Hp} {st : Sto} {α : Type} {K : PySem.W.Frag} {mg : Str → Option Value} {a : α} {Q : α → List Addr → Hp → Sto → Prop} (S : StOk K mg m H st) (h : Res K mg W σ m H st (.ok a st) Q) : Q a m H st := h m H Grow.refl S
/-- what stands at e is walked -/
theorem pi_seq (h : PE X iter (LfE X W f)) : PI X tg iter (LfI X W fun env st => (f env st).bind fun d st1 => srcSeq d st1) := by
  refine PI.weak (PI.or (pi_list h) (PI.or (pi_tup h) (pi_str h))) ?_
  rintro σ H R ⟨m, env, st, S, E, hr⟩
  have hr : Res X.K X.mg W σ m H st ((f env st).bind fun d st1 => srcSeq d st1) _ := hr
  cases q : f env st with
  | bad =>
    rw [q] at hr
    exact hr.elim
  | ex x st1 =>
    refine .inl ⟨m, env, st, S, E, ?_⟩
    rw [q] at hr ⊢
    exact hr
  | ok d st1 =>
    rw [q] at hr
    have hr : Res X.K X.mg W σ m H st (srcSeq d st1) _ := hr
    have key : ∀ {Q : V → Hp → Prop}, (∀ m1 H1 v, Grow m H st m1 H1 st1 → StOk X.K X.mg m1 H1 st1 → Den X.K X.mg m1 H1 d v → Q v H1) → LfE X W f σ H Q := fun {Q} hq => by
      refine ⟨m, env, st, S, E, ?_⟩
      rw [q]
      exact fun m1 H1 g1 S1 v hv => hq m1 H1 v g1 S1 hv
    unfold srcSeq at hr
    split at hr
    · refine .inr (.inl (key fun m1 H1 v g1 S1 hv => ?_))
      obtain ⟨a, vs, rfl, ha, hd⟩ := den_tup hv
      exact ⟨a, rfl, ⟨vs, ha⟩, hr m1 H1 g1 S1 _ (src_tup S1 ha hd)⟩
    · split at hr
      · rename_i hl
        refine .inl (key fun m1 H1 v g1 S1 hv => ?_)
        obtain ⟨a, vs, rfl, hm, ha, hd, _⟩ := den_lst S1 hv hl
        exact ⟨a, rfl, ⟨vs, ha⟩, hr m1 H1 g1 S1 _ (src_lst S1 hm)⟩
      · exact hr.elim
    · refine .inr (.inr (key fun m1 H1 v g1 S1 hv => ?_))
      obtain ⟨rfl, hx⟩ := hv
      exact ⟨_, rfl, hr m1 H1 g1 S1 _ (src_str S1 hx)⟩
    · exact hr.elim
theorem pa1 {e : Expr} (hs : isStar e = false) (h : PE X e (LfE X W f)) : PA X [e] (tCons (LfE X W f) tNil) := pa_cons h pa_nil (star_cons hs)
theorem pa2 {e e' : Expr} (hs : isStar e = false) (hs' : isStar e' = false) (h : PE X e (LfE X W f)) (h' : PE X e' (LfE X W g)) : PA X [e, e'] (tCons (LfE X W f) (tCons (LfE X W g) tNil)) := pa_cons h (pa1 hs' h') (star_cons hs)
theorem pi_rng1 {e : Expr} {p pos : Pos} (hg : Gl X "range") (hm : X.mg "range" = none) (hs : isStar e = false) (h : PE X e (LfE X W f)) : PI X tg (.Call (.Name "range" p) [e] [] pos) (LfI X W fun env st => (f env st).bind fun d st1 => srcRng (.int 0) d st1) := by
  refine PI.weak (pi_range1 hg hm (pa1 hs h) (by rw [star_cons hs]; rfl)) ?_
  rintro σ H R ⟨m, env, st, S, E, hr⟩
  refine Lf.of S E hr fun d m1 H1 st1 v g1 S1 E1 hv hr => ?_
  cases d with
  | int j =>
    cases hv
    unfold srcRng at hr
    simp only at hr
    split at hr
    · rename_i hz
      refine ⟨j, rfl, hz.2.2.1, hz.2.2.2, ?_⟩
      have := Res.pureI S1 hr _ (src_rng S1)
      simpa using this
    · exact hr.elim
  | _ => unfold srcRng at hr; exact hr.elim
theorem pi_rng2 {e e' : Expr} {p pos : Pos} (hg : Gl X "range") (hm : X.mg "range" = none) (hs : isStar e = false) (hs' : isStar e' = false) (h : PE X e (LfE X W f)) (h' : PE X e' (LfE X W g)) :
    PI X tg (.Call (.Name "range" p) [e, e'] [] pos) (LfI X W fun env st => (f env st).bind fun d st1 => (g env st1).bind fun d' st2 => srcRng d d' st2) := by
  refine PI.weak (pi_range2 hg hm (pa2 hs hs' h h') (by rw [star_cons hs, star_cons hs']; rfl) (by rw [star_cons hs']; rfl)) ?_
  rintro σ H R ⟨m, env, st, S, E, hr⟩
  refine Lf.of S E hr fun d m1 H1 st1 v g1 S1 E1 hv hr => ?_
  refine Lf.of S1 E1 hr fun d' m2 H2 st2 v' g2 S2 E2 hv' hr => ?_
  cases d with
  | int i =>
    cases hv
    cases d' with
    | int j =>
      cases hv'
      unfold srcRng at hr
      simp only at hr
      split at hr
      · rename_i hz
        exact ⟨i, j, rfl, hz, Res.pureI S2 hr _ (src_rng S2)⟩
      · exact hr.elim
    | _ => unfold srcRng at hr; exact hr.elim
  | _ => unfold srcRng at hr; exact hr.elim
theorem pi_enm {elts : List Expr} {kk : Nat} {tpos : Pos} {e : Expr} {p pos : Pos} (hg : Gl X "enumerate") (hm : X.mg "enumerate" = none) (hs : isStar e = false) (h : PE X e (LfE X W f)) :
    PI X (.Tuple elts kk tpos) (.Call (.Name "enumerate" p) [e] [] pos) (LfI X W fun env st => (f env st).bind fun d st1 => srcEnum d st1) := by
  have hss : starEach [e] X.env = [(false, eval e X.env)] := by rw [star_cons hs]; rfl
  refine PI.weak (PI.or (pi_enum hg hm (pa1 hs h) hss) (pi_enumT hg hm (pa1 hs h) hss)) ?_
  rintro σ H R ⟨m, env, st, S, E, hr⟩
  have hr : Res X.K X.mg W σ m H st ((f env st).bind fun d st1 => srcEnum d st1) _ := hr
  cases q : f env st with
  | bad =>
    rw [q] at hr
    exact hr.elim
  | ex x st1 =>
    refine .inl ⟨m, env, st, S, E, ?_⟩
    rw [q] at hr ⊢
    exact hr
  | ok d st1 =>
    rw [q] at hr
    have hr : Res X.K X.mg W σ m H st (srcEnum d st1) _ := hr
    have key : ∀ {Q : V → Hp → Prop}, (∀ m1 H1 v, Grow m H st m1 H1 st1 → StOk X.K X.mg m1 H1 st1 → Den X.K X.mg m1 H1 d v → Q v H1) → LfE X W f σ H Q := fun {Q} hq => by
      refine ⟨m, env, st, S, E, ?_⟩
      rw [q]
      exact fun m1 H1 g1 S1 v hv => hq m1 H1 v g1 S1 hv
    unfold srcEnum at hr
    split at hr
    · refine .inr (key fun m1 H1 v g1 S1 hv => ?_)
      obtain ⟨a, vs, rfl, ha, hd⟩ := den_tup hv
      exact ⟨a, vs, rfl, ha, hr m1 H1 g1 S1 _ (src_enumT S1 ha hd)⟩
    · split at hr
      · rename_i hl
        refine .inl (key fun m1 H1 v g1 S1 hv => ?_)
        obtain ⟨a, vs, rfl, hm, ha, hd, _⟩ := den_lst S1 hv hl
        exact ⟨a, vs, rfl, ha, hr m1 H1 g1 S1 _ (src_enumL S1 hm)⟩
      · exact hr.elim
    · exact hr.elim
theorem pi_zp {elts : List Expr} {kk : Nat} {tpos : Pos} {e e' : Expr} {p pos : Pos} (hg : Gl X "zip") (hm : X.mg "zip" = none) (hs : isStar e = false) (hs' : isStar e' = false) (h : PE X e (LfE X W f)) (h' : PE X e' (LfE X W g)) :
    PI X (.Tuple elts kk tpos) (.Call (.Name "zip" p) [e, e'] [] pos) (LfI X W fun env st => (f env st).bind fun d st1 => (g env st1).bind fun d' st2 => srcZip d d' st2) := by
  refine PI.weak (RZ.pi_zipA hg hm (pa2 hs hs' h h') (by rw [star_cons hs]) (by rw [star_cons hs']; rfl)) ?_
  rintro σ H R ⟨m, env, st, S, E, hr⟩
  refine Lf.of S E hr fun d m1 H1 st1 v g1 S1 E1 hv hr => ?_
  refine Lf.of S1 E1 hr fun d' m2 H2 st2 v' g2 S2 E2 hv' hr => ?_
  have hv := Den.grow S1 g2 hv
  unfold srcZip at hr
  split at hr
  · obtain ⟨a, vs, rfl, ha, hd⟩ := den_tup hv
    obtain ⟨b, us, rfl, hb, he⟩ := den_tup hv'
    exact ⟨a, b, vs, us, rfl, .inr ⟨ha, hb, Res.pureI S2 hr _ (src_zipT S2 ha hd hb he)⟩⟩
  · split at hr
    · rename_i h1 h2
      obtain ⟨a, vs, rfl, hm, ha, hd, _⟩ := den_lst S2 hv h1
      obtain ⟨b, us, rfl, hk, hb, he, _⟩ := den_lst S2 hv' h2
      exact ⟨a, b, vs, us, rfl, .inl ⟨ha, hb, Res.pureI S2 hr _ (src_zipL S2 hm hk)⟩⟩
    · exact hr.elim
  · exact hr.elim
end
end Ab

set_option Elab.async false
set_option linter.all false
set_option autoImplicit false
set_option maxRecDepth 10000
/-! AbExpr: expressions do what the small language says. -/
namespace Ab
open PySem PySem.Spec PyProof.Rows L2

/-- a def's promise by what is reckoned -/
def spOf (K : PySem.W.Frag) (mg : Str → Option Value) (n : Nat) (F : List D → Sto → R D) : Sp := fun vs H Q E => ∃ m st ds, StOk K mg m H st ∧ Dens K mg m H ds vs ∧ ds.length = n ∧ match F ds st with
  | .ok d st' => ∀ m' H' v, Grow m H st m' H' st' → StOk K mg m' H' st' → Den K mg m' H' d v → Q v H'
  | .ex x st' => ∀ m' H' cls d, Grow m H st m' H' st' → StOk K mg m' H' st' → XR K mg m' H' x cls d → E cls d H'
  | .bad => False
/-- built-in names that the text may not give anew -/
def bltNames : List Str := ["len", "all", "any", "sum", "tuple", "list", "int", "abs", "divmod", "min", "max", "bool", "str", "dict", "isinstance", "range", "enumerate", "zip"]

/-- how a call with n positional values and the keywords ks binds -/
def KwB (K : PySem.W.Frag) (fd : FuncData) (ps : List Str) (n : Nat) (ks : List Str) : Prop :=
  ∀ (s : Shared) (us ws as : List Value), K.In s.heap → us.length = n → ws.length = ks.length → optAll (fun p => (ks.zip ws).lookup p) (ps.drop n) = some as → BindsTo s fd ⟨us, ks.zip ws⟩ (ps.zip (us ++ as))
structure Facts (P : Program) (w : World) (K : PySem.W.Frag) (mg : Str → Option Value) (base : Heap) (T : Tab) (G : Gb) (KW : Tx) (k : Nat) : Prop where
  fn : ∀ x F, T x = some F → ∃ f fd, mg x = some (.ref f) ∧ PySem.W.keepIn K (.ref f) = true ∧ Binds K fd F.ps [] ∧ FnOk P w K mg base (L2.CX P w) k f fd F.ps (spOf K mg F.ps.length (callF T G k x)) ∧ ∀ n ks, (x, n, ks) ∈ KW.kw → KwB K fd F.ps n ks
  fs : ∀ x ∈ KW.fs, ∃ F, T x = some F
  blt : ∀ x ∈ bltNames, mg x = none
  glb : ∀ x d, G x = some d → ∃ u v, mg x = some u ∧ RelV v u ∧ ∀ m H, Den K mg m H d v

structure Good (T : Tab) (G : Gb) (KW : Tx) (k : Nat) (X : Cx) (sc raw : Scope) (W : WX) : Prop where
  scope : X.env.scope = sc
  nd : X.N.Nodup
  calm : X.calm = true
  room : Room k X.A
  tk : Takes X W
  facts : Facts X.prog X.w X.K X.mg X.base T G KW k
  fnc : ∀ x, raw.names.lookup x = some .cell → X.fn x = true

section
variable {T : Tab} {G : Gb} {KW : Tx} {k : Nat} {X : Cx} {sc raw : Scope} {W : WX}
theorem Good.hu (g : Good T G KW k X sc raw W) : X.A.units + 64 < cLine := g.room.units
theorem Good.vis (g : Good T G KW k X sc raw W) {x : Str} (h : visB sc x = true) : Vis X.env.scope x := by
  rw [g.scope]
  unfold visB at h
  split at h
  · exact .inl (by assumption)
  · exact .inr (.inl (by assumption))
  · exact .inr (.inr (by assumption))
  · cases h
theorem Good.gl (g : Good T G KW k X sc raw W) {x : Str} (h : glbB sc x = true) : Gl X x ∧ (x == ("__debug__" : Str)) = false ∧ x ≠ "__name__" := by
  unfold glbB at h
  split at h
  · simp only [Bool.and_eq_true, Bool.not_eq_true', decide_eq_true_eq] at h
    refine ⟨?_, h.1, h.2⟩
    show X.env.scope.names.lookup x = _
    rw [g.scope]
    assumption
  · cases h
theorem Good.sto (g : Good T G KW k X sc raw W) {x : Str} (h : stoB sc raw x = true) : Loc X.env.scope x ∧ (X.fn x = true ∨ X.env.scope.names.lookup x = some .local) := by
  rw [g.scope]
  unfold stoB at h
  split at h
  · exact ⟨.inl (by assumption), .inr (by assumption)⟩
  · split at h
    · exact ⟨.inr (by assumption), .inl (g.fnc _ (by assumption))⟩
    · cases h
  · cases h
theorem Good.bltn (g : Good T G KW k X sc raw W) {x : Str} (h : x ∈ bltNames) : X.mg x = none := g.facts.blt x h

/-! ### leaves -/
theorem q_var (g : Good T G KW k X sc raw W) {i : Nat} {x : Str} {pos : Pos} (hN : X.N[i]? = some x) (hv : visB sc x = true) (hd : dunder x = false) : PE X (.Name x pos) (LfE X W (evE T G (callF T G k) (.var i))) := by
  unfold dunder at hd
  simp only [Bool.or_eq_false_iff] at hd
  refine PE.weak (pe_var hN (g.vis hv) hd.1 hd.2) ?_
  rintro σ H Q ⟨m, env, st, S, E, h⟩
  simp only [evE] at h
  split at h
  · rename_i d hd
    obtain ⟨v, h1, h2⟩ := E.2 i d hd
    exact ⟨v, h1, Res.pure S h v h2⟩
  · exact h.elim
theorem q_lit {l : Lit} {e : Expr} {F : Str → List D → Sto → R D} {N : List Str} (hc : chkE N KW sc raw (.lit l) e = true) : PE X e (LfE X W (evE T G F (.lit l))) := by
  unfold chkE at hc
  split at hc
  · refine PE.weak pe_non ?_
    rintro σ H Q ⟨m, env, st, S, E, h⟩
    exact Res.pure S h .non rfl
  · refine PE.weak pe_bl ?_
    rintro σ H Q ⟨m, env, st, S, E, h⟩
    cases (beq_iff_eq.mp hc)
    exact Res.pure S h (.bl _) rfl
  · refine PE.weak pe_int ?_
    rintro σ H Q ⟨m, env, st, S, E, h⟩
    cases (of_decide_eq_true hc)
    exact Res.pure S h (.int _) rfl
  · simp only [Bool.and_eq_true, decide_eq_true_eq] at hc
    obtain ⟨rfl, hx⟩ := hc
    refine PE.weak pe_str ?_
    rintro σ H Q ⟨m, env, st, S, E, h⟩
    exact Res.pure S h (.str _) ⟨rfl, hx⟩
  · cases hc
theorem q_glob (g : Good T G KW k X sc raw W) {x : Str} {pos : Pos} (hg : glbB sc x = true) : PE X (.Name x pos) (LfE X W (evE T G (callF T G k) (.glob x))) := by
  obtain ⟨h1, h2, h3⟩ := g.gl hg
  refine ⟨fun pins s σ H Q I h => ?_⟩
  obtain ⟨m, env, st, S, E, h⟩ := h
  simp only [evE] at h
  cases q : G x with
  | none =>
    rw [q] at h
    exact h.elim
  | some d =>
    rw [q] at h
    obtain ⟨u, v, e1, e2, e3⟩ := g.facts.glb x d q
    exact (pe_glob (v := v) h1 e1 e2 h2).run pins s σ H Q I (Res.pure S h v (e3 m H))

/-! ### operations -/
section
variable {a b c : Expr} {f f' f'' : En → Sto → R D} {pos : Pos}
theorem q_bin {op : Operator} (ho : powOk op = true) (ha : PE X a (LfE X W f)) (hb : PE X b (LfE X W f')) : PE X (.BinOp a op b pos) (LfE X W fun env st => (f env st).bind fun d st1 => (f' env st1).bind fun e st2 => binD op d e st2) := by
  refine PE.weak (pe_op (or_bin ho) ha hb) ?_
  rintro σ H Q ⟨m, env, st, S, E, h⟩
  refine Lf.of S E h fun d m1 H1 st1 x g1 S1 E1 hx h => Lf.of S1 E1 h fun e m2 H2 st2 y g2 S2 E2 hy h => ?_
  exact ⟨m2, st2, d, e, S2, Den.grow S1 g2 hx, hy, Res.ends h plain_bin⟩
theorem q_neg (ha : PE X a (LfE X W f)) : PE X (.UnaryOp .USub a pos) (LfE X W fun env st => (f env st).bind fun d st1 => match d with
    | .int i => .ok (.int (-i)) st1
    | _ => .bad) := by
  refine PE.weak (pe_un un_negD ha) ?_
  rintro σ H Q ⟨m, env, st, S, E, h⟩
  refine Lf.of S E h fun d m1 H1 st1 x g1 S1 E1 hx h => ?_
  exact ⟨m1, st1, d, S1, hx, Res.ends h (by cases d <;> trivial)⟩
theorem q_cmp (hu : X.A.units + 64 < cLine) {op : CmpOp} (hs : isSet b = false) (ha : PE X a (LfE X W f)) (hb : PE X b (LfE X W f')) : PE X (.Compare a [op] [b] pos) (LfE X W fun env st => (f env st).bind fun d st1 => (f' env st1).bind fun e st2 => ofOpt ((cmpD op d e st2).map D.bl) st2) := by
  refine PE.weak (pe_cmpR (or_cmp hu op) ha hb (behind_no hs)) ?_
  rintro σ H Q ⟨m, env, st, S, E, h⟩
  refine Lf.of S E h fun d m1 H1 st1 x g1 S1 E1 hx h => Lf.of S1 E1 h fun e m2 H2 st2 y g2 S2 E2 hy h => ?_
  exact ⟨m2, st2, d, e, S2, Den.grow S1 g2 hx, hy, Res.ends h plain_ofOpt⟩
/-- a bool, by its value -/
theorem asBool_ok {K : PySem.W.Frag} {mg : Str → Option Value} {σ : L2.St} {m : List Addr} {H : Hp} {st : Sto} {d : D} {v : V} {Q : Bool → List Addr → Hp → Sto → Prop} (S : StOk K mg m H st) (hv : Den K mg m H d v) (h : Res K mg W σ m H st (asBool d st) Q) : ∃ k, v = .bl k ∧ d = .bl k ∧ Q k m H st := by
  cases d with
  | bl b => cases hv; exact ⟨b, rfl, rfl, Res.pure S h⟩
  | _ => exact h.elim
/-- a test by what stands there -/
abbrev tst (f : En → Sto → R D) : En → Sto → R Bool := fun env st => (f env st).bind fun d st1 => asBool d st1
theorem qt_val (he : ∀ whole, isTrue a X.env whole = (do let v ← whole; standAt a.pos; holding [v] (truthy v))) (ha : PE X a (LfE X W f)) : PT X a (LfT X W (tst f)) := by
  refine PT.weak (pt_val ha he) ?_
  rintro σ H Q ⟨m, env, st, S, E, h⟩
  refine Lf.of S E h fun d m1 H1 st1 x g1 S1 E1 hx h => ?_
  obtain ⟨k, rfl, rfl, q2⟩ := asBool_ok S1 hx h
  exact ⟨k, rfl, q2 k rfl⟩
theorem qt_cmp (hu : X.A.units + 64 < cLine) {op : CmpOp} (hs : isSet b = false) (ha : PE X a (LfE X W f)) (hb : PE X b (LfE X W f')) : PT X (.Compare a [op] [b] pos) (LfT X W (tst fun env st => (f env st).bind fun d st1 => (f' env st1).bind fun e st2 => ofOpt ((cmpD op d e st2).map D.bl) st2)) := by
  refine PT.weak (pt_cmpR (or_cmp hu op) ha hb (behind_no hs)) ?_
  rintro σ H Q ⟨m, env, st, S, E, h⟩
  have h := h.bind
  refine Lf.of S E h fun d m1 H1 st1 x g1 S1 E1 hx h => Lf.of S1 E1 h fun e m2 H2 st2 y g2 S2 E2 hy h => ?_
  refine ⟨m2, st2, d, e, S2, Den.grow S1 g2 hx, hy, ?_⟩
  refine Res.ends (h.imp fun d' m3 H3 st3 g3 S3 q v hv => ?_) plain_ofOpt
  obtain ⟨kk, rfl, rfl, q2⟩ := asBool_ok S3 hv q
  exact ⟨kk, rfl, q2 kk rfl⟩
/-- what a chain's second link asks -/
theorem chain_in {K : PySem.W.Frag} {mg : Str → Option Value} {σ : L2.St} {m : List Addr} {H : Hp} {st : Sto} {α : Type} {o : CmpOp} {d e : D} {kk : Bool → Sto → R α} {P : V → Hp → Prop} {Q : α → List Addr → Hp → Sto → Prop} (S : StOk K mg m H st) (h : Res K mg W σ m H st ((ofOpt (cmpD o d e st) st).bind kk) Q)
    (nx : ∀ b m' H', Grow m H st m' H' st → StOk K mg m' H' st → Res K mg W σ m' H' st (kk b st) Q → P (.bl b) H') : Ends1 K mg m H st (cmpE o d e st) P := by
  unfold cmpE
  cases q : cmpD o d e st with
  | none =>
    rw [q] at h
    exact h.elim
  | some b =>
    rw [q] at h
    have h := h.bind
    refine ⟨.bl b, st, rfl, fun m' H' v g' S' hv => ?_⟩
    cases hv
    exact nx b m' H' g' S' (h m' H' g' S')
abbrev chn (o1 o2 : CmpOp) (f f' f'' : En → Sto → R D) : En → Sto → R D := fun env st => (f env st).bind fun d st1 => (f' env st1).bind fun e st2 => (ofOpt (cmpD o1 d e st2) st2).bind fun k st3 =>
      if k = true then (f'' env st3).bind fun h st4 => ofOpt ((cmpD o2 e h st4).map D.bl) st4 else .ok (.bl false) st3
theorem last_no {o1 o2 : CmpOp} {x y : Expr} (h : isSet y = false) : lastMarks [o1, o2] [x, y] = false := behind_no (op := o2) h
theorem q_chain (hu : X.A.units + 64 < cLine) {o1 o2 : CmpOp} (hs : isSet c = false) (ha : PE X a (LfE X W f)) (hb : PE X b (LfE X W f')) (hc : PE X c (LfE X W f'')) : PE X (.Compare a [o1, o2] [b, c] pos) (LfE X W (chn o1 o2 f f' f'')) := by
  refine PE.weak (pe_chain (or_cmp hu o1) (or_cmp hu o2) ha hb hc (last_no hs)) ?_
  rintro σ H Q ⟨m, env, st, S, E, h⟩
  refine Lf.of S E h fun d m1 H1 st1 x g1 S1 E1 hx h => Lf.of S1 E1 h fun e m2 H2 st2 y g2 S2 E2 hy h => ?_
  refine ⟨m2, st2, d, e, S2, Den.grow S1 g2 hx, hy, chain_in S2 h fun b m3 H3 g3 S3 h => ⟨b, rfl, ?_⟩⟩
  cases b with
  | false => exact Res.pure S3 h _ rfl
  | true =>
    refine Lf.of S3 (E2.grow S2 g3) h fun z m4 H4 st4 u g4 S4 E4 hz h => ?_
    exact ⟨m4, st4, e, z, S4, Den.grow S3 g4 (Den.grow S2 g3 hy), hz, Res.ends h plain_ofOpt⟩
theorem qt_chain (hu : X.A.units + 64 < cLine) {o1 o2 : CmpOp} (hs : isSet c = false) (ha : PE X a (LfE X W f)) (hb : PE X b (LfE X W f')) (hc : PE X c (LfE X W f'')) : PT X (.Compare a [o1, o2] [b, c] pos) (LfT X W (tst (chn o1 o2 f f' f''))) := by
  refine PT.weak (pt_chain (or_cmp hu o1) (or_cmp hu o2) ha hb hc (last_no hs)) ?_
  rintro σ H Q ⟨m, env, st, S, E, h⟩
  have h := h.bind
  refine Lf.of S E h fun d m1 H1 st1 x g1 S1 E1 hx h => Lf.of S1 E1 h fun e m2 H2 st2 y g2 S2 E2 hy h => ?_
  refine ⟨m2, st2, d, e, S2, Den.grow S1 g2 hx, hy, chain_in S2 h fun b m3 H3 g3 S3 h => ⟨b, rfl, ?_⟩⟩
  cases b with
  | false =>
    obtain ⟨kk, e1, e2, q2⟩ := asBool_ok (d := .bl false) (v := .bl false) S3 (show Den X.K X.mg m3 H3 (.bl false) (.bl false) from rfl) (Res.pure S3 h)
    cases e2
    exact ⟨false, rfl, q2 _ rfl⟩
  | true =>
    refine Lf.of S3 (E2.grow S2 g3) h fun z m4 H4 st4 u g4 S4 E4 hz h => ?_
    refine ⟨m4, st4, e, z, S4, Den.grow S3 g4 (Den.grow S2 g3 hy), hz, ?_⟩
    refine Res.ends (h.imp fun d' m5 H5 st5 g5 S5 q v hv => ?_) plain_ofOpt
    obtain ⟨kk, rfl, rfl, q2⟩ := asBool_ok S5 hv q
    exact ⟨kk, rfl, q2 kk rfl⟩

/-! ### and, or, not, if -/
abbrev andE (f f' : En → Sto → R D) : En → Sto → R D := fun env st => (f env st).bind fun d st1 => (asBool d st1).bind fun k st2 => if k = true then f' env st2 else .ok (.bl false) st2
abbrev orE (f f' : En → Sto → R D) : En → Sto → R D := fun env st => (f env st).bind fun d st1 => (asBool d st1).bind fun k st2 => if k = true then .ok (.bl true) st2 else f' env st2
abbrev notE (f : En → Sto → R D) : En → Sto → R D := fun env st => (f env st).bind fun d st1 => (asBool d st1).bind fun k st2 => .ok (.bl (!k)) st2
abbrev ifeE (c f f' : En → Sto → R D) : En → Sto → R D := fun env st => (c env st).bind fun d st1 => (asBool d st1).bind fun k st2 => if k = true then f env st2 else f' env st2
theorem q_one {op : BoolOp} (ha : PE X a (LfE X W f)) : PE X (.BoolOp op [a] pos) (LfE X W f) := pe_one ha
theorem q_and {rest : List Expr} (ha : PE X a (LfE X W f)) (hb : PE X (.BoolOp .And (b :: rest) pos) (LfE X W f')) : PE X (.BoolOp .And (a :: b :: rest) pos) (LfE X W (andE f f')) := by
  refine PE.weak (pe_and ha hb) ?_
  rintro σ H Q ⟨m, env, st, S, E, h⟩
  refine Lf.of S E h fun d m1 H1 st1 x g1 S1 E1 hx h => ?_
  obtain ⟨k, rfl, rfl, h2⟩ := asBool_ok S1 hx h.bind
  refine ⟨k, rfl, ?_⟩
  cases k with
  | true => exact ⟨m1, env, st1, S1, E1, h2⟩
  | false => exact Res.pure S1 h2 _ rfl
theorem q_or {rest : List Expr} (ha : PE X a (LfE X W f)) (hb : PE X (.BoolOp .Or (b :: rest) pos) (LfE X W f')) : PE X (.BoolOp .Or (a :: b :: rest) pos) (LfE X W (orE f f')) := by
  refine PE.weak (pe_or ha hb) ?_
  rintro σ H Q ⟨m, env, st, S, E, h⟩
  refine Lf.of S E h fun d m1 H1 st1 x g1 S1 E1 hx h => ?_
  obtain ⟨k, rfl, rfl, h2⟩ := asBool_ok S1 hx h.bind
  refine ⟨k, rfl, ?_⟩
  cases k with
  | false => exact ⟨m1, env, st1, S1, E1, h2⟩
  | true => exact Res.pure S1 h2 _ rfl
theorem q_not (ha : PE X a (LfE X W f)) : PE X (.UnaryOp .Not a pos) (LfE X W (notE f)) := by
  refine PE.weak (pe_not ha) ?_
  rintro σ H Q ⟨m, env, st, S, E, h⟩
  refine Lf.of S E h fun d m1 H1 st1 x g1 S1 E1 hx h => ?_
  obtain ⟨k, rfl, rfl, h2⟩ := asBool_ok S1 hx h.bind
  exact ⟨k, rfl, Res.pure S1 h2 _ rfl⟩
/-- tests -/
theorem tst_bind {f : En → Sto → R D} {env : En} {st : Sto} {α : Type} {kk : Bool → Sto → R α} : (tst f env st).bind kk = (f env st).bind fun d st1 => (asBool d st1).bind kk := by
  show ((f env st).bind _).bind _ = _
  cases f env st <;> rfl
theorem tst_ife {c f f' : En → Sto → R D} {env : En} {st : Sto} : ifeE c f f' env st = (tst c env st).bind fun k st2 => if k = true then f env st2 else f' env st2 := by
  rw [tst_bind]
theorem q_ife {t : Expr} {c : En → Sto → R D} (hc : PT X t (LfT X W (tst c))) (ha : PE X a (LfE X W f)) (hb : PE X b (LfE X W f')) : PE X (.IfExp t a b pos) (LfE X W (ifeE c f f')) := by
  refine PE.weak (pe_ifExp hc ha hb) ?_
  rintro σ H Q ⟨m, env, st, S, E, h⟩
  rw [tst_ife] at h
  refine Lf.of S E h fun k m1 H1 st1 b g1 S1 E1 hb h => ?_
  subst hb
  cases b with
  | true => exact ⟨m1, env, st1, S1, E1, h⟩
  | false => exact ⟨m1, env, st1, S1, E1, h⟩
theorem asBool_bl {k : Bool} {st : Sto} : asBool (.bl k) st = .ok k st := rfl
theorem tst_and {f f' : En → Sto → R D} {env : En} {st : Sto} : tst (andE f f') env st = (tst f env st).bind fun k st1 => if k = true then tst f' env st1 else .ok false st1 := by
  rw [tst_bind]
  show ((f env st).bind _).bind _ = _
  cases f env st with
  | ok d st1 =>
    show ((asBool d st1).bind _).bind _ = (asBool d st1).bind _
    cases asBool d st1 with
    | ok k st2 => cases k <;> rfl
    | ex x st2 => rfl
    | bad => rfl
  | ex x st1 => rfl
  | bad => rfl
theorem tst_or {f f' : En → Sto → R D} {env : En} {st : Sto} : tst (orE f f') env st = (tst f env st).bind fun k st1 => if k = true then .ok true st1 else tst f' env st1 := by
  rw [tst_bind]
  show ((f env st).bind _).bind _ = _
  cases f env st with
  | ok d st1 =>
    show ((asBool d st1).bind _).bind _ = (asBool d st1).bind _
    cases asBool d st1 with
    | ok k st2 => cases k <;> rfl
    | ex x st2 => rfl
    | bad => rfl
  | ex x st1 => rfl
  | bad => rfl
theorem tst_not {f : En → Sto → R D} {env : En} {st : Sto} : tst (notE f) env st = (tst f env st).bind fun k st1 => .ok (!k) st1 := by
  rw [tst_bind]
  show ((f env st).bind _).bind _ = _
  cases f env st with
  | ok d st1 =>
    show ((asBool d st1).bind _).bind _ = (asBool d st1).bind _
    cases asBool d st1 <;> rfl
  | ex x st1 => rfl
  | bad => rfl
theorem qw_and1 (ha : PT X a (LfT X W (tst f))) : PW X (.BoolOp .And [a] pos) (LfT X W (tst f)) := pw_and1 ha
theorem qw_or1 (ha : PT X a (LfT X W (tst f))) : PW X (.BoolOp .Or [a] pos) (LfT X W (tst f)) := pw_or1 ha
theorem qw_and {rest : List Expr} (ha : PT X a (LfT X W (tst f))) (hb : PW X (.BoolOp .And (b :: rest) pos) (LfT X W (tst f'))) : PW X (.BoolOp .And (a :: b :: rest) pos) (LfT X W (tst (andE f f'))) := by
  refine PW.weak (pw_and ha hb) ?_
  rintro σ H Q ⟨m, env, st, S, E, h⟩
  rw [tst_and] at h
  refine Lf.of S E h fun k m1 H1 st1 c g1 S1 E1 hc h => ?_
  subst hc
  cases c with
  | true => exact ⟨m1, env, st1, S1, E1, h⟩
  | false => exact Res.pure S1 h _ rfl
theorem qw_or {rest : List Expr} (ha : PT X a (LfT X W (tst f))) (hb : PW X (.BoolOp .Or (b :: rest) pos) (LfT X W (tst f'))) : PW X (.BoolOp .Or (a :: b :: rest) pos) (LfT X W (tst (orE f f'))) := by
  refine PW.weak (pw_or ha hb) ?_
  rintro σ H Q ⟨m, env, st, S, E, h⟩
  rw [tst_or] at h
  refine Lf.of S E h fun k m1 H1 st1 c g1 S1 E1 hc h => ?_
  subst hc
  cases c with
  | false => exact ⟨m1, env, st1, S1, E1, h⟩
  | true => exact Res.pure S1 h _ rfl
theorem qt_not (ha : PT X a (LfT X W (tst f))) : PT X (.UnaryOp .Not a pos) (LfT X W (tst (notE f))) := by
  refine PT.weak (pt_not ha) ?_
  rintro σ H Q ⟨m, env, st, S, E, h⟩
  rw [tst_not] at h
  refine Lf.of S E h fun k m1 H1 st1 c g1 S1 E1 hc h => ?_
  subst hc
  exact Res.pure S1 h _ rfl

/-! ### displays, subscripts -/
variable {g : En → Sto → R (List D)} {es : List Expr}
theorem q_tup {n : Nat} (h : PA X es (LfA X W g)) : PE X (.Tuple es n pos) (LfE X W fun env st => (g env st).bind fun ds st1 => if ds.length ≤ sizeLine then .ok (.tup ds) st1 else .bad) := by
  refine PE.weak (pe_tup h) ?_
  rintro σ H Q ⟨m, env, st, S, E, h⟩
  refine Lf.of S E h fun ds m1 H1 st1 xs g1 S1 E1 hx h => ?_
  by_cases hz : ds.length ≤ sizeLine
  · rw [if_pos hz] at h
    exact ⟨by rw [← hx.length]; exact hz, ends_tup S1 hx (Res.ends h trivial)⟩
  · rw [if_neg hz] at h
    exact h.elim
theorem q_lst (h : PA X es (LfA X W g)) : PE X (.List es pos) (LfE X W fun env st => (g env st).bind fun ds st1 => if ds.length ≤ sizeLine then alloc (.lst false ds) st1 else .bad) := by
  refine PE.weak (pe_lst h) ?_
  rintro σ H Q ⟨m, env, st, S, E, h⟩
  refine Lf.of S E h fun ds m1 H1 st1 xs g1 S1 E1 hx h => ?_
  by_cases hz : ds.length ≤ sizeLine
  · rw [if_pos hz] at h
    exact ⟨by rw [← hx.length]; exact hz, ends_lst S1 hx (Res.ends h trivial)⟩
  · rw [if_neg hz] at h
    exact h.elim
theorem q_sub (hs : isSlice b = false) (ha : PE X a (LfE X W f)) (hb : PE X b (LfE X W f')) : PE X (.Subscript a b pos) (LfE X W fun env st => (f env st).bind fun d st1 => (f' env st1).bind fun k st2 => subD d k st2) := by
  refine PE.weak (pe_ix ix_d ha hb (plain_ix hs)) ?_
  rintro σ H Q ⟨m, env, st, S, E, h⟩
  refine Lf.of S E h fun d m1 H1 st1 x g1 S1 E1 hx h => Lf.of S1 E1 h fun e m2 H2 st2 y g2 S2 E2 hy h => ?_
  exact ⟨m2, st2, d, e, S2, Den.grow S1 g2 hx, hy, Res.ends h plain_sub⟩
theorem q_slc {lo hi : Option Expr} {p2 : Pos} {l h' : En → Sto → R (Option Int)} (ha : PE X a (LfE X W f)) (hl : PO X lo (LfP X W l)) (hh : PO X hi (LfP X W h')) : PE X (.Subscript a (.Slice lo hi none p2) pos) (LfE X W fun env st => (f env st).bind fun d st1 => (l env st1).bind fun u st2 => (h' env st2).bind fun v st3 => slcD d u v st3) := by
  refine PE.weak (pe_slice sl_d ha hl hh) ?_
  rintro σ H Q ⟨m, env, st, S, E, h⟩
  refine Lf.of S E h fun d m1 H1 st1 x g1 S1 E1 hx h => Lf.of S1 E1 h fun e m2 H2 st2 y g2 S2 E2 hy h => Lf.of S2 E2 h fun e' m3 H3 st3 y' g3 S3 E3 hy' h => ?_
  subst hy
  subst hy'
  exact ⟨m3, st3, d, S3, Den.grow S2 g3 (Den.grow S1 g2 hx), Res.ends h plain_slc⟩
theorem q_part (ha : PE X a (LfE X W f)) : PO X (some a) (LfP X W fun env st => (f env st).bind fun d st1 => asPart d st1) := by
  refine PO.weak (po_some ha) ?_
  rintro σ H Q ⟨m, env, st, S, E, h⟩
  refine Lf.of S E h fun d m1 H1 st1 x g1 S1 E1 hx h => ?_
  cases d with
  | int i => cases hx; exact ⟨i, rfl, Res.pure S1 h _ rfl⟩
  | _ => exact h.elim
theorem q_nopart : PO X none (LfP X W fun _ st => .ok none st) := by
  refine PO.weak po_none ?_
  rintro σ H Q ⟨m, env, st, S, E, h⟩
  exact Res.pure S h _ rfl
theorem qa_nil : PA X [] (LfA X W fun _ st => .ok [] st) := by
  refine PA.weak pa_nil ?_
  rintro σ H Q ⟨m, env, st, S, E, h⟩
  exact Res.pure S h [] rfl
theorem qa_cons (hs : isStar a = false) (ha : PE X a (LfE X W f)) (hr : PA X es (LfA X W g)) : PA X (a :: es) (LfA X W fun env st => (f env st).bind fun d st1 => (g env st1).bind fun ds st2 => .ok (d :: ds) st2) := by
  refine PA.weak (pa_cons ha hr (star_cons hs)) ?_
  rintro σ H Q ⟨m, env, st, S, E, h⟩
  refine Lf.of S E h fun d m1 H1 st1 x g1 S1 E1 hx h => Lf.of S1 E1 h fun ds m2 H2 st2 xs g2 S2 E2 hy h => ?_
  exact Res.pure S2 h (x :: xs) ⟨x, xs, rfl, Den.grow S1 g2 hx, hy⟩
end
end
end Ab

set_option Elab.async false
set_option linter.all false
set_option autoImplicit false
set_option maxRecDepth 10000
/-! AbExpr2: calls, comprehensions, targets. -/
namespace Ab
open PySem PySem.Spec PyProof.Rows L2

section
variable {T : Tab} {G : Gb} {KW : Tx} {k : Nat} {X : Cx} {sc raw : Scope} {W : WX}

/-! ### calls of the text's own defs -/
theorem nostar_any {pos : Pos} {env : Env} : ∀ {es : List Expr}, es.all (fun e => !isStar e) = true → (backTo pos (starEach es env)).any (·.1) = false
  | [], _ => rfl
  | e :: es, h => by
    simp only [List.all_cons, Bool.and_eq_true, Bool.not_eq_true'] at h
    rw [star_cons h.1]
    show (false || (backTo pos (starEach es env)).any (·.1)) = false
    rw [nostar_any (by simpa using h.2)]
    rfl
theorem chkEs_nostar {N : List Str} : ∀ {cs : CEs} {es : List Expr}, chkEs N KW sc raw cs es = true → es.all (fun e => !isStar e) = true
  | .nil, [], _ => rfl
  | .nil, _ :: _, h => by simp [chkEs] at h
  | .cons c cs, [], h => by simp [chkEs] at h
  | .cons c cs, e :: es, h => by
    simp only [chkEs, Bool.and_eq_true] at h
    simp [h.1.1, chkEs_nostar h.2]
theorem pe_callS0 {CX : CXT} {j : Nat} {f : Addr} {fd : FuncData} {ps : List Str} {sp : Sp} {E : L2.St → XK} {x : Str} {p pos : Pos} (F : FnOk X.prog X.w X.K X.mg X.base CX j f fd ps sp) (hr : Room j X.A) (hg : Gl X x) (hm : X.mg x = some (.ref f)) (hk : PySem.W.keepIn X.K (.ref f) = true) (hb : Binds X.K fd ps []) (hx : ∀ σ, PassesAt CX X σ (E σ))
    (hdb : (x == ("__debug__" : Str)) = false) : PE X (.Call (.Name x p) [] [] pos) (tCallS sp E tNil) := by
  refine ⟨fun pins s σ H Q I h => ?_⟩
  refine wpAny_Call_Name_kw (ld_glob I hg hm ?_ hdb)
  exact PySem.W.callWith_K0 I.kIn hk (run_fnS (us := []) F hr hb (hx σ) I .nil h)
theorem spOf_of {n : Nat} {F : List D → Sto → R D} {σ : L2.St} {m : List Addr} {H : Hp} {st : Sto} {ds : List D} {xs : List V} {Q : VK} (S : StOk X.K X.mg m H st) (hx : Dens X.K X.mg m H ds xs) (hn : ds.length = n)
    (h : Res X.K X.mg W σ m H st (F ds st) (fun d m' H' _ => ∀ v, Den X.K X.mg m' H' d v → Q v H')) : spOf X.K X.mg n F xs H Q (WE W σ) := by
  refine ⟨m, st, ds, S, hx, hn, ?_⟩
  cases q : F ds st with
  | ok d st1 =>
    rw [q] at h
    exact fun m' H' v g S' hv => h m' H' g S' v hv
  | ex x st1 =>
    rw [q] at h
    exact fun m' H' cls d g S' hx => h m' H' cls d g S' hx
  | bad =>
    rw [q] at h
    exact h
theorem q_call0 (g : Good T G KW k X sc raw W) {f : Str} {p pos : Pos} (hf : f ∈ KW.fs) (hg : glbB sc f = true) :
    PE X (.Call (.Name f p) [] [] pos) (LfE X W fun _ st => callF T G k f [] st) := by
  obtain ⟨h1, h2, _⟩ := g.gl hg
  obtain ⟨fn, q⟩ := g.facts.fs f hf
  obtain ⟨a, fd, e1, e2, e3, e4, _⟩ := g.facts.fn f fn q
  refine PE.weak (pe_callS0 e4 g.room h1 e1 e2 e3 (fun σ => passAt g.tk σ) h2) ?_
  rintro σ H Q ⟨m, env, st, S, E, h⟩
  by_cases hl : ([] : List D).length = fn.ps.length
  · exact spOf_of (ds := []) S rfl hl h
  · have h : Res X.K X.mg W σ m H st (callF T G k f [] st) (fun a m' H' _ => ∀ b, Den X.K X.mg m' H' a b → Q b H') := h
    rw [callF_len q hl] at h
    exact h.elim
theorem q_call (g : Good T G KW k X sc raw W) {f : Str} {p pos : Pos} {e : Expr} {es : List Expr} {ev : En → Sto → R (List D)} (hf : f ∈ KW.fs) (hg : glbB sc f = true) (hs : (e :: es).all (fun e => !isStar e) = true) (ha : PA X (e :: es) (LfA X W ev)) :
    PE X (.Call (.Name f p) (e :: es) [] pos) (LfE X W fun env st => (ev env st).bind fun ds st1 => callF T G k f ds st1) := by
  obtain ⟨h1, h2, _⟩ := g.gl hg
  obtain ⟨fn, q⟩ := g.facts.fs f hf
  obtain ⟨a, fd, e1, e2, e3, e4, _⟩ := g.facts.fn f fn q
  simp only [List.all_cons, Bool.and_eq_true, Bool.not_eq_true'] at hs
  refine PE.weak (pe_callS e4 g.room h1 e1 e2 e3 (fun σ => passAt g.tk σ) ha h2 (star_cons hs.1) (nostar_any (by simpa using hs.2))) ?_
  rintro σ H Q ⟨m, env, st, S, E, h⟩
  refine Lf.of S E h fun ds m1 H1 st1 xs g1 S1 E1 hx h => ?_
  by_cases hl : ds.length = fn.ps.length
  · exact spOf_of S1 hx hl h
  · rw [callF_len q hl] at h
    exact h.elim

/-! ### calls with keywords -/
theorem kw_all {kws : List Keyword} {ks : List Str} {pos : Pos} {env : Env} (h : kws.map (·.arg) = ks.map some) :
    (backToKw pos (keywordEach kws env)).all (·.1.isSome) = true ∧ (backToKw pos (keywordEach kws env)).filterMap (·.1) = ks ∧ (backToKw pos (keywordEach kws env)).any (·.1.isNone) = false := by
  induction kws generalizing ks with
  | nil =>
    cases ks with
    | nil => exact ⟨rfl, rfl, rfl⟩
    | cons a b => cases h
  | cons kw kws ih =>
    cases ks with
    | nil => cases h
    | cons a b =>
      obtain ⟨nm, val, p⟩ := kw
      simp only [List.map_cons, List.cons.injEq] at h
      obtain ⟨h1, h2⟩ := h
      have h1 : nm = some a := h1
      subst h1
      obtain ⟨i1, i2, i3⟩ := ih h2
      refine ⟨?_, ?_, ?_⟩
      · show (true && (backToKw pos (keywordEach kws env)).all (·.1.isSome)) = true
        rw [i1]
        rfl
      · show a :: (backToKw pos (keywordEach kws env)).filterMap (·.1) = a :: b
        rw [i2]
      · show (false || (backToKw pos (keywordEach kws env)).any (·.1.isNone)) = false
        rw [i3]
        rfl
section
variable {e : Expr} {kws : List Keyword} {f : En → Sto → R D} {g : En → Sto → R (List D)}
theorem qk_nil : PK X [] (LfA X W fun _ st => .ok [] st) := by
  refine PK.weak pk_nil ?_
  rintro σ H Q ⟨m, env, st, S, E, h⟩
  exact Res.pure S h [] rfl
theorem qk_cons {nm : Option Str} {p : Pos} (ha : PE X e (LfE X W f)) (hr : PK X kws (LfA X W g)) : PK X (⟨nm, e, p⟩ :: kws) (LfA X W fun env st => (f env st).bind fun d st1 => (g env st1).bind fun ds st2 => .ok (d :: ds) st2) := by
  refine PK.weak (pk_cons ha hr) ?_
  rintro σ H Q ⟨m, env, st, S, E, h⟩
  refine Lf.of S E h fun d m1 H1 st1 x g1 S1 E1 hx h => Lf.of S1 E1 h fun ds m2 H2 st2 xs g2 S2 E2 hy h => ?_
  exact Res.pure S2 h (x :: xs) ⟨x, xs, rfl, Den.grow S1 g2 hx, hy⟩
end
def tCallKS (n j : Nat) (sp : Sp) (gV : List V → List V → List V) (E : L2.St → XK) (t tk : TA) : TE := fun σ H Q => t σ H fun vs H1 => tk σ H1 fun zs H2 => vs.length = n ∧ zs.length = j ∧ sp (gV vs zs) H2 Q (E σ)
section
variable {CX : CXT} {j n : Nat} {f : Addr} {fd : FuncData} {ps ks : List Str} {sp : Sp} {E : L2.St → XK} {x : Str} {p pos : Pos} {es : List Expr} {kws : List Keyword} {t tk : TA} {gV : List V → List V → List V}
/-- values by keywords -/
def lookV (ps ks : List Str) (n : Nat) (vs zs : List V) : Option (List V) := (optAll (fun p => (ks.zip zs).lookup p) (ps.drop n)).map (vs ++ ·)
theorem look_rel : ∀ {ks : List Str} {zs : List V} {ws : List Value} {p : Str} {z : V}, Vals zs ws → (ks.zip zs).lookup p = some z → ∃ u, (ks.zip ws).lookup p = some u ∧ RelV z u
  | [], _, _, _, _, _, h => by simp at h
  | _ :: _, _, _, _, _, .nil, h => by simp at h
  | a :: ks, _, _, p, z, .cons r rr, h => by
    simp only [List.zip_cons_cons, List.lookup_cons] at h ⊢
    cases q : p == a with
    | true =>
      rw [q] at h
      simp only [Option.some.injEq] at h
      subst h
      exact ⟨_, rfl, r⟩
    | false =>
      rw [q] at h
      exact look_rel rr h
theorem look_all {ks : List Str} {zs : List V} {ws : List Value} (r : Vals zs ws) : ∀ {ps : List Str} {as : List V}, optAll (fun p => (ks.zip zs).lookup p) ps = some as → ∃ us, optAll (fun p => (ks.zip ws).lookup p) ps = some us ∧ Vals as us
  | [], as, h => by
    cases h
    exact ⟨[], rfl, .nil⟩
  | p :: ps, as, h => by
    unfold optAll at h
    split at h
    · rename_i y ys e1 e2
      cases h
      obtain ⟨u, h1, h2⟩ := look_rel r e1
      obtain ⟨us, h3, h4⟩ := look_all r e2
      refine ⟨u :: us, ?_, .cons h2 h4⟩
      unfold optAll
      rw [h1, h3]
    · cases h
theorem run_fnKS {pins : List (Addr × Obj)} {σ : L2.St} {H : Hp} {s : Shared} {Q : VK} {us ws : List Value} {vs zs as : List V} (F : FnOk X.prog X.w X.K X.mg X.base CX j f fd ps sp) (hr : Room j X.A) (hb : KwB X.K fd ps n ks) (hx : PassesAt CX X σ (E σ))
    (I : Inv X pins σ H s) (r : Vals vs us) (rz : Vals zs ws) (l1 : vs.length = n) (l2 : zs.length = ks.length) (ha : optAll (fun p => (ks.zip zs).lookup p) (ps.drop n) = some as) (h : sp (vs ++ as) H Q (E σ)) : wpAny (model X.prog X.w) X.A (call (.ref f) us (ks.zip ws)) (EP X pins σ Q) X.xe s := by
  obtain ⟨bs, h1, h2⟩ := look_all rz ha
  refine wpAny_call (codeAny_mono (F.run X.A X.stack s H ⟨us, ks.zip ws⟩ (us ++ bs) (vs ++ as) Q (E σ) hr I.env0 (hb s us ws bs I.kIn (r.length.symm.trans l1) (rz.length.symm.trans l2) h1) (r.append h2) h) fun r s' hq => ?_)
  cases r with
  | error e => exact hx pins H s e s' I hq
  | ok fl =>
    cases fl with
    | ret u => exact I.after hq
    | next => exact False.elim hq
    | brk => exact False.elim hq
    | cont => exact False.elim hq
def tKw (n : Nat) (ps ks : List Str) (sp : Sp) (E : L2.St → XK) (t tk : TA) : TE := fun σ H Q => t σ H fun vs H1 => tk σ H1 fun zs H2 => vs.length = n ∧ zs.length = ks.length ∧ ∃ as, optAll (fun p => (ks.zip zs).lookup p) (ps.drop n) = some as ∧ sp (vs ++ as) H2 Q (E σ)
theorem pe_callKS (F : FnOk X.prog X.w X.K X.mg X.base CX j f fd ps sp) (hr : Room j X.A) (hg : Gl X x) (hm : X.mg x = some (.ref f)) (hk : PySem.W.keepIn X.K (.ref f) = true) (hb : KwB X.K fd ps n ks) (hx : ∀ σ, PassesAt CX X σ (E σ))
    (ha : PA X es t) (hkw : PK X kws tk) (hs : es.all (fun e => !isStar e) = true) (hks : kws.map (·.arg) = ks.map some) (hdb : (x == ("__debug__" : Str)) = false) (h0 : ∀ σ H Q, es = [] → t σ H Q → Q [] H) : PE X (.Call (.Name x p) es kws pos) (tKw n ps ks sp E t tk) := by
  obtain ⟨k1, k2, k3⟩ := kw_all (pos := pos) (env := X.env) hks
  refine ⟨fun pins s σ H Q I h => ?_⟩
  refine wpAny_Call_Name_kw (ld_glob I hg hm ?_ hdb)
  cases es with
  | nil =>
    have h := h0 σ H _ rfl h
    refine PySem.W.callWith_KW0 (h₀ := X.base) I.ok.mod.kin hk k1 (thn (hkw.run pos pins s σ H _ I h) fun ws s2 ⟨zs, H2, I2, rz, l1, l2, as, ha, q2⟩ => ⟨I2.kIn, ?_⟩) (by rw [k3]; rfl)
    rw [k2]
    exact run_fnKS F hr hb (hx σ) I2 .nil rz l1 l2 ha q2
  | cons e es =>
    have hs0 := nostar_any (pos := pos) (env := X.env) hs
    simp only [List.all_cons, Bool.and_eq_true, Bool.not_eq_true'] at hs
    refine PySem.W.callWith_KW (h₀ := X.base) I.ok.mod.kin hk k1 (thn (ha.run pos pins s σ H _ I h) fun us s1 ⟨vs, H1, I1, r, q⟩ => ?_) (by rw [k3, hs0]; rfl) (star_cons hs.1)
    refine thn (hkw.run pos pins s1 σ H1 _ I1 q) fun ws s2 ⟨zs, H2, I2, rz, l1, l2, as, ha, q2⟩ => ⟨I2.kIn, ?_⟩
    rw [k2]
    exact run_fnKS F hr hb (hx σ) I2 r rz l1 l2 ha q2
end
theorem lookD_rel {m : List Addr} {H : Hp} : ∀ {ks : List Str} {ds : List D} {zs : List V} {p : Str} {d : D}, Dens X.K X.mg m H ds zs → (ks.zip ds).lookup p = some d → ∃ z, (ks.zip zs).lookup p = some z ∧ Den X.K X.mg m H d z
  | [], _, _, _, _, _, h => by simp at h
  | _ :: _, [], _, _, _, _, h => by simp at h
  | a :: ks, d' :: ds, _, p, d, hd, h => by
    obtain ⟨v, r, rfl, h1, h2⟩ := hd
    simp only [List.zip_cons_cons, List.lookup_cons] at h ⊢
    cases q : p == a with
    | true =>
      rw [q] at h
      simp only [Option.some.injEq] at h
      subst h
      exact ⟨_, rfl, h1⟩
    | false =>
      rw [q] at h
      exact lookD_rel h2 h
theorem lookD_all {m : List Addr} {H : Hp} {ks : List Str} {ds : List D} {zs : List V} (hd : Dens X.K X.mg m H ds zs) : ∀ {ps : List Str} {as : List D}, optAll (lookKw ks ds) ps = some as → ∃ us, optAll (fun p => (ks.zip zs).lookup p) ps = some us ∧ Dens X.K X.mg m H as us
  | [], as, h => by
    cases h
    exact ⟨[], rfl, rfl⟩
  | p :: ps, as, h => by
    unfold optAll at h
    split at h
    · rename_i y ys e1 e2
      cases h
      obtain ⟨u, h1, h2⟩ := lookD_rel hd e1
      obtain ⟨us, h3, h4⟩ := lookD_all hd e2
      refine ⟨u :: us, ?_, u, us, rfl, h2, h4⟩
      unfold optAll
      rw [h1, h3]
    · cases h
theorem q_callk (g : Good T G KW k X sc raw W) {f : Str} {p pos : Pos} {es : List Expr} {kws : List Keyword} {ks : List Str} {ev ew : En → Sto → R (List D)} (hf : f ∈ KW.fs) (hkw : (f, es.length, ks) ∈ KW.kw) (hg : glbB sc f = true) (hs : es.all (fun e => !isStar e) = true) (hks : kws.map (·.arg) = ks.map some)
    (ha : PA X es (LfA X W ev)) (hw : PK X kws (LfA X W ew)) (hl : ∀ env st ds st', ev env st = .ok ds st' → ds.length = es.length) (hlw : ∀ env st ds st', ew env st = .ok ds st' → ds.length = ks.length) (h0 : es = [] → ev = fun _ st => .ok [] st) :
    PE X (.Call (.Name f p) es kws pos) (LfE X W fun env st => (ev env st).bind fun ds st1 => (ew env st1).bind fun zs st2 => match T f with
    | some fn => (match bindKw fn.ps ds ks zs with
      | some as => callF T G k f as st2
      | none => .bad)
    | none => .bad) := by
  obtain ⟨h1, h2, _⟩ := g.gl hg
  obtain ⟨fn, q⟩ := g.facts.fs f hf
  obtain ⟨a, fd, e1, e2, e3, e4, e5⟩ := g.facts.fn f fn q
  refine PE.weak (pe_callKS e4 g.room h1 e1 e2 (e5 _ _ hkw) (fun σ => passAt g.tk σ) ha hw hs hks h2 (fun σ H Q he h => ?_)) ?_
  · obtain ⟨m, env, st, S, E, h⟩ := h
    rw [h0 he] at h
    exact Res.pure S h [] rfl
  · rintro σ H Q ⟨m, env, st, S, E, h⟩
    have h : Res X.K X.mg W σ m H st ((ev env st).bind fun ds st1 => (ew env st1).bind fun zs st2 => match T f with
    | some fn => (match bindKw fn.ps ds ks zs with
      | some as => callF T G k f as st2
      | none => .bad)
    | none => .bad) (fun a m' H' _ => ∀ b, Den X.K X.mg m' H' a b → Q b H') := h
    rw [q] at h
    cases q1 : ev env st with
    | bad => rw [q1] at h; exact h.elim
    | ex x st1 =>
      refine ⟨m, env, st, S, E, ?_⟩
      rw [q1] at h ⊢
      exact h
    | ok ds st1 =>
      rw [q1] at h
      have hl1 := hl _ _ _ _ q1
      refine ⟨m, env, st, S, E, ?_⟩
      rw [q1]
      intro m1 H1 g1 S1 xs hx
      have E1 := E.grow S g1
      have h : Res X.K X.mg W σ m H st ((ew env st1).bind fun zs st2 => (match bindKw fn.ps ds ks zs with
      | some as => callF T G k f as st2
      | none => .bad)) (fun a m' H' _ => ∀ b, Den X.K X.mg m' H' a b → Q b H') := h
      cases q2 : ew env st1 with
      | bad => rw [q2] at h; exact h.elim
      | ex x st2 =>
        refine ⟨m1, env, st1, S1, E1, ?_⟩
        rw [q2] at h ⊢
        exact fun m' H' cls d g' S' hx => h m' H' cls d (g1.trans g') S' hx
      | ok zs st2 =>
        rw [q2] at h
        have hl2 := hlw _ _ _ _ q2
        refine ⟨m1, env, st1, S1, E1, ?_⟩
        rw [q2]
        intro m2 H2 g2 S2 ys hy
        have h : Res X.K X.mg W σ m H st (match bindKw fn.ps ds ks zs with
          | some as => callF T G k f as st2
          | none => .bad) (fun a m' H' _ => ∀ b, Den X.K X.mg m' H' a b → Q b H') := h
        have hx2 := Dens.grow S1 g2 hx
        cases q3 : bindKw fn.ps ds ks zs with
        | none => rw [q3] at h; exact h.elim
        | some as =>
          rw [q3] at h
          have h : Res X.K X.mg W σ m H st (callF T G k f as st2) (fun a m' H' _ => ∀ b, Den X.K X.mg m' H' a b → Q b H') := h
          unfold bindKw at q3
          simp only [Option.map_eq_some_iff] at q3
          obtain ⟨bs, q3, rfl⟩ := q3
          rw [hl1] at q3
          obtain ⟨us, h3, h4⟩ := lookD_all hy q3
          refine ⟨by rw [← hx.length, hl1], by rw [← hy.length, hl2], us, h3, ?_⟩
          by_cases hn : (ds ++ bs).length = fn.ps.length
          · refine spOf_of S2 (hx2.append h4) hn ?_
            cases q4 : callF T G k f (ds ++ bs) st2 with
            | ok d st3 =>
              rw [q4] at h
              exact fun m' H' g' S' => h m' H' ((g1.trans g2).trans g') S'
            | ex x st3 =>
              rw [q4] at h
              exact fun m' H' cls d g' S' hx => h m' H' cls d ((g1.trans g2).trans g') S' hx
            | bad =>
              rw [q4] at h
              exact h
          · rw [callF_len q hn] at h
            exact h.elim
end
end Ab

set_option Elab.async false
set_option linter.all false
set_option autoImplicit false
set_option maxRecDepth 10000
/-! AbExpr3: built-ins, targets, comprehensions. -/
namespace Ab
open PySem PySem.Spec PyProof.Rows L2

section
variable {T : Tab} {G : Gb} {KW : Tx} {k : Nat} {X : Cx} {sc raw : Scope} {W : WX}
theorem blt_boot (b : Blt) : bootBuiltins b.nm = some b.val := by cases b <;> decide +kernel
theorem ty_boot (t : Ty) : bootBuiltins t.nm = some (.type t.name) := by cases t <;> decide +kernel
theorem blt_mem (b : Blt) : b.nm ∈ bltNames := by cases b <;> decide +kernel
theorem ty_mem (t : Ty) : t.nm ∈ bltNames := by cases t <;> decide +kernel
theorem boot_isi : bootBuiltins ("isinstance" : Str) = some (.builtin "isinstance") := by decide +kernel
theorem q_blt (g : Good T G KW k X sc raw W) (b : Blt) {p pos : Pos} {e : Expr} {es : List Expr} {ev : En → Sto → R (List D)} (hg : glbB sc b.nm = true) (hs : (e :: es).all (fun e => !isStar e) = true) (ha : PA X (e :: es) (LfA X W ev)) :
    PE X (.Call (.Name b.nm p) (e :: es) [] pos) (LfE X W fun env st => (ev env st).bind fun ds st1 => bltD b ds st1) := by
  obtain ⟨h1, h2, h3⟩ := g.gl hg
  have hm := g.bltn (blt_mem b)
  have hv := blt_boot b
  simp only [List.all_cons, Bool.and_eq_true, Bool.not_eq_true'] at hs
  have he := star_cons (es := es) (env := X.env) hs.1
  have hpl := nostar_any (pos := pos) (env := X.env) (show es.all (fun e => !isStar e) = true by simpa using hs.2)
  have key : PE X (.Call (.Name b.nm p) (e :: es) [] pos) (tCB (rN X.K X.mg (bltD b)) (LfA X W ev)) := by
    have c := call_d g.calm b
    cases b <;> first
      | exact pe_callB c h1 hm hv ha h3 h2 he hpl
      | exact pe_callTy c h1 hm hv ha h3 h2 he hpl
  refine PE.weak key ?_
  rintro σ H Q ⟨m, env, st, S, E, h⟩
  refine Lf.of S E h fun ds m1 H1 st1 xs g1 S1 E1 hx h => ?_
  exact ⟨m1, st1, ds, S1, hx, Res.ends h plain_blt⟩
theorem q_isi (g : Good T G KW k X sc raw W) (t : Ty) {p q pos : Pos} {e : Expr} {f : En → Sto → R D} (hg : glbB sc ("isinstance" : Str) = true) (hgt : glbB sc t.nm = true) (hs : isStar e = false) (ha : PE X e (LfE X W f)) :
    PE X (.Call (.Name "isinstance" p) [e, .Name t.nm q] [] pos) (LfE X W fun env st => (f env st).bind fun d st1 => ofOpt ((isiD t d st1).map D.bl) st1) := by
  obtain ⟨h1, h2, h3⟩ := g.gl hg
  obtain ⟨t1, t2, t3⟩ := g.gl hgt
  have ht : PE X (.Name t.nm q) (tC (.ty t.name)) := pe_bltn t1 (g.bltn (ty_mem t)) (ty_boot t) rfl t3 t2
  have ha2 : PA X [e, .Name t.nm q] (tCons (LfE X W f) (tCons (tC (.ty t.name)) tNil)) := pa_cons ha (pa_cons ht pa_nil) (star_cons hs)
  refine PE.weak (pe_callB call_isi h1 (g.bltn (by decide +kernel)) boot_isi ha2 h3 h2 (star_cons hs)) ?_
  rintro σ H Q ⟨m, env, st, S, E, h⟩
  refine Lf.of S E h fun d m1 H1 st1 x g1 S1 E1 hx h => ?_
  have h := Res.ends h plain_ofOpt
  obtain ⟨b, e1, h⟩ := ends_opti h
  obtain ⟨tv, k1, k2⟩ := isi_kit S1 hx e1
  exact ⟨x, .ty t.name, tv, .type t.name, b, rfl, .ty _, k1, k2, ends_bl S1 h⟩

/-! ### methods of lists -/
theorem base_no {o : Expr} {nm : Str} {env : Env} {whole : Sem Value} (h : isCall0 o = false) : attributeBase o nm env whole = whole := by
  cases o with
  | Call fu as ks q =>
    cases fu with
    | Name x p =>
      cases as with
      | nil =>
        cases ks with
        | nil => cases h
        | cons a b => rfl
      | cons a b => rfl
    | _ => rfl
  | _ => rfl
theorem few_of {pos : Pos} {env : Env} {es : List Expr} (hs : es.all (fun e => !isStar e) = true) (hl : es.length < 20) : ((backTo pos (starEach es env)).all (fun x => !x.1) && (backToKw pos (keywordEach [] env)).all (fun x => x.1.isSome)
      && decide (es.length + ([] : List Keyword).length + (if ([] : List Keyword).isEmpty then 0 else 1) < 30)) = true := by
  have h1 : (backTo pos (starEach es env)).all (fun x => !x.1) = true := by
    have h := nostar_any (pos := pos) (env := env) hs
    rw [List.any_eq_false] at h
    rw [List.all_eq_true]
    intro x hx
    have := h x hx
    simpa using this
  rw [h1]
  have h2 : decide (es.length + ([] : List Keyword).length + (if ([] : List Keyword).isEmpty then 0 else 1) < 30) = true := by
    apply decide_eq_true
    simp
    omega
  rw [h2]
  rfl
theorem tyV_list {m : List Addr} {H : Hp} {st : Sto} {d : D} {v : V} {ds : List D} (S : StOk X.K X.mg m H st) (hv : Den X.K X.mg m H d v) (h : listOf st d = some ds) : tyV X.K "list" v H := by
  obtain ⟨l, f, rfl, hl⟩ := listOf_some h
  obtain ⟨a, vs, rfl, _, ha, _, _⟩ := den_lst S hv hl
  exact .inl ⟨rfl, vs, ha⟩
theorem slot_mth : ∀ mt : Mth, Slot "list" mt.nm mt.id
  | .append => PySem.F.slot_list_append
  | .index => PySem.F.slot_list_index
  | .pop => PySem.F.slot_list_pop
theorem type_mth : ∀ mt : Mth, typeOf (.builtin mt.id) = pure (.type "method_descriptor")
  | .append => PySem.F.type_list_append
  | .index => PySem.F.type_list_index
  | .pop => PySem.F.type_list_pop
theorem q_meth (mt : Mth) {o : Expr} {es : List Expr} {apos cpos : Pos} {f : En → Sto → R D} {ev : En → Sto → R (List D)} (hline : (apos.endLine == cpos.line) = true) (hlen : es.length < 20) (hc0 : isCall0 o = false) (hs : es.all (fun e => !isStar e) = true) (ho : PE X o (LfE X W f)) (ha : PA X es (LfA X W ev))
    (h0 : es = [] → ev = fun _ st => .ok [] st) :
    PE X (.Call (.Attribute o mt.nm apos) es [] cpos) (LfE X W fun env st => (f env st).bind fun d st1 => match listOf st1 d with
      | some _ => (ev env st1).bind fun ds st2 => mthD mt d ds st2
      | none => .bad) := by
  cases es with
  | nil =>
    have e := h0 rfl
    subst e
    refine PE.weak (pe_bm0 PySem.F.plainAttrs_list (slot_mth mt) (type_mth mt) (mth_d mt) ho (base_no hc0) hline) ?_
    rintro σ H Q ⟨m, env, st, S, E, h⟩
    refine Lf.of S E h fun d m1 H1 st1 x g1 S1 E1 hx h => ?_
    cases q : listOf st1 d with
    | none => rw [q] at h; exact h.elim
    | some ys =>
      rw [q] at h
      exact ⟨tyV_list S1 hx q, m1, st1, d, [], S1, hx, rfl, Res.ends h plain_mth⟩
  | cons e es =>
    have hs' := hs
    simp only [List.all_cons, Bool.and_eq_true, Bool.not_eq_true'] at hs'
    refine PE.weak (pe_bm PySem.F.plainAttrs_list (slot_mth mt) (type_mth mt) (mth_d mt) ho ha (base_no hc0) (few_of hs hlen) hline (star_cons hs'.1) (nostar_any (by simpa using hs'.2))) ?_
    rintro σ H Q ⟨m, env, st, S, E, h⟩
    refine Lf.of S E h fun d m1 H1 st1 x g1 S1 E1 hx h => ?_
    cases q : listOf st1 d with
    | none => rw [q] at h; exact h.elim
    | some ys =>
      rw [q] at h
      refine ⟨tyV_list S1 hx q, Lf.of S1 E1 h fun ds m2 H2 st2 xs g2 S2 E2 hy h => ?_⟩
      exact ⟨m2, st2, d, ds, S2, Den.grow S1 g2 hx, hy, Res.ends h plain_mth⟩

/-! ### targets -/
def LgT (X : Cx) (t : Tg) (f : D → En → Sto → R En) : TG := fun v σ H Q => ∃ m env st d env' st', StOk X.K X.mg m H st ∧ EnOk X.K X.mg m H σ env ∧ Den X.K X.mg m H d v ∧ f d env st = .ok env' st' ∧
  ∀ m' H' σ', Grow m H st m' H' st' → StOk X.K X.mg m' H' st' → EnOk X.K X.mg m' H' σ' env' → (∀ own, tgIn own t = true → wipe σ' own = wipe σ own) → Q σ' H'
def LgTs (X : Cx) (t : Tgs) (f : List D → En → Sto → R En) : TGs := fun vs σ H Q => ∃ m env st ds env' st', StOk X.K X.mg m H st ∧ EnOk X.K X.mg m H σ env ∧ Dens X.K X.mg m H ds vs ∧ f ds env st = .ok env' st' ∧
  ∀ m' H' σ', Grow m H st m' H' st' → StOk X.K X.mg m' H' st' → EnOk X.K X.mg m' H' σ' env' → (∀ own, tgsIn own t = true → wipe σ' own = wipe σ own) → Q σ' H'
theorem wipe_set {σ : L2.St} {i : Nat} {v : Option V} : ∀ {own : List Nat}, i ∈ own → wipe (σ.set i v) own = wipe σ own
  | [], h => by cases h
  | j :: own, h => by
    unfold wipe
    by_cases hj : i = j
    · subst hj
      have key : ∀ vs : List Nat, (wipe (σ.set i v) vs).set i none = (wipe σ vs).set i none := by
        intro vs
        induction vs with
        | nil => simp [wipe]
        | cons k vs ih =>
          unfold wipe
          by_cases hk : k = i
          · subst hk
            simpa using ih
          · rw [List.set_comm _ _ hk, ih, List.set_comm _ _ (Ne.symm hk)]
      exact key own
    · rcases List.mem_cons.mp h with e | h
      · exact absurd e hj
      · rw [wipe_set h]
theorem qg_nm (g : Good T G KW k X sc raw W) {i : Nat} {x : Str} {pos : Pos} (hN : X.N[i]? = some x) (hs : stoB sc raw x = true) : PG X (.Name x pos) (LgT X (.nm i) fun d env st => .ok (env.set i (some d)) st) := by
  obtain ⟨h1, h2⟩ := g.sto hs
  refine PG.weak (pg_name g.nd hN h1 h2) ?_
  rintro v σ H Q ⟨m, env, st, d, env', st', S, E, hd, e, q⟩
  cases e
  exact q m H _ Grow.refl S (E.set hd i) (fun own ho => wipe_set (by simpa [tgIn] using ho))
theorem qg_tp {ts : Tgs} {es : List Expr} {n : Nat} {pos : Pos} {f : List D → En → Sto → R En} (hc : X.calm = true) (h : PGs X es (LgTs X ts f)) (hst : (assignEach es X.env).findIdx? (·.1) = none) (hl : (assignEach es X.env).length = es.length) (hlen : ∀ ds env st env' st', f ds env st = .ok env' st' → ds.length = es.length) :
    PG X (.Tuple es n pos) (LgT X (.tp ts) fun d env st => match d with
      | .tup ds => f ds env st
      | _ => .bad) := by
  refine PG.weak (pg_tup hc h hl hst) ?_
  rintro v σ H Q ⟨m, env, st, d, env', st', S, E, hd, e, q⟩
  cases d with
  | tup ds =>
    obtain ⟨a, vs, rfl, ha, hx⟩ := den_tup hd
    have e : f ds env st = .ok env' st' := e
    exact ⟨a, vs, rfl, ha, by rw [← hx.length]; exact hlen _ _ _ _ _ e, m, env, st, ds, env', st', S, E, hx, e, fun m' H' σ' g' S' E' w => q m' H' σ' g' S' E' fun own ho => w own (by simpa [tgIn] using ho)⟩
  | _ => cases e
theorem qgs_nil : PGs X [] (LgTs X .nil fun ds env st => match ds with
    | [] => .ok env st
    | _ => .bad) := by
  refine PGs.weak pgs_nil ?_
  rintro vs σ H Q ⟨m, env, st, ds, env', st', S, E, hd, e, q⟩
  cases ds with
  | nil =>
    cases e
    exact ⟨hd, q m H σ Grow.refl S E fun _ _ => rfl⟩
  | cons d ds => cases e
theorem qgs_cons {t : Tg} {ts : Tgs} {e : Expr} {es : List Expr} {f : D → En → Sto → R En} {fs : List D → En → Sto → R En} (h1 : PG X e (LgT X t f)) (h2 : PGs X es (LgTs X ts fs)) (hs : (assignEach (e :: es) X.env).map (·.2) = assign e X.env :: (assignEach es X.env).map (·.2)) :
    PGs X (e :: es) (LgTs X (.cons t ts) fun ds env st => match ds with
      | d :: r => (f d env st).bind fun env1 st1 => fs r env1 st1
      | [] => .bad) := by
  refine PGs.weak (pgs_cons h1 h2 hs) ?_
  rintro vs σ H Q ⟨m, env, st, ds, env', st', S, E, hd, e, q⟩
  cases ds with
  | nil => cases e
  | cons d ds =>
    obtain ⟨v, r, rfl, hv, hr⟩ := hd
    have e : ((f d env st).bind fun env1 st1 => fs ds env1 st1) = .ok env' st' := e
    cases q1 : f d env st with
    | ok env1 st1 =>
      rw [q1] at e
      have e : fs ds env1 st1 = .ok env' st' := e
      refine ⟨v, r, rfl, m, env, st, d, env1, st1, S, E, hv, q1, fun m1 H1 σ1 g1 S1 E1 w1 => ?_⟩
      refine ⟨m1, env1, st1, ds, env', st', S1, E1, Dens.grow S g1 hr, e, fun m2 H2 σ2 g2 S2 E2 w2 => ?_⟩
      refine q m2 H2 σ2 (g1.trans g2) S2 E2 fun own ho => ?_
      simp only [tgsIn, Bool.and_eq_true] at ho
      rw [w2 own ho.2, w1 own ho.1]
    | ex x st1 => rw [q1] at e; cases e
    | bad => rw [q1] at e; cases e
theorem assign_sub {o i : Expr} {pos : Pos} {env : Env} (h : isSlice i = false) : ∀ v, assign (.Subscript o i pos) env v = (do
      let ov ← holding [v] (eval o env)
      let iv ← holding [v, ov] (eval i env)
      standAt pos
      holding [v, ov, iv] (setItem ov iv v)
      release [v, ov, iv] []) := by
  intro v
  cases i <;> first | rfl | cases h
theorem noex_ok {α : Type} {r : R α} {a : α} {st : Sto} (h : r.noex = .ok a st) : r = .ok a st := by
  cases r <;> first | exact h | cases h
theorem qg_sb {o i : Expr} {a c : CE} {pos : Pos} {f f' : En → Sto → R D} (hi : isSlice i = false) (ha : PE X o (LfE X W f)) (hb : PE X i (LfE X W f')) : PG X (.Subscript o i pos) (LgT X (.sb a c) fun d env st => (f env st).noex.bind fun o st1 => (f' env st1).noex.bind fun k st2 => (setD o k d st2).bind fun _ st3 => .ok env st3) := by
  refine PG.weak (pg_sub ha hb set_d (assign_sub hi)) ?_
  rintro v σ H Q ⟨m, env, st, d, env', st', S, E, hd, e, q⟩
  have e : ((f env st).noex.bind fun o st1 => (f' env st1).noex.bind fun k st2 => (setD o k d st2).bind fun _ st3 => .ok env st3) = .ok env' st' := e
  cases q1 : f env st with
  | ok o1 st1 =>
    rw [q1] at e
    have e : ((f' env st1).noex.bind fun k st2 => (setD o1 k d st2).bind fun _ st3 => .ok env st3) = .ok env' st' := e
    cases q2 : f' env st1 with
    | ok k2 st2 =>
      rw [q2] at e
      have e : ((setD o1 k2 d st2).bind fun _ st3 => .ok env st3) = .ok env' st' := e
      cases q3 : setD o1 k2 d st2 with
      | ok u st3 =>
        rw [q3] at e
        cases e
        refine ⟨m, env, st, S, E, ?_⟩
        rw [q1]
        intro m1 H1 g1 S1 x hx
        refine ⟨m1, env, st1, S1, E.grow S g1, ?_⟩
        rw [q2]
        intro m2 H2 g2 S2 y hy
        have g12 := g1.trans g2
        refine ⟨m2, st2, o1, k2, d, st', S2, Den.grow S1 g2 hx, hy, Den.grow S g12 hd, q3, fun m3 H3 g3 S3 => ?_⟩
        exact q m3 H3 σ (g12.trans g3) S3 (E.grow S (g12.trans g3)) fun own ho => by simp [tgIn] at ho
      | ex x st3 => rw [q3] at e; cases e
      | bad => rw [q3] at e; cases e
    | ex x st2 => rw [q2] at e; cases e
    | bad => rw [q2] at e; cases e
  | ex x st1 => rw [q1] at e; cases e
  | bad => rw [q1] at e; cases e
end
end Ab

set_option Elab.async false
set_option linter.all false
set_option autoImplicit false
set_option maxRecDepth 10000
/-! AbLc: list comprehensions. -/
namespace Ab
open PySem PySem.Spec PyProof.Rows L2

theorem wipe_idem {σ : L2.St} : ∀ {a b : List Nat}, (∀ i ∈ a, i ∈ b) → wipe (wipe σ b) a = wipe σ b
  | [], _, _ => rfl
  | i :: a, b, h => by
    show (wipe (wipe σ b) a).set i none = wipe σ b
    rw [wipe_idem fun j hj => h j (List.mem_cons_of_mem _ hj)]
    have key : ∀ {b : List Nat}, i ∈ b → (wipe σ b).set i none = wipe σ b := by
      intro b
      induction b with
      | nil => intro h; cases h
      | cons j b ih =>
        intro h
        unfold wipe
        by_cases e : j = i
        · subst e
          rw [List.set_set]
        · rw [List.set_comm _ _ e, ih (by rcases List.mem_cons.mp h with e' | h; exact absurd e'.symm e; exact h)]
    exact key (h i List.mem_cons_self)
abbrev W0 : WX := fun _ _ _ _ => False
section
variable {X : Cx} {W : WX} {t : Tg} {own : List Nat} {fI : En → Sto → R Src} {fT : D → En → Sto → R En} {fC : En → Sto → R Bool} {fE : En → Sto → R D}
abbrev lcBody (own : List Nat) (env : En) (fT : D → En → Sto → R En) (fC : En → Sto → R Bool) (fE : En → Sto → R D) : D → Sto → R (Option D) := fun d st2 => (fT d (wipeE env own) st2).bind fun env2 st3 => (fC env2 st3).noex.bind fun k st4 =>
        if k = true then (fE env2 st4).noex.bind fun y st5 => .ok (some y) st5 else .ok none st4
noncomputable abbrev lcE (own : List Nat) (fI : En → Sto → R Src) (fT : D → En → Sto → R En) (fC : En → Sto → R Bool) (fE : En → Sto → R D) : En → Sto → R D := fun env st => (fI env st).bind fun s st1 =>
      (lcLoop s (lcBody own env fT fC fE) s.items [] st1).noex.bind fun ys st6 => alloc (.lst false ys) st6
theorem lc_weak (hown : tgIn own t = true) : ∀ σ H (Q : VK), LfE X W (lcE own fI fT fC fE) σ H Q → tLc (LfI X W fI) (LgT X t fT) (LfT X W0 fC) (LfE X W0 fE) own σ H Q := by
  rintro σ H Q ⟨m, env, st, S, E, h⟩
  have h : Res X.K X.mg W σ m H st ((fI env st).bind fun s st1 => (lcLoop s (lcBody own env fT fC fE) s.items [] st1).noex.bind fun ys st6 => alloc (.lst false ys) st6) (fun a m' H' _ => ∀ b, Den X.K X.mg m' H' a b → Q b H') := h
  cases q : fI env st with
  | bad => rw [q] at h; exact h.elim
  | ex x st1 =>
    refine ⟨m, env, st, S, E, ?_⟩
    rw [q] at h ⊢
    exact h
  | ok s st1 =>
    rw [q] at h
    refine ⟨m, env, st, S, E, ?_⟩
    rw [q]
    intro m1 H1 g1 S1 J hJ D hD
    have E1 := E.grow S g1
    have h : Res X.K X.mg W σ m H st ((lcLoop s (lcBody own env fT fC fE) s.items [] st1).noex.bind fun ys st6 => alloc (.lst false ys) st6) (fun a m' H' _ => ∀ b, Den X.K X.mg m' H' a b → Q b H') := h
    cases q2 : lcLoop s (lcBody own env fT fC fE) s.items [] st1 with
    | bad => rw [q2] at h; exact h.elim
    | ex x st6 => rw [q2] at h; exact h.elim
    | ok ys st6 =>
      rw [q2] at h
      have fin : ∀ m' H', Grow m1 H1 st1 m' H' (st6 ++ [.lst false ys]) → StOk X.K X.mg m' H' (st6 ++ [.lst false ys]) → ∀ v, Den X.K X.mg m' H' (.ref st6.length) v → Q v H' := fun m' H' g' S' v hv => h m' H' (g1.trans g') S' v hv
      refine ⟨fun i μ Hc => μ = s.items.length - i ∧ i ≤ s.items.length ∧ ∃ mc stc accD accV, Grow m1 H1 st1 mc Hc stc ∧ StOk X.K X.mg mc Hc stc ∧ Hc D = some (.lst accV) ∧ ¬ Trk mc stc D ∧ Dens X.K X.mg mc Hc accD accV ∧ lcLoop s (lcBody own env fT fC fE) (s.items.drop i) accD stc = .ok ys st6,
        ⟨s.items.length, by simp, Nat.zero_le _, m1, st1, [], [], Grow.lay S1 hD, S1.poke (.inl hD) (S1.noTrkNone hD), upd_same, S1.noTrkNone hD, rfl, by simpa using q2⟩, ?_⟩
      rintro i μ Hc ⟨rfl, hi, mc, stc, accD, accV, gc, Sc, hDc, hnT, hda, hloop⟩
      have hst : s.still stc := by
        cases hl : s.items.drop i with
        | nil =>
          rw [hl] at hloop
          unfold lcLoop at hloop
          by_cases hst : s.still stc
          · exact hst
          · rw [if_neg hst] at hloop; cases hloop
        | cons d ds =>
          rw [hl] at hloop
          unfold lcLoop at hloop
          by_cases hst : s.still stc
          · exact hst
          · rw [if_neg hst] at hloop; cases hloop
      obtain ⟨go, stop, yl⟩ := hJ mc Hc stc gc Sc hst
      by_cases hlt : i < s.items.length
      · rw [List.drop_eq_getElem_cons hlt] at hloop
        unfold lcLoop at hloop
        rw [if_pos hst] at hloop
        refine .inr ⟨go i hlt, fun Hn => i + 1 ≤ s.items.length ∧ ∃ mc stc accD accV, Grow m1 H1 st1 mc Hn stc ∧ StOk X.K X.mg mc Hn stc ∧ Hn D = some (.lst accV) ∧ ¬ Trk mc stc D ∧ Dens X.K X.mg mc Hn accD accV ∧ lcLoop s (lcBody own env fT fC fE) (s.items.drop (i + 1)) accD stc = .ok ys st6,
          fun H' hN => ⟨s.items.length - (i + 1), by omega, rfl, hN⟩, fun x H' hy => ?_⟩
        obtain ⟨g2, S2, d, hd, hdx⟩ := yl i x H' hlt hy
        have ed : s.items[i] = d := by
          rw [List.getElem?_eq_getElem hlt] at hd
          exact Option.some.inj hd
        rw [ed] at hloop
        have hloop : (((fT d (wipeE env own) stc).bind fun env2 st3 => (fC env2 st3).noex.bind fun k st4 => if k = true then (fE env2 st4).noex.bind fun y st5 => (R.ok (some y) st5 : R (Option Ab.D)) else .ok none st4).bind fun r st1 => match r with
            | some y => if accD.length < sizeLine then lcLoop s (lcBody own env fT fC fE) (s.items.drop (i + 1)) (accD ++ [y]) st1 else .bad
            | none => lcLoop s (lcBody own env fT fC fE) (s.items.drop (i + 1)) accD st1) = .ok ys st6 := hloop
        cases q3 : fT d (wipeE env own) stc with
        | bad => rw [q3] at hloop; cases hloop
        | ex x st3 => rw [q3] at hloop; cases hloop
        | ok env2 st3 =>
          rw [q3] at hloop
          refine ⟨mc, wipeE env own, stc, d, env2, st3, S2, (E1.grow S1 (gc.trans g2)).wipe own, hdx, q3, fun m3 H3 σ3 g3 S3 E3 w3 => ⟨by rw [w3 own hown, wipe_idem fun _ h => h], ?_⟩⟩
          have hloop : (((fC env2 st3).noex.bind fun k st4 => if k = true then (fE env2 st4).noex.bind fun y st5 => (R.ok (some y) st5 : R (Option Ab.D)) else .ok none st4).bind fun r st1 => match r with
            | some y => if accD.length < sizeLine then lcLoop s (lcBody own env fT fC fE) (s.items.drop (i + 1)) (accD ++ [y]) st1 else .bad
            | none => lcLoop s (lcBody own env fT fC fE) (s.items.drop (i + 1)) accD st1) = .ok ys st6 := hloop
          cases q4 : fC env2 st3 with
          | bad => rw [q4] at hloop; cases hloop
          | ex x st4 => rw [q4] at hloop; cases hloop
          | ok k st4 =>
            rw [q4] at hloop
            refine ⟨m3, env2, st3, S3, E3, ?_⟩
            rw [q4]
            intro m4 H4 g4 S4 b hb
            subst hb
            have G4 := (g2.trans g3).trans g4
            cases b with
            | false =>
              have hloop : lcLoop s (lcBody own env fT fC fE) (s.items.drop (i + 1)) accD st4 = .ok ys st6 := hloop
              obtain ⟨k1, k2⟩ := G4.keep D _ hDc hnT
              exact ⟨hlt, m4, st4, accD, accV, gc.trans G4, S4, k1, k2, Dens.grow Sc G4 hda, hloop⟩
            | true =>
              have hloop : (((fE env2 st4).noex.bind fun y st5 => (R.ok (some y) st5 : R (Option Ab.D))).bind fun r st1 => match r with
                | some y => if accD.length < sizeLine then lcLoop s (lcBody own env fT fC fE) (s.items.drop (i + 1)) (accD ++ [y]) st1 else .bad
                | none => lcLoop s (lcBody own env fT fC fE) (s.items.drop (i + 1)) accD st1) = .ok ys st6 := hloop
              cases q5 : fE env2 st4 with
              | bad => rw [q5] at hloop; cases hloop
              | ex x st5 => rw [q5] at hloop; cases hloop
              | ok y st5 =>
                rw [q5] at hloop
                have hloop : (if accD.length < sizeLine then lcLoop s (lcBody own env fT fC fE) (s.items.drop (i + 1)) (accD ++ [y]) st5 else .bad) = .ok ys st6 := hloop
                refine ⟨m4, env2, st4, S4, E3.grow S3 g4, ?_⟩
                rw [q5]
                intro m5 H5 g5 S5 v hv
                have G5 := G4.trans g5
                obtain ⟨k1, k2⟩ := G5.keep D _ hDc hnT
                have hda5 := Dens.grow Sc G5 hda
                by_cases hz : accD.length < sizeLine
                · rw [if_pos hz] at hloop
                  refine ⟨accV, k1, by rw [← hda.length]; exact hz, hlt, m5, st5, accD ++ [y], accV ++ [v], (gc.trans G5).poke hD, S5.poke (.inr ⟨_, k1⟩) k2, upd_same, k2, ?_, hloop⟩
                  exact Dens.mono (fun _ _ h => h) (sqT_upd (.inr ⟨_, k1⟩)) _ _ (hda5.append (Dens.one hv))
                · rw [if_neg hz] at hloop
                  cases hloop
      · have e : i = s.items.length := by omega
        subst e
        rw [List.drop_length] at hloop
        unfold lcLoop at hloop
        rw [if_pos hst] at hloop
        cases hloop
        refine .inl ⟨stop, fin (mc ++ [D]) Hc (gc.join Sc.len hD) (Sc.join hDc hnT hda) (.ref D) ⟨D, ?_, rfl⟩⟩
        rw [← Sc.len, List.getElem?_append_right (Nat.le_refl _)]
        simp
end
end Ab

set_option Elab.async false
set_option linter.all false
set_option autoImplicit false
set_option maxRecDepth 10000
/-! AbSound1: every expression that is looked over does what the small language says. -/
namespace Ab
open PySem PySem.Spec PyProof.Rows L2

theorem assign_cons {e : Expr} {es : List Expr} {env : Env} (h : isStar e = false) : assignEach (e :: es) env = (false, assign e env) :: assignEach es env := by
  cases e <;> first | rfl | cases h
theorem assign_plain {env : Env} : ∀ {es : List Expr}, es.all (fun e => !isStar e) = true → (assignEach es env).findIdx? (·.1) = none ∧ (assignEach es env).length = es.length
  | [], _ => ⟨rfl, rfl⟩
  | e :: es, h => by
    simp only [List.all_cons, Bool.and_eq_true, Bool.not_eq_true'] at h
    obtain ⟨i1, i2⟩ := assign_plain (env := env) (es := es) (by simpa using h.2)
    rw [assign_cons h.1]
    refine ⟨?_, by simp [i2]⟩
    rw [List.findIdx?_cons, i1]
    rfl
section
variable {T : Tab} {G : Gb} {F : Str → List D → Sto → R D}
def CEs.count : CEs → Nat
  | .nil => 0
  | .cons _ es => es.count + 1
def Tgs.count : Tgs → Nat
  | .nil => 0
  | .cons _ es => es.count + 1
theorem evEs_len : ∀ {es : CEs} {env : En} {st st' : Sto} {ds : List D}, evEs T G F es env st = .ok ds st' → ds.length = es.count
  | .nil, env, st, st', ds, h => by
    have h : (R.ok [] st : R (List D)) = .ok ds st' := h
    cases h
    rfl
  | .cons e es, env, st, st', ds, h => by
    have h : ((evE T G F e env st).bind fun d st1 => (evEs T G F es env st1).bind fun ds st2 => .ok (d :: ds) st2) = .ok ds st' := h
    cases q : evE T G F e env st with
    | ok d st1 =>
      rw [q] at h
      have h : ((evEs T G F es env st1).bind fun ds st2 => .ok (d :: ds) st2) = .ok ds st' := h
      cases q2 : evEs T G F es env st1 with
      | ok ds2 st2 =>
        rw [q2] at h
        cases h
        simp [CEs.count, evEs_len q2]
      | ex x st2 => rw [q2] at h; cases h
      | bad => rw [q2] at h; cases h
    | ex x st1 => rw [q] at h; cases h
    | bad => rw [q] at h; cases h
theorem setTs_len : ∀ {ts : Tgs} {ds : List D} {env env' : En} {st st' : Sto}, setTs T G F ts ds env st = .ok env' st' → ds.length = ts.count
  | .nil, ds, env, env', st, st', h => by
    cases ds with
    | nil => rfl
    | cons d ds => exact (show (R.bad : R En) = .ok env' st' from h) |> fun h => by cases h
  | .cons t ts, ds, env, env', st, st', h => by
    cases ds with
    | nil => exact (show (R.bad : R En) = .ok env' st' from h) |> fun h => by cases h
    | cons d ds =>
      have h : ((setT T G F t d env st).bind fun env1 st1 => setTs T G F ts ds env1 st1) = .ok env' st' := h
      cases q : setT T G F t d env st with
      | ok env1 st1 =>
        rw [q] at h
        have h : setTs T G F ts ds env1 st1 = .ok env' st' := h
        simp [Tgs.count, setTs_len h]
      | ex x st1 => rw [q] at h; cases h
      | bad => rw [q] at h; cases h
variable {N : List Str} {KW : Tx} {sc raw : Scope}
theorem chkEs_len : ∀ {cs : CEs} {es : List Expr}, chkEs N KW sc raw cs es = true → cs.count = es.length
  | .nil, [], _ => rfl
  | .nil, _ :: _, h => by simp [chkEs] at h
  | .cons c cs, [], h => by simp [chkEs] at h
  | .cons c cs, e :: es, h => by
    simp only [chkEs, Bool.and_eq_true] at h
    simp [CEs.count, chkEs_len h.2]
theorem chkTgs_len : ∀ {cs : Tgs} {es : List Expr}, chkTgs N KW sc raw cs es = true → cs.count = es.length ∧ es.all (fun e => !isStar e) = true
  | .nil, [], _ => ⟨rfl, rfl⟩
  | .nil, _ :: _, h => by simp [chkTgs] at h
  | .cons c cs, [], h => by simp [chkTgs] at h
  | .cons c cs, e :: es, h => by
    simp only [chkTgs, Bool.and_eq_true] at h
    obtain ⟨i1, i2⟩ := chkTgs_len h.2
    simp [Tgs.count, i1, h.1.1, i2]
end

/-- a comprehension's block -/
theorem Good.blk {T : Tab} {G : Gb} {KW : Tx} {k : Nat} {X : Cx} {sc raw : Scope} {W : WX} (g : Good T G KW k X sc raw W) (s : Shared) (H : Hp) (scope : Scope) (cl : List (Str × Addr)) (C : Addr) (fp : List Addr) :
    Good T G KW k (X.blk s H scope (compEnvC scope cl C X.env) fp) (relS scope sc) scope W0 where
  scope := by
    show relabel scope X.env = relS scope sc
    rw [← g.scope]
    rfl
  nd := g.nd
  calm := g.calm
  room := g.room
  tk := takes0
  facts := g.facts
  fnc := fun x h => by
    show (scope.names.lookup x == some .cell) = true
    rw [h]
    rfl

section
variable {T : Tab} {G : Gb} {KW : Tx} {k : Nat}
mutual
theorem sE : ∀ (c : CE) {X : Cx} {sc raw : Scope} {W : WX} (g : Good T G KW k X sc raw W) (e : Expr), chkE X.N KW sc raw c e = true → PE X e (LfE X W (evE T G (callF T G k) c))
  | .var i, X, sc, raw, W, g, e, h => by
    unfold chkE at h
    split at h
    · simp only [Bool.and_eq_true, decide_eq_true_eq, Bool.not_eq_true'] at h
      exact q_var g h.1.1 h.1.2 h.2
    · cases h
  | .lit l, X, sc, raw, W, g, e, h => q_lit h
  | .glob x, X, sc, raw, W, g, e, h => by
    unfold chkE at h
    split at h
    · simp only [Bool.and_eq_true, decide_eq_true_eq] at h
      obtain ⟨rfl, h⟩ := h
      exact q_glob g h
    · cases h
  | .bin op a b, X, sc, raw, W, g, e, h => by
    unfold chkE at h
    split at h
    · simp only [Bool.and_eq_true, decide_eq_true_eq] at h
      obtain ⟨⟨⟨rfl, h1⟩, h2⟩, h3⟩ := h
      exact q_bin h1 (sE a g _ h2) (sE b g _ h3)
    · cases h
  | .neg a, X, sc, raw, W, g, e, h => by
    unfold chkE at h
    split at h
    · exact q_neg (sE a g _ h)
    · cases h
  | .cmp op a b, X, sc, raw, W, g, e, h => by
    unfold chkE at h
    split at h
    · simp only [Bool.and_eq_true, decide_eq_true_eq, Bool.not_eq_true'] at h
      obtain ⟨⟨⟨rfl, h1⟩, h2⟩, h3⟩ := h
      exact q_cmp g.hu h1 (sE a g _ h2) (sE b g _ h3)
    · cases h
  | .chain o1 o2 a b c, X, sc, raw, W, g, e, h => by
    unfold chkE at h
    split at h
    · simp only [Bool.and_eq_true, decide_eq_true_eq, Bool.not_eq_true'] at h
      obtain ⟨⟨⟨⟨⟨⟨rfl, rfl⟩, h1⟩, h2⟩, h3⟩, h4⟩, h5⟩ := h
      exact q_chain g.hu h2 (sE a g _ h3) (sE b g _ h4) (sE c g _ h5)
    · cases h
  | .and_ a b, X, sc, raw, W, g, e, h => by
    unfold chkE at h
    split at h
    · simp only [Bool.and_eq_true] at h
      exact q_and (sE a g _ h.1) (q_one (sE b g _ h.2))
    · simp only [Bool.and_eq_true] at h
      exact q_and (sE a g _ h.1) (sE b g _ h.2)
    · cases h
  | .or_ a b, X, sc, raw, W, g, e, h => by
    unfold chkE at h
    split at h
    · simp only [Bool.and_eq_true] at h
      exact q_or (sE a g _ h.1) (q_one (sE b g _ h.2))
    · simp only [Bool.and_eq_true] at h
      exact q_or (sE a g _ h.1) (sE b g _ h.2)
    · cases h
  | .not_ a, X, sc, raw, W, g, e, h => by
    unfold chkE at h
    split at h
    · exact q_not (sE a g _ h)
    · cases h
  | .ife c a b, X, sc, raw, W, g, e, h => by
    unfold chkE at h
    split at h
    · simp only [Bool.and_eq_true] at h
      exact q_ife (sT c g _ h.1.1).1 (sE a g _ h.1.2) (sE b g _ h.2)
    · cases h
  | .tup es, X, sc, raw, W, g, e, h => by
    unfold chkE at h
    split at h
    · exact q_tup (sEs es g _ h)
    · cases h
  | .lst es, X, sc, raw, W, g, e, h => by
    unfold chkE at h
    split at h
    · exact q_lst (sEs es g _ h)
    · cases h
  | .sub a i, X, sc, raw, W, g, e, h => by
    unfold chkE at h
    split at h
    · simp only [Bool.and_eq_true, Bool.not_eq_true'] at h
      exact q_sub h.1.1 (sE a g _ h.1.2) (sE i g _ h.2)
    · cases h
  | .slc a lo hi, X, sc, raw, W, g, e, h => by
    unfold chkE at h
    split at h
    · simp only [Bool.and_eq_true] at h
      exact q_slc (sE a g _ h.1.1) (sP lo g _ h.1.2) (sP hi g _ h.2)
    · cases h
  | .call f es, X, sc, raw, W, g, e, h => by
    unfold chkE at h
    split at h
    · rename_i gx p xs pos
      simp only [Bool.and_eq_true, decide_eq_true_eq] at h
      obtain ⟨⟨⟨rfl, h1⟩, h2⟩, h3⟩ := h
      cases xs with
      | nil =>
        cases es with
        | nil => exact q_call0 g h1 h2
        | cons a b => simp [chkEs] at h3
      | cons x xs => exact q_call g h1 h2 (chkEs_nostar h3) (sEs es g _ h3)
    · cases h
  | .callk f es ks ws, X, sc, raw, W, g, e, h => by
    unfold chkE at h
    split at h
    · rename_i gx p xs kws pos
      simp only [Bool.and_eq_true, decide_eq_true_eq] at h
      obtain ⟨⟨⟨⟨⟨⟨⟨rfl, h1⟩, h4⟩, h2⟩, h3⟩, h5⟩, h6⟩, h7⟩ := h
      refine q_callk g h2 h3 h1 (chkEs_nostar h4) h6 (sEs es g _ h4) (sKs ws g _ h7) (fun env st ds st' q => ?_) (fun env st ds st' q => ?_) (fun e => ?_)
      · rw [evEs_len q, chkEs_len h4]
      · rw [evEs_len q, chkEs_len h7]
        have := congrArg List.length h6
        simpa using this
      · subst e
        cases es with
        | nil => rfl
        | cons a b => simp [chkEs] at h4
    · cases h
  | .blt b es, X, sc, raw, W, g, e, h => by
    unfold chkE at h
    split at h
    · simp only [Bool.and_eq_true, decide_eq_true_eq] at h
      obtain ⟨⟨rfl, h1⟩, h2⟩ := h
      exact q_blt g b h1 (chkEs_nostar h2) (sEs es g _ h2)
    · cases h
  | .isi a t, X, sc, raw, W, g, e, h => by
    unfold chkE at h
    split at h
    · simp only [Bool.and_eq_true, decide_eq_true_eq, Bool.not_eq_true'] at h
      obtain ⟨⟨⟨⟨⟨rfl, h1⟩, rfl⟩, h2⟩, h3⟩, h4⟩ := h
      exact q_isi g t h1 h2 h3 (sE a g _ h4)
    · cases h
  | .meth mt o es, X, sc, raw, W, g, e, h => by
    unfold chkE at h
    split at h
    · simp only [Bool.and_eq_true, decide_eq_true_eq, Bool.not_eq_true'] at h
      obtain ⟨⟨⟨⟨⟨rfl, h1⟩, h2⟩, h3⟩, h4⟩, h5⟩ := h
      refine q_meth mt h1 h2 h3 (chkEs_nostar h5) (sE o g _ h4) (sEs es g _ h5) (fun e => ?_)
      subst e
      cases es with
      | nil => rfl
      | cons a b => simp [chkEs] at h5
    · cases h
  | .lc elt tg it cond own, X, sc, raw, W, g, e, h => by
    unfold chkE at h
    split at h
    · rename_i x tgt iter ifs kk scope pos
      simp only [Bool.and_eq_true, Bool.not_eq_true', beq_iff_eq] at h
      obtain ⟨⟨⟨⟨⟨⟨⟨rfl, h1⟩, h2⟩, h3⟩, h4⟩, h5⟩, h6⟩, h7⟩ := h
      have ow : (ownP X.N own).map (·.2) = own := by
        unfold ownP
        rw [List.map_map]
        exact List.map_id'' (fun _ => rfl) own
      have key := pe_lc (X := X) (own := ownP X.N own) (pos := pos) (wi := LfI X W (evI T G (callF T G k) it)) (g := LgT X tg (setT T G (callF T G k) tg)) (tt := LfT X W0 (evC T G (callF T G k) cond)) (te := LfE X W0 (evE T G (callF T G k) elt)) g.calm g.nd (sI it g iter _ h4) (blkOk_by (by rw [g.scope]; exact h2))
        (fun s H C cl fp => sTg tg (g.blk s H scope cl C fp) tgt h5) (fun s H C cl fp => sC cond (g.blk s H scope cl C fp) ifs h6) (fun s H C cl fp => sE elt (g.blk s H scope cl C fp) x h7) (folded_no h1)
      rw [ow] at key
      exact PE.weak key (lc_weak h3)
    · cases h
theorem sT : ∀ (c : CE) {X : Cx} {sc raw : Scope} {W : WX} (g : Good T G KW k X sc raw W) (e : Expr), chkT X.N KW sc raw c e = true → PT X e (LfT X W (tst (evE T G (callF T G k) c))) ∧ ∀ op vs pos, e = .BoolOp op vs pos → PW X e (LfT X W (tst (evE T G (callF T G k) c)))
  | .not_ a, X, sc, raw, W, g, e, h => by
    unfold chkT at h
    split at h
    · exact ⟨qt_not (sT a g _ h).1, fun _ _ _ e => nomatch e⟩
    · cases h
  | .and_ a b, X, sc, raw, W, g, e, h => by
    unfold chkT at h
    split at h
    · rename_i x y pos
      simp only [Bool.and_eq_true] at h
      have q : PW X (.BoolOp .And [x, y] pos) _ := qw_and (sT a g _ h.1).1 (qw_and1 (sT b g _ h.2).1)
      exact ⟨PW.pt q, fun _ _ _ _ => q⟩
    · rename_i x y z r pos
      simp only [Bool.and_eq_true] at h
      have q : PW X (.BoolOp .And (x :: y :: z :: r) pos) _ := qw_and (sT a g _ h.1).1 ((sT b g _ h.2).2 _ _ _ rfl)
      exact ⟨PW.pt q, fun _ _ _ _ => q⟩
    · cases h
  | .or_ a b, X, sc, raw, W, g, e, h => by
    unfold chkT at h
    split at h
    · rename_i x y pos
      simp only [Bool.and_eq_true] at h
      have q : PW X (.BoolOp .Or [x, y] pos) _ := qw_or (sT a g _ h.1).1 (qw_or1 (sT b g _ h.2).1)
      exact ⟨PW.pt q, fun _ _ _ _ => q⟩
    · rename_i x y z r pos
      simp only [Bool.and_eq_true] at h
      have q : PW X (.BoolOp .Or (x :: y :: z :: r) pos) _ := qw_or (sT a g _ h.1).1 ((sT b g _ h.2).2 _ _ _ rfl)
      exact ⟨PW.pt q, fun _ _ _ _ => q⟩
    · cases h
  | .cmp op a b, X, sc, raw, W, g, e, h => by
    unfold chkT at h
    split at h
    · simp only [Bool.and_eq_true, decide_eq_true_eq, Bool.not_eq_true'] at h
      obtain ⟨⟨⟨rfl, h1⟩, h2⟩, h3⟩ := h
      exact ⟨qt_cmp g.hu h1 (sE a g _ h2) (sE b g _ h3), fun _ _ _ e => nomatch e⟩
    · cases h
  | .chain o1 o2 a b c, X, sc, raw, W, g, e, h => by
    unfold chkT at h
    split at h
    · simp only [Bool.and_eq_true, decide_eq_true_eq, Bool.not_eq_true'] at h
      obtain ⟨⟨⟨⟨⟨⟨rfl, rfl⟩, h1⟩, h2⟩, h3⟩, h4⟩, h5⟩ := h
      exact ⟨qt_chain g.hu h2 (sE a g _ h3) (sE b g _ h4) (sE c g _ h5), fun _ _ _ e => nomatch e⟩
    · cases h
  | .var i, X, sc, raw, W, g, e, h => by
    have h := chkT_var _ _ h
    simp only [Bool.and_eq_true] at h
    have h2 := h.2
    unfold chkE at h2
    split at h2
    · simp only [Bool.and_eq_true, decide_eq_true_eq, Bool.not_eq_true'] at h2
      exact ⟨qt_val (fun whole => rfl) (q_var g h2.1.1 h2.1.2 h2.2), fun _ _ _ e => nomatch e⟩
    · cases h2
  | .lit l, X, sc, raw, W, g, e, h => by
    have h := chkT_lit _ _ h
    simp only [Bool.and_eq_true] at h
    refine ⟨qt_val (plain_true h.1) (q_lit h.2), fun op vs pos e => ?_⟩
    subst e
    exact absurd h.1 (by simp [plainT])
  | .sub a i, X, sc, raw, W, g, e, h => by
    unfold chkT at h
    split at h
    · simp only [Bool.and_eq_true, Bool.not_eq_true'] at h
      exact ⟨qt_val (fun whole => rfl) (q_sub h.1.1 (sE a g _ h.1.2) (sE i g _ h.2)), fun _ _ _ e => nomatch e⟩
    · cases h
  | .call f es, X, sc, raw, W, g, e, h => by
    unfold chkT at h
    split at h
    · rename_i gx p xs pos
      simp only [Bool.and_eq_true, decide_eq_true_eq] at h
      obtain ⟨⟨⟨rfl, h1⟩, h2⟩, h3⟩ := h
      cases xs with
      | nil =>
        cases es with
        | nil => exact ⟨qt_val (fun whole => rfl) (q_call0 g h1 h2), fun _ _ _ e => nomatch e⟩
        | cons a b => simp [chkEs] at h3
      | cons x xs => exact ⟨qt_val (fun whole => rfl) (q_call g h1 h2 (chkEs_nostar h3) (sEs es g _ h3)), fun _ _ _ e => nomatch e⟩
    · cases h
  | .callk f es ks ws, X, sc, raw, W, g, e, h => by
    unfold chkT at h
    split at h
    · rename_i gx p xs kws pos
      simp only [Bool.and_eq_true, decide_eq_true_eq] at h
      obtain ⟨⟨⟨⟨⟨⟨⟨rfl, h1⟩, h4⟩, h2⟩, h3⟩, h5⟩, h6⟩, h7⟩ := h
      refine ⟨qt_val (fun whole => rfl) (?_ : PE X _ (LfE X W (evE T G (callF T G k) (.callk f es ks ws)))), fun _ _ _ e => nomatch e⟩
      refine q_callk g h2 h3 h1 (chkEs_nostar h4) h6 (sEs es g _ h4) (sKs ws g _ h7) (fun env st ds st' q => ?_) (fun env st ds st' q => ?_) (fun e => ?_)
      · rw [evEs_len q, chkEs_len h4]
      · rw [evEs_len q, chkEs_len h7]
        have := congrArg List.length h6
        simpa using this
      · subst e
        cases es with
        | nil => rfl
        | cons a b => simp [chkEs] at h4
    · cases h
  | .blt b es, X, sc, raw, W, g, e, h => by
    unfold chkT at h
    split at h
    · simp only [Bool.and_eq_true, decide_eq_true_eq] at h
      obtain ⟨⟨rfl, h1⟩, h2⟩ := h
      exact ⟨qt_val (fun whole => rfl) (q_blt g b h1 (chkEs_nostar h2) (sEs es g _ h2)), fun _ _ _ e => nomatch e⟩
    · cases h
  | .isi a t, X, sc, raw, W, g, e, h => by
    unfold chkT at h
    split at h
    · simp only [Bool.and_eq_true, decide_eq_true_eq, Bool.not_eq_true'] at h
      obtain ⟨⟨⟨⟨⟨rfl, h1⟩, rfl⟩, h2⟩, h3⟩, h4⟩ := h
      exact ⟨qt_val (fun whole => rfl) (q_isi g t h1 h2 h3 (sE a g _ h4)), fun _ _ _ e => nomatch e⟩
    · cases h
  | .glob x, X, sc, raw, W, g, e, h => by simp [chkT] at h
  | .bin op a b, X, sc, raw, W, g, e, h => by simp [chkT] at h
  | .neg a, X, sc, raw, W, g, e, h => by simp [chkT] at h
  | .ife c a b, X, sc, raw, W, g, e, h => by simp [chkT] at h
  | .tup es, X, sc, raw, W, g, e, h => by simp [chkT] at h
  | .lst es, X, sc, raw, W, g, e, h => by simp [chkT] at h
  | .slc a lo hi, X, sc, raw, W, g, e, h => by simp [chkT] at h
  | .meth mt o es, X, sc, raw, W, g, e, h => by simp [chkT] at h
  | .lc elt tg it cond own, X, sc, raw, W, g, e, h => by simp [chkT] at h
theorem sEs : ∀ (c : CEs) {X : Cx} {sc raw : Scope} {W : WX} (g : Good T G KW k X sc raw W) (e : List Expr), chkEs X.N KW sc raw c e = true → PA X e (LfA X W (evEs T G (callF T G k) c))
  | .nil, X, sc, raw, W, g, e, h => by
    cases e with
    | nil => exact qa_nil
    | cons a b => simp [chkEs] at h
  | .cons c cs, X, sc, raw, W, g, e, h => by
    cases e with
    | nil => simp [chkEs] at h
    | cons a b =>
      simp only [chkEs, Bool.and_eq_true, Bool.not_eq_true'] at h
      exact qa_cons h.1.1 (sE c g _ h.1.2) (sEs cs g _ h.2)
theorem sKs : ∀ (c : CEs) {X : Cx} {sc raw : Scope} {W : WX} (g : Good T G KW k X sc raw W) (e : List Keyword), chkEs X.N KW sc raw c (e.map (·.value)) = true → PK X e (LfA X W (evEs T G (callF T G k) c))
  | .nil, X, sc, raw, W, g, e, h => by
    cases e with
    | nil => exact qk_nil
    | cons a b => simp [chkEs] at h
  | .cons c cs, X, sc, raw, W, g, e, h => by
    cases e with
    | nil => simp [chkEs] at h
    | cons a b =>
      simp only [List.map_cons, chkEs, Bool.and_eq_true, Bool.not_eq_true'] at h
      obtain ⟨nm, v, p⟩ := a
      exact qk_cons (sE c g _ h.1.2) (sKs cs g _ h.2)
theorem sP : ∀ (c : Pt) {X : Cx} {sc raw : Scope} {W : WX} (g : Good T G KW k X sc raw W) (e : Option Expr), chkP X.N KW sc raw c e = true → PO X e (LfP X W (evP T G (callF T G k) c))
  | .none, X, sc, raw, W, g, e, h => by
    cases e with
    | none => exact q_nopart
    | some a => simp [chkP] at h
  | .some c, X, sc, raw, W, g, e, h => by
    cases e with
    | none => simp [chkP] at h
    | some a => exact q_part (sE c g _ (by unfold chkP at h; exact h))
theorem sC : ∀ (c : Pt) {X : Cx} {sc raw : Scope} {W : WX} (g : Good T G KW k X sc raw W) (e : List Expr), chkC X.N KW sc raw c e = true → PTs X e (LfT X W (evC T G (callF T G k) c))
  | .none, X, sc, raw, W, g, e, h => by
    cases e with
    | nil =>
      refine PTs.weak pts_nil ?_
      rintro σ H Q ⟨m, env, st, S, E, h⟩
      exact Res.pure S h true rfl
    | cons a b => simp [chkC] at h
  | .some c, X, sc, raw, W, g, e, h => by
    unfold chkC at h
    split at h
    · exact pts_one (sT c g _ h).1
    · cases h
theorem sI : ∀ (c : Itr) {X : Cx} {sc raw : Scope} {W : WX} (g : Good T G KW k X sc raw W) (e tg : Expr), chkI X.N KW sc raw c e (isTup tg) = true → PI X tg e (LfI X W (evI T G (callF T G k) c))
  | .seq c, X, sc, raw, W, g, e, tg, h => pi_seq (sE c g _ (by unfold chkI at h; exact h))
  | .rng1 a, X, sc, raw, W, g, e, tg, h => by
    unfold chkI at h
    split at h
    · simp only [Bool.and_eq_true, decide_eq_true_eq, Bool.not_eq_true'] at h
      obtain ⟨⟨⟨rfl, h1⟩, h2⟩, h3⟩ := h
      exact pi_rng1 (g.gl h1).1 (g.bltn (by decide +kernel)) h2 (sE a g _ h3)
    · cases h
  | .rng2 a b, X, sc, raw, W, g, e, tg, h => by
    unfold chkI at h
    split at h
    · simp only [Bool.and_eq_true, decide_eq_true_eq, Bool.not_eq_true'] at h
      obtain ⟨⟨⟨⟨⟨rfl, h1⟩, h2⟩, h3⟩, h4⟩, h5⟩ := h
      exact pi_rng2 (g.gl h1).1 (g.bltn (by decide +kernel)) h2 h3 (sE a g _ h4) (sE b g _ h5)
    · cases h
  | .enum a, X, sc, raw, W, g, e, tg, h => by
    unfold chkI at h
    split at h
    · simp only [Bool.and_eq_true, decide_eq_true_eq, Bool.not_eq_true'] at h
      obtain ⟨⟨⟨⟨h0, rfl⟩, h1⟩, h2⟩, h3⟩ := h
      cases tg with
      | Tuple elts kk tpos => exact pi_enm (g.gl h1).1 (g.bltn (by decide +kernel)) h2 (sE a g _ h3)
      | _ => cases h0
    · cases h
  | .zip a b, X, sc, raw, W, g, e, tg, h => by
    unfold chkI at h
    split at h
    · simp only [Bool.and_eq_true, decide_eq_true_eq, Bool.not_eq_true'] at h
      obtain ⟨⟨⟨⟨⟨⟨h0, rfl⟩, h1⟩, h2⟩, h3⟩, h4⟩, h5⟩ := h
      cases tg with
      | Tuple elts kk tpos => exact pi_zp (g.gl h1).1 (g.bltn (by decide +kernel)) h2 h3 (sE a g _ h4) (sE b g _ h5)
      | _ => cases h0
    · cases h
theorem sTg : ∀ (c : Tg) {X : Cx} {sc raw : Scope} {W : WX} (g : Good T G KW k X sc raw W) (e : Expr), chkTg X.N KW sc raw c e = true → PG X e (LgT X c (setT T G (callF T G k) c))
  | .nm i, X, sc, raw, W, g, e, h => by
    unfold chkTg at h
    split at h
    · simp only [Bool.and_eq_true, decide_eq_true_eq] at h
      exact qg_nm g h.1 h.2
    · cases h
  | .tp ts, X, sc, raw, W, g, e, h => by
    unfold chkTg at h
    split at h
    · obtain ⟨h1, h2⟩ := chkTgs_len h
      obtain ⟨h3, h4⟩ := assign_plain (env := X.env) h2
      exact qg_tp g.calm (sTgs ts g _ h) h3 h4 (fun ds env st env' st' q => by rw [setTs_len q, h1])
    · cases h
  | .sb a i, X, sc, raw, W, g, e, h => by
    unfold chkTg at h
    split at h
    · simp only [Bool.and_eq_true, Bool.not_eq_true'] at h
      exact qg_sb h.1.1 (sE a g _ h.1.2) (sE i g _ h.2)
    · cases h
theorem sTgs : ∀ (c : Tgs) {X : Cx} {sc raw : Scope} {W : WX} (g : Good T G KW k X sc raw W) (e : List Expr), chkTgs X.N KW sc raw c e = true → PGs X e (LgTs X c (setTs T G (callF T G k) c))
  | .nil, X, sc, raw, W, g, e, h => by
    cases e with
    | nil => exact qgs_nil
    | cons a b => simp [chkTgs] at h
  | .cons t ts, X, sc, raw, W, g, e, h => by
    cases e with
    | nil => simp [chkTgs] at h
    | cons a b =>
      simp only [chkTgs, Bool.and_eq_true, Bool.not_eq_true'] at h
      exact qgs_cons (sTg t g _ h.1.2) (sTgs ts g _ h.2) (by rw [assign_cons h.1.1]; rfl)
end
end
end Ab

set_option Elab.async false
set_option linter.all false
set_option autoImplicit false
set_option maxRecDepth 10000
/-! AbStmt: statements do what the small language says. -/
namespace Ab
open PySem PySem.Spec PyProof.Rows L2

/-- a statement's result, its end wanted -/
def RRes (X : Cx) (W : WX) (m : List Addr) (H : Hp) (st : Sto) (r : RS) (D : Ends) : Prop :=
  match r with
  | .nx env st' => ∀ m' H' σ', Grow m H st m' H' st' → StOk X.K X.mg m' H' st' → EnOk X.K X.mg m' H' σ' env → D.nx σ' H'
  | .rt d st' => ∀ m' H' v, Grow m H st m' H' st' → StOk X.K X.mg m' H' st' → Den X.K X.mg m' H' d v → D.rt v H'
  | .bk env st' => ∀ m' H' σ', Grow m H st m' H' st' → StOk X.K X.mg m' H' st' → EnOk X.K X.mg m' H' σ' env → D.bk σ' H'
  | .ct env st' => ∀ m' H' σ', Grow m H st m' H' st' → StOk X.K X.mg m' H' st' → EnOk X.K X.mg m' H' σ' env → D.ct σ' H'
  | .ex x env st' => ∀ m' H' σ' cls d, Grow m H st m' H' st' → StOk X.K X.mg m' H' st' → EnOk X.K X.mg m' H' σ' env → XR X.K X.mg m' H' x cls d → W cls d σ' H'
  | .bad => False
def LfS (X : Cx) (W : WX) (f : En → Sto → RS) : TS := fun D σ H => ∃ m env st, StOk X.K X.mg m H st ∧ EnOk X.K X.mg m H σ env ∧ RRes X W m H st (f env st) D
section
variable {X : Cx} {W : WX} {m m1 : List Addr} {H H1 : Hp} {st st1 : Sto}
theorem RRes.from {r : RS} {D : Ends} (h : RRes X W m H st r D) (g : Grow m H st m1 H1 st1) : RRes X W m1 H1 st1 r D := by
  cases r with
  | nx env st' => exact fun m' H' σ' g' S' E' => h m' H' σ' (g.trans g') S' E'
  | rt d st' => exact fun m' H' v g' S' hv => h m' H' v (g.trans g') S' hv
  | bk env st' => exact fun m' H' σ' g' S' E' => h m' H' σ' (g.trans g') S' E'
  | ct env st' => exact fun m' H' σ' g' S' E' => h m' H' σ' (g.trans g') S' E'
  | ex x env st' => exact fun m' H' σ' cls d g' S' E' hx => h m' H' σ' cls d (g.trans g') S' E' hx
  | bad => exact h
/-- a result taken further -/
theorem Lf.ofS {α β : Type} {f : En → Sto → R α} {rel : α → List Addr → Hp → β → Prop} {σ : L2.St} {env : En} {k : α → Sto → RS} {D : Ends} {B : β → Hp → Prop}
    (S : StOk X.K X.mg m H st) (E : EnOk X.K X.mg m H σ env) (h : RRes X W m H st (RS.of env (f env st) k) D)
    (nx : ∀ a m1 H1 st1 b, Grow m H st m1 H1 st1 → StOk X.K X.mg m1 H1 st1 → EnOk X.K X.mg m1 H1 σ env → rel a m1 H1 b → RRes X W m1 H1 st1 (k a st1) D → B b H1) : Lf X W f rel σ H B := by
  refine ⟨m, env, st, S, E, ?_⟩
  cases q : f env st with
  | ok a st1 =>
    rw [q] at h
    intro m1 H1 g1 S1 b hb
    exact nx a m1 H1 st1 b g1 S1 (E.grow S g1) hb (RRes.from h g1)
  | ex x st1 =>
    rw [q] at h
    exact fun m' H' cls d g' S' hx => h m' H' σ cls d g' S' (E.grow S g') hx
  | bad => rw [q] at h; exact h.elim

/-! ### small statements -/
variable {e : Expr} {f : En → Sto → R D} {pos : Pos}
theorem s_expr (hs : swapsWith e none pos.line X.env = pure false) (he : PE X e (LfE X W f)) : PS X (.Expr e pos) (LfS X W fun env st => RS.of env (f env st) fun _ st1 => .nx env st1) := by
  refine PS.weak (ps_expr he hs) ?_
  rintro D σ H ⟨m, env, st, S, E, h⟩
  exact Lf.ofS S E h fun d m1 H1 st1 v g1 S1 E1 hv h => h m1 H1 σ Grow.refl S1 E1
theorem s_ret (he : PE X e (LfE X W f)) : PS X (.Return (some e) pos) (LfS X W fun env st => RS.of env (f env st) fun d st1 => .rt d st1) := by
  refine PS.weak (ps_ret he) ?_
  rintro D σ H ⟨m, env, st, S, E, h⟩
  exact Lf.ofS S E h fun d m1 H1 st1 v g1 S1 E1 hv h => h m1 H1 v Grow.refl S1 hv
theorem s_retN : PS X (.Return none pos) (LfS X W fun _ st => .rt .non st) := by
  refine PS.weak ps_retN ?_
  rintro D σ H ⟨m, env, st, S, E, h⟩
  exact h m H .non Grow.refl S rfl
theorem s_pass : PS X (.Pass pos) (LfS X W fun env st => .nx env st) := by
  refine PS.weak ps_pass ?_
  rintro D σ H ⟨m, env, st, S, E, h⟩
  exact h m H σ Grow.refl S E
theorem s_never {s : Stmt} : PS X s (LfS X W fun _ _ => .bad) := by
  refine PS.weak ps_never ?_
  rintro D σ H ⟨m, env, st, S, E, h⟩
  exact h
theorem s_ife {c : Expr} {a b : List Stmt} {fc : En → Sto → R Bool} {fa fb : En → Sto → RS} (hc : PT X c (LfT X W fc)) (ha : PSs X a (LfS X W fa)) (hb : PSs X b (LfS X W fb)) : PS X (.If c a b pos) (LfS X W fun env st => RS.of env (fc env st) fun k st1 => if k = true then fa env st1 else fb env st1) := by
  refine PS.weak (ps_if hc ha hb) ?_
  rintro D σ H ⟨m, env, st, S, E, h⟩
  refine Lf.ofS S E h fun k m1 H1 st1 b g1 S1 E1 hb h => ?_
  subst hb
  cases b with
  | true => exact ⟨m1, env, st1, S1, E1, h⟩
  | false => exact ⟨m1, env, st1, S1, E1, h⟩
theorem ss_nil : PSs X [] (LfS X W fun env st => .nx env st) := by
  refine PSs.weak pss_nil ?_
  rintro D σ H ⟨m, env, st, S, E, h⟩
  exact h m H σ Grow.refl S E
theorem ss_cons {s : Stmt} {r : List Stmt} {f g : En → Sto → RS} (h1 : PS X s (LfS X W f)) (h2 : PSs X r (LfS X W g)) : PSs X (s :: r) (LfS X W fun env st => (f env st).andThen g) := by
  refine PSs.weak (pss_cons h1 h2) ?_
  rintro D σ H ⟨m, env, st, S, E, h⟩
  refine ⟨m, env, st, S, E, ?_⟩
  have h : RRes X W m H st ((f env st).andThen g) D := h
  cases q : f env st with
  | nx env1 st1 =>
    rw [q] at h
    exact fun m1 H1 σ1 g1 S1 E1 => ⟨m1, env1, st1, S1, E1, RRes.from h g1⟩
  | rt d st1 => rw [q] at h; exact h
  | bk env1 st1 => rw [q] at h; exact h
  | ct env1 st1 => rw [q] at h; exact h
  | ex x env1 st1 => rw [q] at h; exact h
  | bad => rw [q] at h; exact h.elim
/-- target = value -/
theorem s_asg {tg : Expr} {t : Tg} {ft : D → En → Sto → R En} (hs : swapsWithSole [tg] e pos.line X.env = pure false) (hw : swappedStores [tg] e X.env = pure none) (h1 : (assignEach [tg] X.env).map (·.2) = [assign tg X.env]) (he : PE X e (LfE X W f)) (hg : PG X tg (LgT X t ft))
    (hx : ∀ d env st, (ft d env st).plain) : PS X (.Assign [tg] e pos) (LfS X W fun env st => RS.of env (f env st) fun d st1 => RS.of env (ft d env st1) fun env1 st2 => .nx env1 st2) := by
  refine PS.weak (ps_asg he hg hs hw h1) ?_
  rintro D σ H ⟨m, env, st, S, E, h⟩
  refine Lf.ofS S E h fun d m1 H1 st1 v g1 S1 E1 hv h => ?_
  cases q : ft d env st1 with
  | ok env2 st2 =>
    rw [q] at h
    exact ⟨m1, env, st1, d, env2, st2, S1, E1, hv, q, fun m' H' σ' g' S' E' _ => h m' H' σ' g' S' E'⟩
  | ex x st2 =>
    have := hx d env st1
    rw [q] at this
    exact this.elim
  | bad => rw [q] at h; exact h.elim

/-! ### loops -/
theorem bk_eta {D : Ends} : True := trivial
section
variable {fT : D → En → Sto → R En} {fb : En → Sto → RS} {fI : En → Sto → R Src} {fc : En → Sto → R Bool} {t : Tg} {tg iter c : Expr} {body : List Stmt}
theorem s_for (hp : PassesOwn (model X.prog X.w) X.A X.env X.xe) (hc : X.calm = true) (hs : isSet iter = false) (hi : PI X tg iter (LfI X W fI)) (hg : PG X tg (LgT X t fT)) (hx : ∀ d env st, (fT d env st).plain) (hb : PSs X body (LfS X W fb)) :
    PS X (.For tg iter body [] pos) (LfS X W fun env st => RS.of env (fI env st) fun s st1 => forLoop s fT fb s.items env st1) := by
  refine PS.weak (ps_for hp hc hi hg hb (folded_no hs)) ?_
  rintro D σ H ⟨m, env, st, S, E, h⟩
  have h : RRes X W m H st (RS.of env (fI env st) fun s st1 => forLoop s fT fb s.items env st1) D := h
  cases q : fI env st with
  | bad => rw [q] at h; exact h.elim
  | ex x st1 =>
    refine ⟨m, env, st, S, E, ?_⟩
    rw [q] at h ⊢
    exact fun m' H' cls d g' S' hx => h m' H' σ cls d g' S' (E.grow S g') hx
  | ok s st1 =>
    rw [q] at h
    refine ⟨m, env, st, S, E, ?_⟩
    rw [q]
    intro m1 H1 g1 S1 J hJ
    have h : RRes X W m1 H1 st1 (forLoop s fT fb s.items env st1) D := RRes.from h g1
    refine ⟨fun i μ σc Hc => μ = s.items.length - i ∧ i ≤ s.items.length ∧ ∃ mc envc stc, Grow m1 H1 st1 mc Hc stc ∧ StOk X.K X.mg mc Hc stc ∧ EnOk X.K X.mg mc Hc σc envc ∧ RRes X W mc Hc stc (forLoop s fT fb (s.items.drop i) envc stc) D,
      ⟨s.items.length, by simp, Nat.zero_le _, m1, env, st1, Grow.refl, S1, E.grow S g1, by simpa using h⟩, ?_⟩
    rintro i μ σc Hc ⟨rfl, hi, mc, envc, stc, gc, Sc, Ec, hl⟩
    have hst : s.still stc := by
      cases ql : s.items.drop i with
      | nil =>
        rw [ql] at hl
        unfold forLoop at hl
        by_cases hst : s.still stc
        · exact hst
        · rw [if_neg hst] at hl; exact hl.elim
      | cons d ds =>
        rw [ql] at hl
        unfold forLoop at hl
        by_cases hst : s.still stc
        · exact hst
        · rw [if_neg hst] at hl; exact hl.elim
    obtain ⟨go, stop, yl⟩ := hJ mc Hc stc gc Sc hst
    by_cases hlt : i < s.items.length
    · rw [List.drop_eq_getElem_cons hlt] at hl
      unfold forLoop at hl
      rw [if_pos hst] at hl
      refine .inr ⟨go i hlt, fun σn Hn => i + 1 ≤ s.items.length ∧ ∃ mc envc stc, Grow m1 H1 st1 mc Hn stc ∧ StOk X.K X.mg mc Hn stc ∧ EnOk X.K X.mg mc Hn σn envc ∧ RRes X W mc Hn stc (forLoop s fT fb (s.items.drop (i + 1)) envc stc) D,
        fun σ' H' hN => ⟨s.items.length - (i + 1), by omega, rfl, hN⟩, fun x H' hy => ?_⟩
      obtain ⟨g2, S2, d, hd, hdx⟩ := yl i x H' hlt hy
      have ed : s.items[i] = d := by
        rw [List.getElem?_eq_getElem hlt] at hd
        exact Option.some.inj hd
      rw [ed] at hl
      cases q3 : fT d envc stc with
      | bad => rw [q3] at hl; exact hl.elim
      | ex x st3 =>
        have := hx d envc stc
        rw [q3] at this
        exact this.elim
      | ok env2 st3 =>
        rw [q3] at hl
        refine ⟨mc, envc, stc, d, env2, st3, S2, Ec.grow Sc g2, hdx, q3, fun m3 H3 σ3 g3 S3 E3 w3 => ⟨m3, env2, st3, S3, E3, ?_⟩⟩
        have hl : RRes X W mc Hc stc (match fb env2 st3 with
          | .nx env2 st2 => forLoop s fT fb (s.items.drop (i + 1)) env2 st2
          | .ct env2 st2 => forLoop s fT fb (s.items.drop (i + 1)) env2 st2
          | .bk env2 st2 => .nx env2 st2
          | r => r) D := hl
        have G3 := g2.trans g3
        cases q4 : fb env2 st3 with
        | nx env4 st4 =>
          rw [q4] at hl
          exact fun m' H' σ' g' S' E' => ⟨hlt, m', env4, st4, gc.trans (G3.trans g'), S', E', RRes.from hl (G3.trans g')⟩
        | ct env4 st4 =>
          rw [q4] at hl
          exact fun m' H' σ' g' S' E' => ⟨hlt, m', env4, st4, gc.trans (G3.trans g'), S', E', RRes.from hl (G3.trans g')⟩
        | bk env4 st4 =>
          rw [q4] at hl
          exact fun m' H' σ' g' S' E' => hl m' H' σ' (G3.trans g') S' E'
        | rt d st4 =>
          rw [q4] at hl
          exact fun m' H' v g' S' hv => hl m' H' v (G3.trans g') S' hv
        | ex x env4 st4 =>
          rw [q4] at hl
          exact fun m' H' σ' cls d g' S' E' hx => hl m' H' σ' cls d (G3.trans g') S' E' hx
        | bad => rw [q4] at hl; exact hl.elim
    · have e : i = s.items.length := by omega
      subst e
      rw [List.drop_length] at hl
      unfold forLoop at hl
      rw [if_pos hst] at hl
      exact .inl ⟨stop, hl mc Hc σc Grow.refl Sc Ec⟩
theorem s_while (hp : PassesOwn (model X.prog X.w) X.A X.env X.xe) (hc : PT X c (LfT X W fc)) (hb : PSs X body (LfS X W fb)) : PS X (.While c body [] pos) (LfS X W fun env st => whileLoop fc fb turns env st) := by
  refine PS.weak (ps_while hp hc hb) ?_
  rintro D σ H ⟨m, env, st, S, E, h⟩
  refine ⟨fun μ σc Hc => ∃ mc envc stc, StOk X.K X.mg mc Hc stc ∧ EnOk X.K X.mg mc Hc σc envc ∧ RRes X W mc Hc stc (whileLoop fc fb μ envc stc) D, ⟨turns, m, env, st, S, E, h⟩, ?_⟩
  rintro μ σc Hc ⟨mc, envc, stc, Sc, Ec, hl⟩
  cases μ with
  | zero => exact hl.elim
  | succ μ =>
    unfold whileLoop at hl
    refine Lf.ofS Sc Ec hl fun k m1 H1 st1 b g1 S1 E1 hb hl => ?_
    subst hb
    cases b with
    | false =>
      rw [if_neg Bool.false_ne_true] at hl
      exact hl m1 H1 σc Grow.refl S1 E1
    | true =>
      rw [if_pos rfl] at hl
      refine ⟨fun σn Hn => ∃ mc envc stc, StOk X.K X.mg mc Hn stc ∧ EnOk X.K X.mg mc Hn σn envc ∧ RRes X W mc Hn stc (whileLoop fc fb μ envc stc) D, fun σ' H' hN => ⟨μ, Nat.lt_succ_self _, hN⟩, m1, envc, st1, S1, E1, ?_⟩
      cases q4 : fb envc st1 with
      | nx env4 st4 =>
        rw [q4] at hl
        exact fun m' H' σ' g' S' E' => ⟨m', env4, st4, S', E', RRes.from hl g'⟩
      | ct env4 st4 =>
        rw [q4] at hl
        exact fun m' H' σ' g' S' E' => ⟨m', env4, st4, S', E', RRes.from hl g'⟩
      | bk env4 st4 =>
        rw [q4] at hl
        exact fun m' H' σ' g' S' E' => hl m' H' σ' g' S' E'
      | rt d st4 =>
        rw [q4] at hl
        exact hl
      | ex x env4 st4 =>
        rw [q4] at hl
        exact hl
      | bad => rw [q4] at hl; exact hl.elim
end

/-! ### stores in parallel -/
theorem plain_bind {α β : Type} {r : R α} {k : α → Sto → R β} (h : r.plain) (hk : ∀ a st, (k a st).plain) : (r.bind k).plain := by
  cases r with
  | ok a st => exact hk a st
  | ex x st => exact h.elim
  | bad => trivial
theorem plain_noex {α : Type} {r : R α} : r.noex.plain := by cases r <;> trivial
theorem plain_set {d i v : Ab.D} {st : Sto} : (setD d i v st).plain := by
  unfold setD
  split
  · split
    · split <;> trivial
    · trivial
  · trivial
section
variable {T : Tab} {G : Gb} {F : Str → List Ab.D → Sto → R Ab.D}
mutual
theorem setT_plain : ∀ (t : Tg) (d : Ab.D) (env : En) (st : Sto), (setT T G F t d env st).plain
  | .nm i, d, env, st => trivial
  | .tp ts, d, env, st => by
    cases d with
    | tup ds => exact setTs_plain ts ds env st
    | _ => trivial
  | .sb a i, d, env, st => plain_bind plain_noex fun _ _ => plain_bind plain_noex fun _ _ => plain_bind plain_set fun _ _ => trivial
theorem setTs_plain : ∀ (t : Tgs) (d : List Ab.D) (env : En) (st : Sto), (setTs T G F t d env st).plain
  | .nil, d, env, st => by cases d <;> trivial
  | .cons t ts, d, env, st => by
    cases d with
    | nil => trivial
    | cons d ds => exact plain_bind (setT_plain t d env st) fun _ _ => setTs_plain ts ds _ _
end
end
end
end Ab

set_option Elab.async false
set_option linter.all false
set_option autoImplicit false
set_option maxRecDepth 10000
/-! AbSwap: stores that are exchanged, or not. -/
namespace Ab
open PySem PySem.Spec PyProof.Rows L2

theorem block_fn {env : Env} (hk : env.scope.kind = .function) : env.blockKind = .function := by
  unfold Env.blockKind
  rw [hk]
  rfl
theorem sw_false {v t : Expr} {l : Nat} {env : Env} (h : isComp v = false) : swapsWith v (some t) l env = pure false := by
  cases v <;> first | rfl | cases h
theorem sw_none {v : Expr} {l : Nat} {env : Env} (h : isComp v = false) : swapsWith v none l env = pure false := by
  cases v <;> first | rfl | cases h
theorem sw_other {v t : Expr} {l : Nat} {env : Env} (h : ∀ x p, t ≠ .Name x p) : swapsWith v (some t) l env = pure false := by
  cases v <;> cases t <;> first | rfl | exact absurd rfl (h _ _)
theorem sw_name {elt : Expr} {gs : List Comprehension} {scope sc : Scope} {pos py : Pos} {y : Str} {l : Nat} {env : Env} (hk : env.scope.kind = .function) (hsc : env.scope = sc) (h : swapLc sc y py (.ListComp elt gs scope pos) = false) : swapsWith (.ListComp elt gs scope pos) (some (.Name y py)) l env = pure false := by
  have hb := block_fn hk
  unfold swapsWith
  have ky : env.kindOf y = sc.names.lookup y := by rw [← hsc]; rfl
  simp only [hb, ky, Expr.pos]
  unfold swapLc at h
  simp only [Bool.and_eq_false_iff, decide_eq_false_iff_not, Bool.not_eq_false'] at h
  congr 1
  rcases h with (h | h) | h
  · have e : (sc.names.lookup y == some NameKind.local) = false := by
      rw [beq_eq_false_iff_ne]
      exact h
    rw [e]
    simp
  · rw [h]
    simp
  · rw [h]
    simp
theorem swap_none {t v : Expr} {env : Env} {sc : Scope} (hk : env.scope.kind = .function) (hsc : env.scope = sc) (h : swapNo sc t v = true) : swappedStores [t] v env = pure none := by
  have hb := block_fn hk
  cases t with
  | Tuple ts n p =>
    cases v with
    | Tuple vs n' p' =>
      unfold swappedStores
      simp only [hb]
      unfold swapNo at h
      simp only [Bool.or_eq_true, Bool.and_eq_true] at h
      by_cases h1 : (!(ts.length == 2 || ts.length == 3) || vs.length != ts.length || (ScopeKind.function != ScopeKind.function)) = true
      · rw [if_pos h1]
      · rw [if_neg h1]
        rcases h with (h | h) | ⟨⟨h2, h3⟩, h4⟩
        · exact absurd (by rw [h]; rfl) h1
        · exact absurd (by rw [h]; simp) h1
        · split
          · rfl
          · generalize hn : List.filterMap _ ts = names
            have e : names = [] := by
              rw [← hn, List.filterMap_eq_nil_iff]
              intro a ha
              have := List.all_eq_true.mp h3 a ha
              cases a with
              | Name id pos =>
                have ky : env.kindOf id = sc.names.lookup id := by rw [← hsc]; rfl
                simp only [Bool.not_eq_true', Bool.and_eq_false_iff, decide_eq_false_iff_not] at this
                simp only [ky]
                rw [if_neg]
                intro hc
                simp only [Bool.and_eq_true, beq_iff_eq] at hc
                rcases this with q | q
                · exact q hc.1
                · rw [beq_eq_false_iff_ne] at q
                  exact q hc.2
              | _ => rfl
            rw [e]
            have hne : ([] : List Str).length != ts.length := by
              cases ts with
              | nil => simp at h4
              | cons a b => rfl
            rw [if_pos (by rw [hne]; rfl)]
    | _ => rfl
  | List ts p => cases h
  | _ => rfl

theorem nodup_ne {N : List Str} (hN : N.Nodup) {i j : Nat} {x y : Str} (hx : N[i]? = some x) (hy : N[j]? = some y) (h : i ≠ j) : x ≠ y := fun e => by
  subst e
  exact h (nodup_ix hN hx hy)
theorem swap_two {x y : Str} {px py p p' : Pos} {n n' : Nat} {a b : Expr} {env : Env} (hk : env.scope.kind = .function) (hx : env.scope.names.lookup x = some .local) (hy : env.scope.names.lookup y = some .local) (hxy : x ≠ y) (hl : (py.line == px.line) = true)
    (hs : ([a, b].any isStar) = false) (hf : ([a, b].all (foldedForSure 8)) = false) (hc : ([a, b].all (constantsAlone 8)) = false) : swappedStores [.Tuple [.Name x px, .Name y py] n p] (.Tuple [a, b] n' p') env = pure (some [x, y]) := by
  have hb := block_fn hk
  have kx : env.kindOf x = some .local := hx
  have ky : env.kindOf y = some .local := hy
  unfold swappedStores
  simp only [hb]
  refine Eq.trans (if_neg (fun h => Bool.false_ne_true h)) ?_
  rw [if_neg (by
    intro h
    have : ([a, b].any isStar) = true := by
      simp only [List.any_eq_true] at h ⊢
      obtain ⟨e, he, h⟩ := h
      exact ⟨e, he, by cases e <;> first | rfl | cases h⟩
    rw [hs] at this
    cases this)]
  generalize hn : List.filterMap _ [Expr.Name x px, Expr.Name y py] = names
  have e : names = [x, y] := by
    rw [← hn]
    have l1 := beq_iff_eq.mp hl
    simp [kx, ky, Expr.pos, l1]
  subst e
  have hd : ([x, y] : List Str).eraseDups = [x, y] := by
    have : (y == x) = false := by rw [beq_eq_false_iff_ne]; exact fun e => hxy e.symm
    simp [List.eraseDups_cons, this]
  rw [hd, hf, hc]
  rfl
theorem swap_three {x y z : Str} {px py pz p p' : Pos} {n n' : Nat} {a b c : Expr} {env : Env} (hk : env.scope.kind = .function) (hx : env.scope.names.lookup x = some .local) (hy : env.scope.names.lookup y = some .local) (hz : env.scope.names.lookup z = some .local) (hxy : x ≠ y) (hxz : x ≠ z) (hyz : y ≠ z) (hl : (py.line == px.line) = true) (hl2 : (pz.line == px.line) = true)
    (hs : ([a, b, c].any isStar) = false) (hf : ([a, b, c].all (foldedForSure 8)) = false) (hc : ([a, b, c].all (constantsAlone 8)) = false) : swappedStores [.Tuple [.Name x px, .Name y py, .Name z pz] n p] (.Tuple [a, b, c] n' p') env = pure (some [x, y, z]) := by
  have hb := block_fn hk
  have kx : env.kindOf x = some .local := hx
  have ky : env.kindOf y = some .local := hy
  have kz : env.kindOf z = some .local := hz
  unfold swappedStores
  simp only [hb]
  refine Eq.trans (if_neg (fun h => Bool.false_ne_true h)) ?_
  rw [if_neg (by
    intro h
    have : ([a, b, c].any isStar) = true := by
      simp only [List.any_eq_true] at h ⊢
      obtain ⟨e, he, h⟩ := h
      exact ⟨e, he, by cases e <;> first | rfl | cases h⟩
    rw [hs] at this
    cases this)]
  generalize hn : List.filterMap _ [Expr.Name x px, Expr.Name y py, Expr.Name z pz] = names
  have e : names = [x, y, z] := by
    rw [← hn]
    have l1 := beq_iff_eq.mp hl
    have l2 := beq_iff_eq.mp hl2
    simp [kx, ky, kz, Expr.pos, l1, l2]
  subst e
  have hd : ([x, y, z] : List Str).eraseDups = [x, y, z] := by
    have h1 : (y == x) = false := by rw [beq_eq_false_iff_ne]; exact fun e => hxy e.symm
    have h2 : (z == x) = false := by rw [beq_eq_false_iff_ne]; exact fun e => hxz e.symm
    have h3 : (z == y) = false := by rw [beq_eq_false_iff_ne]; exact fun e => hyz e.symm
    simp [List.eraseDups_cons, h1, h2, h3]
  rw [hd, hf, hc]
  rfl
section
variable {X : Cx} {W : WX} {ev : En → Sto → R (List D)}
theorem dens3 {K : PySem.W.Frag} {mg : Str → Option Value} {m : List Addr} {H : Hp} {ds : List D} {x y z : V} (h : Dens K mg m H ds [x, y, z]) : ∃ a b c, ds = [a, b, c] ∧ Den K mg m H a x ∧ Den K mg m H b y ∧ Den K mg m H c z := by
  cases ds with
  | nil => cases h
  | cons a ds =>
    obtain ⟨v, r, e, h1, h⟩ := h
    cases e
    cases ds with
    | nil => cases h
    | cons b ds =>
      obtain ⟨v, r, e, h2, h⟩ := h
      cases e
      cases ds with
      | nil => cases h
      | cons c ds =>
        obtain ⟨v, r, e, h3, h⟩ := h
        cases e
        obtain rfl := Dens.nil h
        exact ⟨a, b, c, rfl, h1, h2, h3⟩
theorem lenV {K : PySem.W.Frag} {mg : Str → Option Value} {m : List Addr} {H : Hp} {ds : List D} {xs : List V} {n : Nat} (h : Dens K mg m H ds xs) (hn : ds.length = n) : xs.length = n := by rw [← h.length, hn]
theorem s_par2 {i j : Nat} {x y : Str} {a b : Expr} {px py pt pos : Pos} {kt k2 pt2} (hc : X.calm = true) (hN : X.N.Nodup) (hi : X.N[i]? = some x) (hj : X.N[j]? = some y) (hij : i ≠ j)
    (hx : X.env.scope.names.lookup x = some .local) (hy : X.env.scope.names.lookup y = some .local) (ha : PA X [a, b] (LfA X W ev))
    (hw : swappedStores [.Tuple [.Name x px, .Name y py] kt pt] (.Tuple [a, b] k2 pt2) X.env = pure (some [x, y])) :
    PS X (.Assign [.Tuple [.Name x px, .Name y py] kt pt] (.Tuple [a, b] k2 pt2) pos) (LfS X W fun env st => RS.of env (ev env st) fun ds st1 => if ds.length = [i, j].length then .nx (([i, j].zip ds).foldl (fun (v : En) p => v.set p.1 (some p.2)) env) st1 else .bad) := by
  refine PS.weak (ps_par hc hN hi hj hij hx hy ha hw) ?_
  rintro D σ H ⟨m, env, st, S, E, h⟩
  refine Lf.ofS S E h fun ds m1 H1 st1 vs g1 S1 E1 hv h => ?_
  by_cases hl : ds.length = [i, j].length
  · rw [if_pos hl] at h
    match ds, hl with
    | [d, e], _ =>
      obtain ⟨v, u, rfl, h1, h2⟩ := dens2 hv
      exact ⟨v, u, rfl, h m1 H1 _ Grow.refl S1 ((E1.set h1 i).set h2 j)⟩
  · rw [if_neg hl] at h
    exact h.elim
theorem s_par3 {i j l : Nat} {x y z : Str} {a b c : Expr} {px py pz pt pos : Pos} {kt k2 pt2} (hc : X.calm = true) (hN : X.N.Nodup) (hi : X.N[i]? = some x) (hj : X.N[j]? = some y) (hl : X.N[l]? = some z) (hij : i ≠ j) (hil : i ≠ l) (hjl : j ≠ l)
    (hx : X.env.scope.names.lookup x = some .local) (hy : X.env.scope.names.lookup y = some .local) (hz : X.env.scope.names.lookup z = some .local) (ha : PA X [a, b, c] (LfA X W ev))
    (hw : swappedStores [.Tuple [.Name x px, .Name y py, .Name z pz] kt pt] (.Tuple [a, b, c] k2 pt2) X.env = pure (some [x, y, z])) :
    PS X (.Assign [.Tuple [.Name x px, .Name y py, .Name z pz] kt pt] (.Tuple [a, b, c] k2 pt2) pos) (LfS X W fun env st => RS.of env (ev env st) fun ds st1 => if ds.length = [i, j, l].length then .nx (([i, j, l].zip ds).foldl (fun (v : En) p => v.set p.1 (some p.2)) env) st1 else .bad) := by
  refine PS.weak (ps_par3 hc hN hi hj hl hij hil hjl hx hy hz ha hw) ?_
  rintro D σ H ⟨m, env, st, S, E, h⟩
  refine Lf.ofS S E h fun ds m1 H1 st1 vs g1 S1 E1 hv h => ?_
  by_cases hn : ds.length = [i, j, l].length
  · rw [if_pos hn] at h
    match ds, hn with
    | [d, e, f], _ =>
      obtain ⟨v, r, rfl, h1, h2⟩ := hv
      obtain ⟨u, r, rfl, h2, h3⟩ := h2
      obtain ⟨w, rfl, h4⟩ := dens1 h3
      exact ⟨v, u, w, rfl, h m1 H1 _ Grow.refl S1 (((E1.set h1 i).set h2 j).set h4 l)⟩
  · rw [if_neg hn] at h
    exact h.elim
end
end Ab

set_option Elab.async false
set_option linter.all false
set_option autoImplicit false
set_option maxRecDepth 10000
/-! AbSound2: every statement, every def does what the small language says. -/
namespace Ab
open PySem PySem.Spec PyProof.Rows L2

structure GoodS (T : Tab) (G : Gb) (KW : Tx) (k : Nat) (X : Cx) (sc : Scope) (W : WX) : Prop where
  good : Good T G KW k X sc sc W
  kind : X.env.scope.kind = .function
  pass : PassesOwn (model X.prog X.w) X.A X.env X.xe
section
variable {T : Tab} {G : Gb} {KW : Tx} {k : Nat}
theorem chkTg_one {N : List Str} {sc raw : Scope} {t : Tg} {e : Expr} (h : chkTg N KW sc raw t e = true) : isStar e = false ∧ ((∃ x p, e = .Name x p) ∨ ∀ x p, e ≠ .Name x p) := by
  cases t with
  | nm i =>
    unfold chkTg at h
    split at h
    · exact ⟨rfl, .inl ⟨_, _, rfl⟩⟩
    · cases h
  | tp ts =>
    unfold chkTg at h
    split at h
    · exact ⟨rfl, .inr fun _ _ e => nomatch e⟩
    · cases h
  | sb a i =>
    unfold chkTg at h
    split at h
    · exact ⟨rfl, .inr fun _ _ e => nomatch e⟩
    · cases h
theorem s_setLc {X : Cx} {sc : Scope} {W : WX} (g : GoodS T G KW k X sc W) {elt : CE} {tg : Tg} {it : Itr} {cond : Pt} {own : List Nat} {i : Nat} {y : Str} {py pos : Pos} {v : Expr} (hy : X.N[i]? = some y) (hv : chkE X.N KW sc sc (.lc elt tg it cond own) v = true) (hs : swapLc sc y py v = true) :
    PS X (.Assign [.Name y py] v pos) (LfS X W fun env st => RS.of env (evE T G (callF T G k) (.lc elt tg it cond own) env st) fun d st1 => RS.of env (.ok (env.set i (some d)) st1) fun env1 st2 => .nx env1 st2) := by
  unfold chkE at hv
  split at hv
  · rename_i x tgt iter ifs kk scope vpos
    simp only [Bool.and_eq_true, Bool.not_eq_true', beq_iff_eq] at hv
    obtain ⟨⟨⟨⟨⟨⟨⟨rfl, h1⟩, h2⟩, h3⟩, h4⟩, h5⟩, h6⟩, h7⟩ := hv
    have ow : (ownP X.N own).map (·.2) = own := by
      unfold ownP
      rw [List.map_map]
      exact List.map_id'' (fun _ => rfl) own
    simp only [swapLc, Bool.and_eq_true, decide_eq_true_eq, Bool.not_eq_true'] at hs
    have hyl : X.env.scope.names.lookup y = some .local := by rw [g.good.scope]; exact hs.1.1
    have gg := g.good
    have key := ps_setLc (X := X) (own := ownP X.N own) (pos := vpos) (spos := pos) (py := py) (wi := LfI X W (evI T G (callF T G k) it)) (g := LgT X tg (setT T G (callF T G k) tg)) (tt := LfT X W0 (evC T G (callF T G k) cond)) (te := LfE X W0 (evE T G (callF T G k) elt)) gg.calm gg.nd hy hyl
      (sw_true g.kind hyl hs.1.2 hs.2) (sI it gg iter _ h4) (blkOk_by (by rw [gg.scope]; exact h2))
      (fun s H C cl fp => sTg tg (gg.blk s H scope cl C fp) tgt h5) (fun s H C cl fp => sC cond (gg.blk s H scope cl C fp) ifs h6) (fun s H C cl fp => sE elt (gg.blk s H scope cl C fp) x h7) (folded_no h1)
    rw [ow] at key
    refine PS.weak key ?_
    rintro D σ H ⟨m, env, st, S, E, h⟩
    refine lc_weak h3 σ H (fun x H1 => D.nx (σ.set i (some x)) H1) ?_
    exact Lf.ofS (f := evE T G (callF T G k) (.lc elt tg it cond own)) S E h fun d m1 H1 st1 v g1 S1 E1 hv h => h m1 H1 _ Grow.refl S1 (E1.set hv i)
  · cases hv
theorem line_two {x y : Str} {px py : Pos} {a b : Expr} {sc : Scope} (h : parOk sc [.Name x px, .Name y py] [a, b] = true) : (py.line == px.line) = true ∧ ([a, b].any isStar) = false ∧ ([a, b].all (foldedForSure 8)) = false ∧ ([a, b].all (constantsAlone 8)) = false := by
  unfold parOk at h
  simp only [Bool.and_eq_true, Bool.not_eq_true'] at h
  refine ⟨?_, h.1.1.1, h.1.2, h.2⟩
  have := List.all_eq_true.mp h.1.1.2 (.Name y py) (by simp)
  exact this
theorem line_three {x y z : Str} {px py pz : Pos} {a b c : Expr} {sc : Scope} (h : parOk sc [.Name x px, .Name y py, .Name z pz] [a, b, c] = true) : (py.line == px.line) = true ∧ (pz.line == px.line) = true ∧ ([a, b, c].any isStar) = false ∧ ([a, b, c].all (foldedForSure 8)) = false ∧ ([a, b, c].all (constantsAlone 8)) = false := by
  unfold parOk at h
  simp only [Bool.and_eq_true, Bool.not_eq_true'] at h
  refine ⟨?_, ?_, h.1.1.1, h.1.2, h.2⟩
  · exact List.all_eq_true.mp h.1.1.2 (.Name y py) (by simp)
  · exact List.all_eq_true.mp h.1.1.2 (.Name z pz) (by simp)
theorem nm_local {N : List Str} {sc : Scope} {i : Nat} {e : Expr} (h : nmLocal N sc i e = true) : ∃ x p, e = .Name x p ∧ N[i]? = some x ∧ sc.names.lookup x = some .local := by
  unfold nmLocal at h
  split at h
  · simp only [Bool.and_eq_true, decide_eq_true_eq] at h
    exact ⟨_, _, rfl, h.1, h.2⟩
  · cases h
mutual
theorem sS : ∀ (c : CS) {X : Cx} {sc : Scope} {W : WX} (g : GoodS T G KW k X sc W) (s : Stmt), chkS X.N KW sc c s = true → PS X s (LfS X W (evS T G (callF T G k) c))
  | .asg t e, X, sc, W, g, s, h => by
    unfold chkS at h
    split at h
    · rename_i tgt v pos
      simp only [Bool.and_eq_true] at h
      obtain ⟨⟨h1, h2⟩, h3⟩ := h
      obtain ⟨hst, hnm⟩ := chkTg_one h1
      have hass : (assignEach [tgt] X.env).map (·.2) = [assign tgt X.env] := by rw [assign_cons hst]; rfl
      have plain : swapsWithSole [tgt] v pos.line X.env = pure false → PS X (.Assign [tgt] v pos) (LfS X W (evS T G (callF T G k) (.asg t e))) := fun hs =>
        s_asg hs (swap_none g.kind g.good.scope h3) hass (sE e g.good v h2) (sTg t g.good tgt h1) (fun d env st => setT_plain t d env st)
      cases hc : isComp v with
      | false => exact plain (sw_false hc)
      | true =>
        rcases hnm with ⟨y, py, rfl⟩ | hnm
        · cases t with
          | nm i =>
            simp only [chkTg, Bool.and_eq_true, decide_eq_true_eq] at h1
            cases e with
            | lc elt tg it cond own =>
              cases hsw : swapLc sc y py v with
              | true => exact s_setLc g h1.1 h2 hsw
              | false =>
                refine plain ?_
                cases v with
                | ListComp el gs scope vp => exact sw_name (l := pos.line) g.kind g.good.scope hsw
                | _ => simp [chkE] at h2
            | _ =>
              exfalso
              cases v <;> first | (cases hc; done) | (simp [chkE] at h2; done)
          | tp ts => simp [chkTg] at h1
          | sb a i => simp [chkTg] at h1
        · exact plain (sw_other hnm)
    · cases h
  | .par is es, X, sc, W, g, s, h => by
    unfold chkS at h
    split at h
    · rename_i x y n p a b n' p' pos
      split at h
      · rename_i i j
        simp only [Bool.and_eq_true, decide_eq_true_eq] at h
        obtain ⟨⟨⟨⟨h1, h2⟩, h3⟩, h4⟩, h5⟩ := h
        obtain ⟨x, px, rfl, hx, lx⟩ := nm_local h1
        obtain ⟨y, py, rfl, hy, ly⟩ := nm_local h2
        obtain ⟨l1, l2, l3, l4⟩ := line_two h4
        rw [← g.good.scope] at lx ly
        exact s_par2 g.good.calm g.good.nd hx hy h3 lx ly (sEs es g.good _ h5) (swap_two g.kind lx ly (nodup_ne g.good.nd hx hy h3) l1 l2 l3 l4)
      · cases h
    · rename_i x y z n p a b c n' p' pos
      split at h
      · rename_i i j l
        simp only [Bool.and_eq_true, decide_eq_true_eq] at h
        obtain ⟨⟨⟨⟨⟨⟨⟨h1, h2⟩, h3⟩, h4⟩, h5⟩, h6⟩, h7⟩, h8⟩ := h
        obtain ⟨x, px, rfl, hx, lx⟩ := nm_local h1
        obtain ⟨y, py, rfl, hy, ly⟩ := nm_local h2
        obtain ⟨z, pz, rfl, hz, lz⟩ := nm_local h3
        obtain ⟨l1, l1', l2, l3, l4⟩ := line_three h7
        rw [← g.good.scope] at lx ly lz
        exact s_par3 g.good.calm g.good.nd hx hy hz h4 h5 h6 lx ly lz (sEs es g.good _ h8) (swap_three g.kind lx ly lz (nodup_ne g.good.nd hx hy h4) (nodup_ne g.good.nd hx hz h5) (nodup_ne g.good.nd hy hz h6) l1 l1' l2 l3 l4)
      · cases h
    · cases h
  | .expr e, X, sc, W, g, s, h => by
    unfold chkS at h
    split at h
    · simp only [Bool.and_eq_true, Bool.not_eq_true'] at h
      exact s_expr (sw_none h.1) (sE e g.good _ h.2)
    · cases h
  | .ret e, X, sc, W, g, s, h => by
    unfold chkS at h
    split at h
    · exact s_ret (sE e g.good _ h)
    · cases h
  | .retN, X, sc, W, g, s, h => by
    unfold chkS at h
    split at h
    · exact s_retN
    · cases h
  | .ife c a b, X, sc, W, g, s, h => by
    unfold chkS at h
    split at h
    · simp only [Bool.and_eq_true] at h
      exact s_ife (sT c g.good _ h.1.1).1 (sSs a g _ h.1.2) (sSs b g _ h.2)
    · cases h
  | .for_ t it b, X, sc, W, g, s, h => by
    unfold chkS at h
    split at h
    · simp only [Bool.and_eq_true, Bool.not_eq_true'] at h
      exact s_for g.pass g.good.calm h.1.1.1 (sI it g.good _ _ h.1.1.2) (sTg t g.good _ h.1.2) (fun d env st => setT_plain t d env st) (sSs b g _ h.2)
    · cases h
  | .while_ c b, X, sc, W, g, s, h => by
    unfold chkS at h
    split at h
    · simp only [Bool.and_eq_true] at h
      exact s_while g.pass (sT c g.good _ h.1).1 (sSs b g _ h.2)
    · cases h
  | .pass, X, sc, W, g, s, h => by
    unfold chkS at h
    split at h
    · exact s_pass
    · cases h
  | .never, X, sc, W, g, s, h => s_never
theorem sSs : ∀ (c : CSs) {X : Cx} {sc : Scope} {W : WX} (g : GoodS T G KW k X sc W) (s : List Stmt), chkSs X.N KW sc c s = true → PSs X s (LfS X W (evSs T G (callF T G k) c))
  | .nil, X, sc, W, g, s, h => by
    cases s with
    | nil => exact ss_nil
    | cons a b => simp [chkSs] at h
  | .cons c cs, X, sc, W, g, s, h => by
    cases s with
    | nil => simp [chkSs] at h
    | cons a b =>
      simp only [chkSs, Bool.and_eq_true] at h
      exact ss_cons (sS c g _ h.1) (sSs cs g _ h.2)
end

/-! ### defs -/
theorem start_ok {K : PySem.W.Frag} {mg : Str → Option Value} {m : List Addr} {H : Hp} {N : List Str} {ds : List D} {vs : List V} (h : Dens K mg m H ds vs) : EnOk K mg m H (L2.start N vs) (ds.map some ++ List.replicate (N.length - ds.length) none) := by
  refine ⟨by simp [L2.start, h.length], fun i d e => ?_⟩
  by_cases hi : i < ds.length
  · rw [List.getElem?_append_left (by simpa using hi), List.getElem?_map] at e
    cases q : ds[i]? with
    | none => rw [q] at e; cases e
    | some d' =>
      rw [q] at e
      cases e
      obtain ⟨v, h1, h2⟩ := h.get q
      refine ⟨v, ?_, h2⟩
      unfold L2.start
      rw [List.getElem?_append_left (by rw [List.length_map, ← h.length]; exact hi), List.getElem?_map, h1]
      rfl
  · rw [List.getElem?_append_right (by simpa using hi), List.getElem?_replicate] at e
    split at e <;> cases e
theorem sp_len {K : PySem.W.Frag} {mg : Str → Option Value} {n : Nat} {F : List D → Sto → R D} : ∀ vs H Q E, spOf K mg n F vs H Q E → vs.length = n := by
  rintro vs H Q E ⟨m, st, ds, _, hd, hl, _⟩
  rw [← hd.length, hl]
/-- what is known of a def of the text -/
def DefOk (K : PySem.W.Frag) (mg : Str → Option Value) (KW : Tx) (x : Str) (fn : Fn) : Prop :=
  ∃ f fd params body sc, FunD K x x params body sc [] [] f fd ∧ mg x = some (.ref f) ∧ FnScope fn.N fn.ps sc ∧ chkSs fn.N KW sc fn.body body = true ∧ Binds K fd fn.ps [] ∧ ∀ n ks, (x, n, ks) ∈ KW.kw → KwB K fd fn.ps n ks
variable {P : Program} {w : World} {K : PySem.W.Frag} {mg : Str → Option Value} {base : Heap}
theorem fn_step {x : Str} {fn : Fn} {f : Addr} {fd : FuncData} {params : Arguments} {body : List Stmt} {sc : Scope} (hT : T x = some fn) (fk : Facts P w K mg base T G KW k) (F : FunD K x x params body sc [] [] f fd) (S : FnScope fn.N fn.ps sc) (hc : chkSs fn.N KW sc fn.body body = true) :
    FnOk P w K mg base (L2.CX P w) (k + 1) f fd fn.ps (spOf K mg fn.ps.length (callF T G (k + 1) x)) := by
  refine F.ok S (fun vs H Q E h => sp_len vs H Q E h) (fun cdv A outer s H vs Q E hr h => ?_)
  have g : GoodS T G KW k (cxOf (L2.CX P w) P w K mg base fn.N x sc f cdv A outer s H E) sc (fun cls d _ H => E cls d H) :=
    ⟨⟨rfl, S.nd, rfl, hr, takes_of rfl rfl rfl rfl, fk, fun _ _ => rfl⟩, S.kind, passes_of rfl⟩
  refine ⟨_, sSs fn.body g body hc, ?_⟩
  obtain ⟨m, st, ds, St, hd, hl, h⟩ := h
  refine ⟨m, _, st, St, start_ok hd, ?_⟩
  have e : callF T G (k + 1) x ds st = runFn T G (callF T G k) fn ds st := callF_succ hT hl
  rw [e] at h
  unfold runFn at h
  cases q : evSs T G (callF T G k) fn.body (ds.map some ++ List.replicate (fn.N.length - ds.length) none) st with
  | nx env st' =>
    rw [q] at h
    exact fun m' H' σ' g' S' E' => h m' H' .non g' S' rfl
  | rt d st' =>
    rw [q] at h
    exact h
  | bk env st' => rw [q] at h; exact h.elim
  | ct env st' => rw [q] at h; exact h.elim
  | ex y env st' =>
    rw [q] at h
    exact fun m' H' σ' cls d g' S' E' hx => h m' H' cls d g' S' hx
  | bad => rw [q] at h; exact h.elim
theorem facts_all (hT : ∀ x fn, T x = some fn → DefOk K mg KW x fn) (fs : ∀ x ∈ KW.fs, ∃ F, T x = some F) (blt : ∀ x ∈ bltNames, mg x = none) (glb : ∀ x d, G x = some d → ∃ u v, mg x = some u ∧ RelV v u ∧ ∀ m H, Den K mg m H d v) : ∀ k, Facts P w K mg base T G KW k
  | 0 => by
    refine ⟨fun x fn hx => ?_, fs, blt, glb⟩
    obtain ⟨f, fd, params, body, sc, F, hm, S, hc, hb, hk⟩ := hT x fn hx
    refine ⟨f, fd, hm, F.kp, hb, ⟨fun vs H Q E h => sp_len vs H Q E h, fun A outer s H args us vs Q E _ _ _ _ h => ?_⟩, hk⟩
    obtain ⟨m, st, ds, _, _, _, h⟩ := h
    rw [callF_zero] at h
    exact h.elim
  | k + 1 => by
    refine ⟨fun x fn hx => ?_, fs, blt, glb⟩
    obtain ⟨f, fd, params, body, sc, F, hm, S, hc, hb, hk⟩ := hT x fn hx
    exact ⟨f, fd, hm, F.kp, hb, fn_step hx (facts_all hT fs blt glb k) F S hc, hk⟩
end
end Ab

set_option Elab.async false
set_option linter.all false
set_option autoImplicit false
set_option maxRecDepth 10000
/-! AbEnd: a law's end: the text's defs by rows, its names by facts, and what the law's own def has to answer. -/
namespace Ab
open PySem PySem.Spec PyProof.Rows L2

/-- a def of the text -/
structure DRow where
  x : Str
  fn : Fn
  st : Stmt
def DRow.dd (r : DRow) : He.DefD := ⟨(r.x, none), r.x, r.x, defArgs r.st, defBody r.st, defScope r.st, [], []⟩
structure DRow.Ok (KW : Tx) (r : DRow) : Prop where
  S : FnScope r.fn.N r.fn.ps (defScope r.st)
  c : chkSs r.fn.N KW (defScope r.st) r.fn.body (defBody r.st) = true
  b : ∀ (kV doc pm : Value) (an : Option Addr) (cdv ct : Value) (us : List Value), us.length = r.fn.ps.length → bindArgs (PySem.W.fnOf r.x r.x (defArgs r.st) (defBody r.st) (defScope r.st) .none kV doc pm an cdv ct) ⟨us, []⟩ = pure (r.fn.ps.zip us)
  kw : ∀ n ks, (r.x, n, ks) ∈ KW.kw → ∀ (kV doc pm : Value) (an : Option Addr) (cdv ct : Value) (us ws as : List Value), us.length = n → ws.length = ks.length → optAll (fun p => (ks.zip ws).lookup p) (r.fn.ps.drop n) = some as →
    bindArgs (PySem.W.fnOf r.x r.x (defArgs r.st) (defBody r.st) (defScope r.st) .none kV doc pm an cdv ct) ⟨us, ks.zip ws⟩ = pure (r.fn.ps.zip (us ++ as))
def tabOf (rows : List DRow) : Tab := fun x => (rows.find? fun r => decide (r.x = x)).map (·.fn)
def gbOf (cs : List (Str × Lit)) : Gb := fun x => (cs.lookup x).map Lit.d
def cstFa (c : Str × Lit) : He.Fa := match c.2 with
  | .int i => .int c.1 i
  | .str z => .str c.1 z
  | _ => .free "len"
def cstOk (c : Str × Lit) : Bool := match c.2 with
  | .int _ => true
  | .str z => sOk z
  | _ => false
def fasOf (rows : List DRow) (cs : List (Str × Lit)) : List He.Fa := rows.map (fun r => .glo r.x) ++ (bltNames.map .free ++ cs.map cstFa)

section
variable {P : Program} {w : World} {K : PySem.W.Frag} {mg : Str → Option Value} {h : Heap} {rows : List DRow} {cs : List (Str × Lit)} {KW : Tx}
theorem funD_bind {x qual : Str} {params : Arguments} {body : List Stmt} {scope : Scope} {f : Addr} {fd : FuncData} {ps ks : List Str} {n : Nat} (F : FunD K x qual params body scope [] [] f fd)
    (h : ∀ (kV doc pm : Value) (an : Option Addr) (cdv ct : Value) (us ws as : List Value), us.length = n → ws.length = ks.length → optAll (fun p => (ks.zip ws).lookup p) (ps.drop n) = some as →
      bindArgs (PySem.W.fnOf x qual params body scope .none kV doc pm an cdv ct) ⟨us, ks.zip ws⟩ = pure (ps.zip (us ++ as))) : KwB K fd ps n ks := by
  intro s us ws as _ h1 h2 h3
  obtain ⟨oc, od, dV, kV, doc, pm, an, cdv, ct, osl, rfl, lk, hcd, hD, hK⟩ := F.ex
  rcases hD with ⟨_, rfl⟩ | ⟨e, _⟩
  · exact .of_eq (h kV doc pm an cdv ct us ws as h1 h2 h3)
  · exact absurd rfl e
theorem row_ok {r : DRow} (ok : r.Ok KW) (hr : r ∈ rows) (X : K.In h) (G : h.Ns mainGlobals mg) (c : He.SaysD (fasOf rows cs) (rows.map DRow.dd) K) : DefOk K mg KW r.x r.fn := by
  obtain ⟨fd, F⟩ := c.defs (d := r.dd) (List.mem_map.mpr ⟨r, hr, rfl⟩)
  have g := He.glo_ok X G (c.facts (f := .glo r.x) (List.mem_append_left _ (List.mem_map.mpr ⟨r, hr, rfl⟩)))
  exact ⟨_, fd, _, _, _, F, g, ok.S, ok.c, FunD.bindsN F ok.b, fun n ks hk => funD_bind F (ok.kw n ks hk)⟩
theorem tab_ok (ok : ∀ r ∈ rows, r.Ok KW) (X : K.In h) (G : h.Ns mainGlobals mg) (c : He.SaysD (fasOf rows cs) (rows.map DRow.dd) K) : ∀ x fn, tabOf rows x = some fn → DefOk K mg KW x fn := by
  intro x fn e
  unfold tabOf at e
  cases q : rows.find? (fun r => decide (r.x = x)) with
  | none => rw [q] at e; cases e
  | some r =>
    rw [q] at e
    cases e
    have hr := List.mem_of_find?_eq_some q
    have hx : r.x = x := of_decide_eq_true (List.find?_some (p := fun r : DRow => decide (r.x = x)) q)
    rw [← hx]
    exact row_ok (ok r hr) hr X G c
theorem gb_ok (co : cs.all cstOk = true) (X : K.In h) (G : h.Ns mainGlobals mg) (c : He.SaysD (fasOf rows cs) (rows.map DRow.dd) K) : ∀ x d, gbOf cs x = some d → ∃ u v, mg x = some u ∧ RelV v u ∧ ∀ m H, Den K mg m H d v := by
  intro x d e
  unfold gbOf at e
  cases q : cs.lookup x with
  | none => rw [q] at e; cases e
  | some l =>
    rw [q] at e
    cases e
    have hm : (x, l) ∈ cs := by
      clear co c
      induction cs with
      | nil => cases q
      | cons p r ih =>
        obtain ⟨y, z⟩ := p
        rw [List.lookup_cons] at q
        split at q
        · cases q
          rename_i hb
          rw [beq_iff_eq.mp hb]
          exact List.mem_cons_self ..
        · exact List.mem_cons_of_mem _ (ih q)
    have ho := List.all_eq_true.mp co _ hm
    have hf := c.facts (f := cstFa (x, l)) (List.mem_append_right _ (List.mem_append_right _ (List.mem_map.mpr ⟨_, hm, rfl⟩)))
    cases l with
    | int i =>
      obtain ⟨t, ht⟩ := He.int_ok X G hf
      exact ⟨_, .int i, ht, ⟨t, rfl⟩, fun _ _ => rfl⟩
    | str z =>
      obtain ⟨t, ht⟩ := He.str_ok X G hf
      exact ⟨_, .str z, ht, ⟨t, rfl⟩, fun _ _ => ⟨rfl, ho⟩⟩
    | non => cases ho
    | bl b => cases ho
theorem facts_law (ok : ∀ r ∈ rows, r.Ok KW) (hfs : ∀ x ∈ KW.fs, ∃ F, tabOf rows x = some F) (co : cs.all cstOk = true) (X : K.In h) (G : h.Ns mainGlobals mg) (c : He.SaysD (fasOf rows cs) (rows.map DRow.dd) K) (base : Heap) (k : Nat) : Facts P w K mg base (tabOf rows) (gbOf cs) KW k :=
  facts_all (tab_ok ok X G c) hfs (fun x hx => He.free_ok X G (c.facts (f := .free x) (List.mem_append_right _ (List.mem_append_left _ (List.mem_map.mpr ⟨x, hx, rfl⟩))))) (gb_ok co X G c) k

theorem kw_mem {l : List (Str × Nat × List Str)} {x : Str} {n : Nat} {ks : List Str} (h : (x, n, ks) ∈ l) : (n, ks) ∈ (l.filter fun p => decide (p.1 = x)).map (·.2) :=
  List.mem_map.mpr ⟨_, List.mem_filter.mpr ⟨h, decide_eq_true rfl⟩, rfl⟩
theorem no_kw {l : List (Str × Nat × List Str)} {x : Str} {n : Nat} {ks : List Str} (e : (l.filter fun p => decide (p.1 = x)).map (·.2) = []) : (x, n, ks) ∉ l := fun h => by
  have z := kw_mem h
  rw [e] at z
  cases z
theorem fs_ok (e : (KW.fs.all fun x => (tabOf rows x).isSome) = true) : ∀ x ∈ KW.fs, ∃ F, tabOf rows x = some F := fun x hx => Option.isSome_iff_exists.mp (List.all_eq_true.mp e x hx)

/-- the law's list, as the store's first object -/
theorem script_ok {H : Hp} {a : Addr} {ns : List Int} (O : Only H) (S : SqL K H a (ns.map V.int)) : StOk K mg [a] H [.lst true (ns.map D.int)] := by
  refine ⟨rfl, fun l k b o u e1 e2 e3 e4 m1 _ => ?_, fun l b o e1 e2 => ?_⟩
  · match l, e3 with
    | 0, e3 => cases e3; cases m1
  · match l, e1, e2 with
    | 0, e1, e2 =>
      cases e1
      cases e2
      refine ⟨ns.map V.int, ?_, ?_⟩
      · rcases S with r | r
        · rcases r with r | ⟨o, r⟩
          · rcases O a with q | ⟨o, xs, q⟩
            · rw [q] at r; cases r
            · rw [q] at r; cases r
          · exact .inl ⟨o, r⟩
        · exact .inr fun H' => .inr r
      · clear S e1 e2
        induction ns with
        | nil => rfl
        | cons n ns ih => exact ⟨.int n, ns.map V.int, rfl, rfl, ih⟩
/-- THE END: the law's own def answers True over the small language -/
theorem law_of {l : PySem.W.OpenLaw} {q : Program} {loose : List Str} {XP : (Str → Option Value) → Heap → Prop} {d : DefRec} {x : Str} {n k N : Nat} (r : DRow)
    (hn : l.most = some n) (hn2 : n ≤ sizeLine) (hdf : d.params.defaults = []) (hr : Room (k + 1) callerA) (hd : d.name = r.x) (hrow : r ∈ rows) (hps : r.fn.ps = [x]) (ht : tabOf rows r.x = some r.fn)
    (ok : ∀ r ∈ rows, r.Ok KW) (hfs : ∀ x ∈ KW.fs, ∃ F, tabOf rows x = some F) (co : cs.all cstOk = true)
    (hlaw : ∀ ns : List Int, ns.length ≤ n → ∃ st', callF (tabOf rows) (gbOf cs) (k + 1) r.x [.ref 0] [.lst true (ns.map D.int)] = .ok (.bl true) st') :
    PySem.W.WalkO q loose XP (He.hookD N (fasOf rows cs) (rows.map DRow.dd)).says l.row.toRowW d [] (fun f vs => PySem.call f vs) := by
  refine Att.attach_call hn hdf fun w s₀ s₁ mg mb fa o pm cd doc a vs ns G Y ho hd' hcd hmg hobj hints hlen hg => ?_
  obtain ⟨K, KX, c⟩ := Y
  obtain ⟨fd, F⟩ := c.defs (d := r.dd) (List.mem_map.mpr ⟨r, hrow, rfl⟩)
  have g := He.glo_ok KX G.T.g (c.facts (f := .glo r.x) (List.mem_append_left _ (List.mem_map.mpr ⟨r, hrow, rfl⟩)))
  rw [← hd] at g
  have e : fa = He.ga K r.x := by
    rw [hmg] at g
    rw [← hd]
    exact Value.ref.inj (Option.some.inj g)
  have b := FunD.bindsA F (ok r hrow).b
  rw [hps] at b
  refine law_call (CX := L2.CX l.prog w) (K := K) (sp := spOf K mg 1 (callF (tabOf rows) (gbOf cs) (k + 1) r.x)) (x := x) (fd := fd) KX G.T.g G.T.b G.T.builtins G.T.nolimit hg hobj hints (Nat.le_trans hlen hn2) hr (fun base _ _ => ?_) (fun s v => b s [v] rfl) (fun H hO hS => ?_) (fun H e s' h => ?_)
  · have f := fn_step (P := l.prog) (w := w) (base := base) ht (facts_law ok hfs co KX G.T.g c base k) F (ok r hrow).S (ok r hrow).c
    rw [hps] at f
    rw [e]
    exact f
  · obtain ⟨st', hst⟩ := hlaw ns hlen
    refine ⟨[a], [.lst true (ns.map D.int)], [.ref 0], script_ok hO hS, ⟨_, [], rfl, ⟨a, rfl, rfl⟩, rfl⟩, rfl, ?_⟩
    rw [hst]
    exact fun m' H' v _ _ hv => hv
  · obtain ⟨_, _, _, _, _, _, _, _, _, _, _, _, _, h⟩ := h
end
end Ab

set_option Elab.async false
set_option linter.all false
set_option autoImplicit false
set_option maxRecDepth 10000
/-! AbUse: to walk a def of the small language: what is wanted of an end, rules for loops, stores that grow. -/
namespace Ab
open PySem

def R.wp {α : Type} (r : R α) (Q : α → Sto → Prop) : Prop := match r with
  | .ok a st => Q a st
  | _ => False
def RS.wp (r : RS) (N : En → Sto → Prop) (V : D → Sto → Prop) : Prop := match r with
  | .nx env st => N env st
  | .rt d st => V d st
  | _ => False
section
variable {α β : Type} {st st1 st2 : Sto} {env : En}
@[simp] theorem wp_ok {a : α} {Q : α → Sto → Prop} : (R.ok a st).wp Q = Q a st := rfl
@[simp] theorem wp_bad {Q : α → Sto → Prop} : (R.bad : R α).wp Q = False := rfl
@[simp] theorem wp_bind {r : R α} {f : α → Sto → R β} {Q : β → Sto → Prop} : (r.bind f).wp Q = r.wp fun a st => (f a st).wp Q := by cases r <;> rfl
@[simp] theorem wp_noex {r : R α} {Q : α → Sto → Prop} : r.noex.wp Q = r.wp Q := by cases r <;> rfl
@[simp] theorem wp_of {r : R α} {f : α → Sto → RS} {N : En → Sto → Prop} {V : D → Sto → Prop} : (RS.of env r f).wp N V = r.wp fun a st => (f a st).wp N V := by cases r <;> rfl
@[simp] theorem wp_then {r : RS} {f : En → Sto → RS} {N : En → Sto → Prop} {V : D → Sto → Prop} : (r.andThen f).wp N V = r.wp (fun env st => (f env st).wp N V) V := by cases r <;> rfl
@[simp] theorem wp_nx {N : En → Sto → Prop} {V : D → Sto → Prop} : (RS.nx env st).wp N V = N env st := rfl
@[simp] theorem wp_rt {d : D} {N : En → Sto → Prop} {V : D → Sto → Prop} : (RS.rt d st).wp N V = V d st := rfl
@[simp] theorem wp_sbad {N : En → Sto → Prop} {V : D → Sto → Prop} : RS.bad.wp N V = False := rfl
@[simp] theorem wp_opt {x : Option α} {Q : α → Sto → Prop} : (ofOpt x st).wp Q = ∃ a, x = some a ∧ Q a st := by
  cases x with
  | none => exact propext ⟨False.elim, fun ⟨_, h, _⟩ => nomatch h⟩
  | some a => exact propext ⟨fun h => ⟨a, rfl, h⟩, fun ⟨_, e, h⟩ => by cases e; exact h⟩
@[simp] theorem wp_ite {c : Prop} [Decidable c] {a b : R α} {Q : α → Sto → Prop} : (if c then a else b).wp Q = if c then a.wp Q else b.wp Q := by split <;> rfl
@[simp] theorem wp_site {c : Prop} [Decidable c] {a b : RS} {N : En → Sto → Prop} {V : D → Sto → Prop} : (if c then a else b).wp N V = if c then a.wp N V else b.wp N V := by split <;> rfl
theorem R.wp.mono {r : R α} {Q Q' : α → Sto → Prop} (h : r.wp Q) (f : ∀ a st, Q a st → Q' a st) : r.wp Q' := by
  cases r with
  | ok a st => exact f a st h
  | ex x st => exact h
  | bad => exact h
theorem RS.wp.mono {r : RS} {N N' : En → Sto → Prop} {V V' : D → Sto → Prop} (h : r.wp N V) (f : ∀ env st, N env st → N' env st) (g : ∀ d st, V d st → V' d st) : r.wp N' V' := by
  cases r with
  | nx env st => exact f env st h
  | rt d st => exact g d st h
  | _ => exact h
theorem R.wp.eq {r : R α} {Q : α → Sto → Prop} (h : r.wp Q) : ∃ a st, r = .ok a st ∧ Q a st := by
  cases r with
  | ok a st => exact ⟨a, st, rfl, h⟩
  | ex x st => exact h.elim
  | bad => exact h.elim

/-! ### terms -/
variable {T : Tab} {G : Gb} {F : Str → List D → Sto → R D}
theorem call_wp {k : Nat} {f : Str} {fn : Fn} {ds : List D} {Q : D → Sto → Prop} (ht : T f = some fn) (hl : ds.length = fn.ps.length)
    (h : (evSs T G (callF T G k) fn.body (ds.map some ++ List.replicate (fn.N.length - ds.length) none) st).wp (fun _ st' => Q .non st') Q) : (callF T G (k + 1) f ds st).wp Q := by
  have e : callF T G (k + 1) f ds st = runFn T G (callF T G k) fn ds st := callF_succ ht hl
  rw [e]
  unfold runFn
  cases q : evSs T G (callF T G k) fn.body (ds.map some ++ List.replicate (fn.N.length - ds.length) none) st <;> rw [q] at h <;> exact h
@[simp] theorem evSs_nil : evSs T G F .nil env st = .nx env st := by simp only [evSs]
@[simp] theorem evSs_cons {s : CS} {ss : CSs} : evSs T G F (.cons s ss) env st = (evS T G F s env st).andThen (evSs T G F ss) := by simp only [evSs]
@[simp] theorem evEs_nil : evEs T G F .nil env st = .ok [] st := by simp only [evEs]
@[simp] theorem evEs_cons {e : CE} {es : CEs} : evEs T G F (.cons e es) env st = (evE T G F e env st).bind fun d st1 => (evEs T G F es env st1).bind fun ds st2 => .ok (d :: ds) st2 := by simp only [evEs]
@[simp] theorem setTs_nil : setTs T G F .nil [] env st = .ok env st := by simp only [setTs]
@[simp] theorem setTs_cons {t : Tg} {ts : Tgs} {d : D} {r : List D} : setTs T G F (.cons t ts) (d :: r) env st = (setT T G F t d env st).bind fun env1 st1 => setTs T G F ts r env1 st1 := by simp only [setTs]
@[simp] theorem setT_nm {i : Nat} {d : D} : setT T G F (.nm i) d env st = .ok (env.set i (some d)) st := by simp only [setT]
@[simp] theorem setT_tp {ts : Tgs} {ds : List D} : setT T G F (.tp ts) (.tup ds) env st = setTs T G F ts ds env st := by simp only [setT]
@[simp] theorem setT_sb {a i : CE} {d : D} : setT T G F (.sb a i) d env st = (evE T G F a env st).noex.bind fun o st1 => (evE T G F i env st1).noex.bind fun k st2 => (setD o k d st2).bind fun _ st3 => .ok env st3 := by simp only [setT]
@[simp] theorem evE_var {i : Nat} : evE T G F (.var i) env st = (match env[i]? with | some (some d) => .ok d st | _ => .bad) := by simp only [evE] <;> rfl
@[simp] theorem evE_lit {l : Lit} : evE T G F (.lit l) env st = .ok l.d st := by simp only [evE]
@[simp] theorem evE_glob {x : Str} : evE T G F (.glob x) env st = ofOpt (G x) st := by simp only [evE]
@[simp] theorem evE_bin {op : Operator} {a b : CE} : evE T G F (.bin op a b) env st = (evE T G F a env st).bind fun d st1 => (evE T G F b env st1).bind fun e st2 => binD op d e st2 := by simp only [evE]
@[simp] theorem evE_neg {a : CE} : evE T G F (.neg a) env st = (evE T G F a env st).bind fun d st1 => (match d with | .int i => .ok (.int (-i)) st1 | _ => .bad) := by simp only [evE] <;> rfl
@[simp] theorem evE_cmp {op : CmpOp} {a b : CE} : evE T G F (.cmp op a b) env st = (evE T G F a env st).bind fun d st1 => (evE T G F b env st1).bind fun e st2 => ofOpt ((cmpD op d e st2).map D.bl) st2 := by simp only [evE]
@[simp] theorem evE_chain {o1 o2 : CmpOp} {a b c : CE} : evE T G F (.chain o1 o2 a b c) env st = (evE T G F a env st).bind fun d st1 => (evE T G F b env st1).bind fun e st2 => (ofOpt (cmpD o1 d e st2) st2).bind fun k st3 => if k = true then (evE T G F c env st3).bind fun h st4 => ofOpt ((cmpD o2 e h st4).map D.bl) st4 else .ok (.bl false) st3 := by simp only [evE]
@[simp] theorem evE_and {a b : CE} : evE T G F (.and_ a b) env st = (evE T G F a env st).bind fun d st1 => (asBool d st1).bind fun k st2 => if k = true then evE T G F b env st2 else .ok (.bl false) st2 := by simp only [evE]
@[simp] theorem evE_or {a b : CE} : evE T G F (.or_ a b) env st = (evE T G F a env st).bind fun d st1 => (asBool d st1).bind fun k st2 => if k = true then .ok (.bl true) st2 else evE T G F b env st2 := by simp only [evE]
@[simp] theorem evE_not {a : CE} : evE T G F (.not_ a) env st = (evE T G F a env st).bind fun d st1 => (asBool d st1).bind fun k st2 => .ok (.bl (!k)) st2 := by simp only [evE]
@[simp] theorem evE_ife {c a b : CE} : evE T G F (.ife c a b) env st = (evE T G F c env st).bind fun d st1 => (asBool d st1).bind fun k st2 => if k = true then evE T G F a env st2 else evE T G F b env st2 := by simp only [evE]
@[simp] theorem evE_tup {es : CEs} : evE T G F (.tup es) env st = (evEs T G F es env st).bind fun ds st1 => if ds.length ≤ sizeLine then .ok (.tup ds) st1 else .bad := by simp only [evE]
@[simp] theorem evE_lst {es : CEs} : evE T G F (.lst es) env st = (evEs T G F es env st).bind fun ds st1 => if ds.length ≤ sizeLine then alloc (.lst false ds) st1 else .bad := by simp only [evE]
@[simp] theorem evE_sub {a i : CE} : evE T G F (.sub a i) env st = (evE T G F a env st).bind fun d st1 => (evE T G F i env st1).bind fun k st2 => subD d k st2 := by simp only [evE]
@[simp] theorem evE_slc {a : CE} {lo hi : Pt} : evE T G F (.slc a lo hi) env st = (evE T G F a env st).bind fun d st1 => (evP T G F lo env st1).bind fun l st2 => (evP T G F hi env st2).bind fun h st3 => slcD d l h st3 := by simp only [evE]
@[simp] theorem evE_call {f : Str} {es : CEs} : evE T G F (.call f es) env st = (evEs T G F es env st).bind fun ds st1 => F f ds st1 := by simp only [evE]
@[simp] theorem evE_callk {f : Str} {es ws : CEs} {ks : List Str} : evE T G F (.callk f es ks ws) env st = (evEs T G F es env st).bind fun ds st1 => (evEs T G F ws env st1).bind fun zs st2 => (match T f with | some fn => (match bindKw fn.ps ds ks zs with | some as => F f as st2 | none => .bad) | none => .bad) := by simp only [evE] <;> rfl
@[simp] theorem evE_blt {b : Blt} {es : CEs} : evE T G F (.blt b es) env st = (evEs T G F es env st).bind fun ds st1 => bltD b ds st1 := by simp only [evE]
@[simp] theorem evE_isi {a : CE} {t : Ty} : evE T G F (.isi a t) env st = (evE T G F a env st).bind fun d st1 => ofOpt ((isiD t d st1).map D.bl) st1 := by simp only [evE]
@[simp] theorem evE_meth {m : Mth} {o : CE} {es : CEs} : evE T G F (.meth m o es) env st = (evE T G F o env st).bind fun d st1 => (match listOf st1 d with | some _ => (evEs T G F es env st1).bind fun ds st2 => mthD m d ds st2 | none => .bad) := by simp only [evE] <;> rfl
@[simp] theorem evE_lc {elt : CE} {tg : Tg} {it : Itr} {cond : Pt} {own : List Nat} : evE T G F (.lc elt tg it cond own) env st = (evI T G F it env st).bind fun s st1 =>
      (lcLoop s (fun d st2 => (setT T G F tg d (wipeE env own) st2).bind fun env2 st3 => (evC T G F cond env2 st3).noex.bind fun k st4 =>
        if k = true then (evE T G F elt env2 st4).noex.bind fun y st5 => .ok (some y) st5 else .ok none st4) s.items [] st1).noex.bind fun ys st6 => alloc (.lst false ys) st6 := by simp only [evE]
@[simp] theorem evC_none : evC T G F .none env st = .ok true st := by simp only [evC]
@[simp] theorem evC_some {c : CE} : evC T G F (.some c) env st = (evE T G F c env st).bind fun d st1 => asBool d st1 := by simp only [evC]
@[simp] theorem evP_none : evP T G F .none env st = .ok Option.none st := by simp only [evP]
@[simp] theorem evP_some {e : CE} : evP T G F (.some e) env st = (evE T G F e env st).bind fun d st1 => asPart d st1 := by simp only [evP]
@[simp] theorem evI_seq {e : CE} : evI T G F (.seq e) env st = (evE T G F e env st).bind fun d st1 => srcSeq d st1 := by simp only [evI]
@[simp] theorem evI_rng1 {a : CE} : evI T G F (.rng1 a) env st = (evE T G F a env st).bind fun d st1 => srcRng (.int 0) d st1 := by simp only [evI]
@[simp] theorem evI_rng2 {a b : CE} : evI T G F (.rng2 a b) env st = (evE T G F a env st).bind fun d st1 => (evE T G F b env st1).bind fun e st2 => srcRng d e st2 := by simp only [evI]
@[simp] theorem evI_enum {e : CE} : evI T G F (.enum e) env st = (evE T G F e env st).bind fun d st1 => srcEnum d st1 := by simp only [evI]
@[simp] theorem evI_zip {a b : CE} : evI T G F (.zip a b) env st = (evE T G F a env st).bind fun d st1 => (evE T G F b env st1).bind fun e st2 => srcZip d e st2 := by simp only [evI]
@[simp] theorem evT_eq {c : CE} : evT T G F c env st = (evE T G F c env st).bind fun d st1 => asBool d st1 := by simp only [evT]
@[simp] theorem evS_asg {t : Tg} {e : CE} : evS T G F (.asg t e) env st = RS.of env (evE T G F e env st) fun d st1 => RS.of env (setT T G F t d env st1) fun env1 st2 => .nx env1 st2 := by simp only [evS]
@[simp] theorem evS_par {ts : List Nat} {es : CEs} : evS T G F (.par ts es) env st = RS.of env (evEs T G F es env st) fun ds st1 => if ds.length = ts.length then .nx ((ts.zip ds).foldl (fun (v : En) p => v.set p.1 (some p.2)) env) st1 else .bad := by simp only [evS]
@[simp] theorem evS_expr {e : CE} : evS T G F (.expr e) env st = RS.of env (evE T G F e env st) fun _ st1 => .nx env st1 := by simp only [evS]
@[simp] theorem evS_ret {e : CE} : evS T G F (.ret e) env st = RS.of env (evE T G F e env st) fun d st1 => .rt d st1 := by simp only [evS]
@[simp] theorem evS_retN : evS T G F .retN env st = .rt .non st := by simp only [evS]
@[simp] theorem evS_ife {c : CE} {a b : CSs} : evS T G F (.ife c a b) env st = RS.of env (evT T G F c env st) fun k st1 => if k = true then evSs T G F a env st1 else evSs T G F b env st1 := by simp only [evS]
@[simp] theorem evS_for {t : Tg} {it : Itr} {b : CSs} : evS T G F (.for_ t it b) env st = RS.of env (evI T G F it env st) fun s st1 => forLoop s (setT T G F t) (evSs T G F b) s.items env st1 := by simp only [evS]
@[simp] theorem evS_while {c : CE} {b : CSs} : evS T G F (.while_ c b) env st = whileLoop (evT T G F c) (evSs T G F b) turns env st := by simp only [evS]
@[simp] theorem evS_pass : evS T G F .pass env st = .nx env st := by simp only [evS]
@[simp] theorem evS_never : evS T G F .never env st = .bad := by simp only [evS]
end

/-! ### stores -/
/-- all that stood stands -/
def Ext (st st' : Sto) : Prop := ∀ (l : Nat) (o : AO), st[l]? = some o → st'[l]? = some o
/-- all but one -/
def Kp (p : Nat) (st st' : Sto) : Prop := ∀ (l : Nat) (o : AO), l ≠ p → st[l]? = some o → st'[l]? = some o
theorem Ext.refl (st : Sto) : Ext st st := fun _ _ h => h
theorem Ext.trans {a b c : Sto} (h : Ext a b) (g : Ext b c) : Ext a c := fun l o e => g l o (h l o e)
theorem Ext.app (st g : Sto) : Ext st (st ++ g) := fun l o e => by
  rw [List.getElem?_append_left (List.getElem?_eq_some_iff.mp e).1]
  exact e
theorem Ext.kp {p : Nat} {st st' : Sto} (h : Ext st st') : Kp p st st' := fun l o _ e => h l o e
theorem Kp.refl (p : Nat) (st : Sto) : Kp p st st := fun _ _ _ h => h
theorem Kp.trans {p : Nat} {a b c : Sto} (h : Kp p a b) (g : Kp p b c) : Kp p a c := fun l o n e => g l o n (h l o n e)
theorem Kp.set (p : Nat) (st : Sto) (o : AO) : Kp p st (st.set p o) := fun l u n e => by
  rw [List.getElem?_set_ne (fun h => n h.symm)]
  exact e
theorem Kp.toExt {p : Nat} {st st' : Sto} (h : Kp p st st') (hp : st.length ≤ p) : Ext st st' := fun l o e => h l o (fun q => by
  have := (List.getElem?_eq_some_iff.mp e).1
  omega) e

/-! ### loops -/
theorem still_nil {ds : List D} {st : Sto} : (⟨ds, []⟩ : Src).still st := fun _ h => nomatch h
theorem still_one {ds xs : List D} {l : Nat} {f : Bool} {st : Sto} (h : st[l]? = some (.lst f xs)) : (⟨ds, [(l, xs)]⟩ : Src).still st := fun p hp => by
  cases List.mem_singleton.mp hp
  exact ⟨f, h⟩
theorem for_wp {s : Src} {g : D → En → Sto → R En} {b : En → Sto → RS} {N : En → Sto → Prop} {V : D → Sto → Prop} : ∀ {items : List D} {env : En} {st : Sto} (I : Nat → En → Sto → Prop) (h0 : I 0 env st) (still : ∀ i env st, I i env st → s.still st)
    (step : ∀ i d env st, items[i]? = some d → I i env st → (g d env st).wp fun env1 st1 => (b env1 st1).wp (I (i + 1)) V) (fin : ∀ env st, I items.length env st → N env st), (forLoop s g b items env st).wp N V
  | [], env, st, I, h0, still, step, fin => by
    unfold forLoop
    rw [if_pos (still _ _ _ h0)]
    exact fin _ _ h0
  | d :: ds, env, st, I, h0, still, step, fin => by
    unfold forLoop
    rw [if_pos (still _ _ _ h0), wp_of]
    refine (step 0 d env st rfl h0).mono fun env1 st1 h => ?_
    have go : ∀ env2 st2, I 1 env2 st2 → (forLoop s g b ds env2 st2).wp N V := fun env2 st2 h2 =>
      for_wp (items := ds) (fun i => I (i + 1)) h2 (fun i => still (i + 1)) (fun i d env st e => step (i + 1) d env st e) fin
    cases q : b env1 st1 with
    | nx env2 st2 => rw [q] at h; exact go _ _ h
    | rt d st2 => rw [q] at h; exact h
    | _ => rw [q] at h; exact h.elim
theorem lc_wp {s : Src} {f : D → Sto → R (Option D)} {Q : List D → Sto → Prop} : ∀ {items acc : List D} {st : Sto} (I : Nat → List D → Sto → Prop) (h0 : I 0 acc st) (still : ∀ i acc st, I i acc st → s.still st)
    (step : ∀ i d acc st, items[i]? = some d → I i acc st → (f d st).wp fun r st1 => match r with
      | some y => acc.length < sizeLine ∧ I (i + 1) (acc ++ [y]) st1
      | none => I (i + 1) acc st1) (fin : ∀ acc st, I items.length acc st → Q acc st), (lcLoop s f items acc st).wp Q
  | [], acc, st, I, h0, still, step, fin => by
    unfold lcLoop
    rw [if_pos (still _ _ _ h0)]
    exact fin _ _ h0
  | d :: ds, acc, st, I, h0, still, step, fin => by
    unfold lcLoop
    rw [if_pos (still _ _ _ h0), wp_bind]
    refine (step 0 d acc st rfl h0).mono fun r st1 h => ?_
    cases r with
    | some y =>
      have h : acc.length < sizeLine ∧ I 1 (acc ++ [y]) st1 := h
      show (if acc.length < sizeLine then lcLoop s f ds (acc ++ [y]) st1 else .bad).wp Q
      rw [if_pos h.1]
      exact lc_wp (items := ds) (fun i => I (i + 1)) h.2 (fun i => still (i + 1)) (fun i d acc st e => step (i + 1) d acc st e) fin
    | none => exact lc_wp (items := ds) (fun i => I (i + 1)) h (fun i => still (i + 1)) (fun i d acc st e => step (i + 1) d acc st e) fin
/-- one value an item, each as P says; the store goes on by a relation -/
theorem lc_map {s : Src} {f : D → Sto → R (Option D)} {Q : List D → Sto → Prop} {items : List D} {st : Sto} (S : Sto → Prop) (P : Nat → D → Prop) (hn : items.length ≤ sizeLine) (h0 : S st) (still : ∀ st, S st → s.still st)
    (step : ∀ i d st, items[i]? = some d → S st → (f d st).wp fun r st1 => ∃ y, r = some y ∧ P i y ∧ S st1)
    (fin : ∀ ys st, ys.length = items.length → (∀ (i : Nat) (y : D), ys[i]? = some y → P i y) → S st → Q ys st) : (lcLoop s f items [] st).wp Q := by
  refine lc_wp (fun i acc st => acc.length = i ∧ i ≤ items.length ∧ (∀ (j : Nat) (y : D), acc[j]? = some y → P j y) ∧ S st) ⟨rfl, Nat.zero_le _, fun j y e => absurd e (by simp), h0⟩ (fun i acc st h => still st h.2.2.2) (fun i d acc st e h => ?_) (fun acc st h => fin acc st h.1 h.2.2.1 h.2.2.2)
  refine (step i d st e h.2.2.2).mono fun r st1 ⟨y, er, hy, hs⟩ => ?_
  subst er
  have hi := (List.getElem?_eq_some_iff.mp e).1
  refine ⟨by have := h.1; omega, by rw [List.length_append, h.1]; rfl, by omega, fun j z ez => ?_, hs⟩
  by_cases q : j < acc.length
  · rw [List.getElem?_append_left q] at ez
    exact h.2.2.1 j z ez
  · rw [List.getElem?_append_right (by omega)] at ez
    have : j - acc.length = 0 := by
      have := (List.getElem?_eq_some_iff.mp ez).1
      simp at this
      omega
    rw [this] at ez
    cases ez
    have ej : j = i := by omega
    rw [ej]
    exact hy
theorem while_wp {c : En → Sto → R Bool} {b : En → Sto → RS} {N : En → Sto → Prop} {V : D → Sto → Prop} : ∀ {n : Nat} {env : En} {st : Sto} (I : Nat → En → Sto → Prop) (h0 : I 0 env st)
    (step : ∀ i env st, i < n → I i env st → (c env st).wp fun k st1 => if k = true then i + 1 < n ∧ (b env st1).wp (I (i + 1)) V else N env st1) (hn : 0 < n), (whileLoop c b n env st).wp N V
  | 0, _, _, _, _, _, hn => absurd hn (Nat.lt_irrefl 0)
  | n + 1, env, st, I, h0, step, hn => by
    unfold whileLoop
    rw [wp_of]
    refine (step 0 env st (Nat.succ_pos n) h0).mono fun k st1 h => ?_
    cases k with
    | false => exact h
    | true =>
      have h : 1 < n + 1 ∧ (b env st1).wp (I 1) V := h
      have go : ∀ env2 st2, I 1 env2 st2 → (whileLoop c b n env2 st2).wp N V := fun env2 st2 h2 =>
        while_wp (n := n) (fun i => I (i + 1)) h2 (fun i env st hi e => (step (i + 1) env st (by omega) e).mono fun k st1 q => by
          cases k with
          | false => exact q
          | true => exact ⟨by have := (show i + 1 + 1 < n + 1 ∧ _ from q).1; omega, (show i + 1 + 1 < n + 1 ∧ _ from q).2⟩) (by omega)
      rw [if_pos rfl]
      cases q : b env st1 with
      | nx env2 st2 => rw [q] at h; exact go _ _ h.2
      | rt d st2 => rw [q] at h; exact h.2
      | _ => rw [q] at h; exact h.2.elim
end Ab

set_option Elab.async false
set_option linter.all false
set_option autoImplicit false
set_option maxRecDepth 10000
/-! AbWalk: rules, one a form, by which a def of the small language is walked. -/
namespace Ab
open PySem
section
variable {α β : Type} {T : Tab} {G : Gb} {F : Str → List D → Sto → R D} {env : En} {st : Sto} {Q : D → Sto → Prop} {N : En → Sto → Prop} {V : D → Sto → Prop}
theorem w_ok {a : α} {Q : α → Sto → Prop} (h : Q a st) : (R.ok a st).wp Q := h
theorem w_bind {r : R α} {f : α → Sto → R β} {Q : β → Sto → Prop} (h : r.wp fun a st => (f a st).wp Q) : (r.bind f).wp Q := by rw [wp_bind]; exact h
theorem w_noex {r : R α} {Q : α → Sto → Prop} (h : r.wp Q) : r.noex.wp Q := by rw [wp_noex]; exact h
theorem w_opt {a : α} {Q : α → Sto → Prop} (h : Q a st) : (ofOpt (some a) st).wp Q := h
/-! statements -/
theorem w_ssnil (h : N env st) : (evSs T G F .nil env st).wp N V := by rw [evSs_nil]; exact h
theorem w_sscons {s : CS} {ss : CSs} (h : (evS T G F s env st).wp (fun env1 st1 => (evSs T G F ss env1 st1).wp N V) V) : (evSs T G F (.cons s ss) env st).wp N V := by rw [evSs_cons, wp_then]; exact h
theorem w_asg {t : Tg} {e : CE} (h : (evE T G F e env st).wp fun d st1 => (setT T G F t d env st1).wp N) : (evS T G F (.asg t e) env st).wp N V := by rw [evS_asg, wp_of]; exact h.mono fun d st1 q => by rw [wp_of]; exact q
theorem w_par2 {i j : Nat} {a b : CE} (h : (evE T G F a env st).wp fun d st1 => (evE T G F b env st1).wp fun e st2 => N ((env.set i (some d)).set j (some e)) st2) : (evS T G F (.par [i, j] (.cons a (.cons b .nil))) env st).wp N V := by
  rw [evS_par, wp_of, evEs_cons, wp_bind]
  refine h.mono fun d st1 q => ?_
  rw [wp_bind, evEs_cons, wp_bind]
  refine q.mono fun e st2 q => ?_
  rw [wp_bind, evEs_nil, wp_ok, wp_ok]
  exact q
theorem w_par3 {i j k : Nat} {a b c : CE} (h : (evE T G F a env st).wp fun d st1 => (evE T G F b env st1).wp fun e st2 => (evE T G F c env st2).wp fun g st3 => N (((env.set i (some d)).set j (some e)).set k (some g)) st3) : (evS T G F (.par [i, j, k] (.cons a (.cons b (.cons c .nil)))) env st).wp N V := by
  rw [evS_par, wp_of, evEs_cons, wp_bind]
  refine h.mono fun d st1 q => ?_
  rw [wp_bind, evEs_cons, wp_bind]
  refine q.mono fun e st2 q => ?_
  rw [wp_bind, evEs_cons, wp_bind]
  refine q.mono fun g st3 q => ?_
  rw [wp_bind, evEs_nil, wp_ok, wp_ok, wp_ok]
  exact q
theorem w_expr {e : CE} (h : (evE T G F e env st).wp fun _ st1 => N env st1) : (evS T G F (.expr e) env st).wp N V := by rw [evS_expr, wp_of]; exact h
theorem w_ret {e : CE} (h : (evE T G F e env st).wp V) : (evS T G F (.ret e) env st).wp N V := by rw [evS_ret, wp_of]; exact h
theorem w_retN (h : V .non st) : (evS T G F .retN env st).wp N V := by rw [evS_retN]; exact h
theorem w_pass (h : N env st) : (evS T G F .pass env st).wp N V := by rw [evS_pass]; exact h
theorem w_sife {c : CE} {a b : CSs} (h : (evE T G F c env st).wp fun d st1 => (asBool d st1).wp fun k st2 => (k = true → (evSs T G F a env st2).wp N V) ∧ (k = false → (evSs T G F b env st2).wp N V)) : (evS T G F (.ife c a b) env st).wp N V := by
  rw [evS_ife, wp_of, evT_eq, wp_bind]
  refine h.mono fun d st1 q => q.mono fun k st2 q => ?_
  cases k with
  | true => exact q.1 rfl
  | false => exact q.2 rfl
theorem w_for {t : Tg} {it : Itr} {b : CSs} (h : (evI T G F it env st).wp fun s st1 => (forLoop s (setT T G F t) (evSs T G F b) s.items env st1).wp N V) : (evS T G F (.for_ t it b) env st).wp N V := by rw [evS_for, wp_of]; exact h
theorem w_while {c : CE} {b : CSs} (h : (whileLoop (evT T G F c) (evSs T G F b) turns env st).wp N V) : (evS T G F (.while_ c b) env st).wp N V := by rw [evS_while]; exact h
/-! terms -/
theorem w_var {i : Nat} {d : D} (e : env[i]? = some (some d)) (h : Q d st) : (evE T G F (.var i) env st).wp Q := by rw [evE_var, e]; exact h
theorem w_int {i : Int} (h : Q (.int i) st) : (evE T G F (.lit (.int i)) env st).wp Q := by rw [evE_lit]; exact h
theorem w_str {x : Str} (h : Q (.str x) st) : (evE T G F (.lit (.str x)) env st).wp Q := by rw [evE_lit]; exact h
theorem w_bl {b : Bool} (h : Q (.bl b) st) : (evE T G F (.lit (.bl b)) env st).wp Q := by rw [evE_lit]; exact h
theorem w_non (h : Q .non st) : (evE T G F (.lit .non) env st).wp Q := by rw [evE_lit]; exact h
theorem w_glob {x : Str} {d : D} (e : G x = some d) (h : Q d st) : (evE T G F (.glob x) env st).wp Q := by rw [evE_glob, e]; exact h
theorem w_bin {op : Operator} {a b : CE} (h : (evE T G F a env st).wp fun d st1 => (evE T G F b env st1).wp fun e st2 => (binD op d e st2).wp Q) : (evE T G F (.bin op a b) env st).wp Q := by
  rw [evE_bin, wp_bind]
  exact h.mono fun d st1 q => by rw [wp_bind]; exact q
theorem w_neg {a : CE} (h : (evE T G F a env st).wp fun d st1 => ∃ i, d = .int i ∧ Q (.int (-i)) st1) : (evE T G F (.neg a) env st).wp Q := by
  rw [evE_neg, wp_bind]
  refine h.mono fun d st1 ⟨i, e, q⟩ => ?_
  subst e
  exact q
theorem w_cmp {op : CmpOp} {a b : CE} (h : (evE T G F a env st).wp fun d st1 => (evE T G F b env st1).wp fun e st2 => (ofOpt ((cmpD op d e st2).map D.bl) st2).wp Q) : (evE T G F (.cmp op a b) env st).wp Q := by
  rw [evE_cmp, wp_bind]
  exact h.mono fun d st1 q => by rw [wp_bind]; exact q
theorem w_chain {o1 o2 : CmpOp} {a b c : CE} (h : (evE T G F a env st).wp fun d st1 => (evE T G F b env st1).wp fun e st2 => (ofOpt ((cmpD o1 d e st2).map D.bl) st2).wp fun k st3 => (asBool k st3).wp fun k st3 =>
      (k = true → (evE T G F c env st3).wp fun g st4 => (ofOpt ((cmpD o2 e g st4).map D.bl) st4).wp Q) ∧ (k = false → Q (.bl false) st3)) : (evE T G F (.chain o1 o2 a b c) env st).wp Q := by
  rw [evE_chain, wp_bind]
  refine h.mono fun d st1 q => ?_
  rw [wp_bind]
  refine q.mono fun e st2 q => ?_
  cases e1 : cmpD o1 d e st2 with
  | none => rw [e1] at q; exact q.elim
  | some k =>
    rw [e1] at q
    cases k with
    | true =>
      show (((evE T G F c env st2).bind fun g st4 => ofOpt ((cmpD o2 e g st4).map D.bl) st4)).wp Q
      rw [wp_bind]
      exact q.1 rfl
    | false => exact q.2 rfl
theorem w_and {a b : CE} (h : (evE T G F a env st).wp fun d st1 => (asBool d st1).wp fun k st2 => (k = true → (evE T G F b env st2).wp Q) ∧ (k = false → Q (.bl false) st2)) : (evE T G F (.and_ a b) env st).wp Q := by
  rw [evE_and, wp_bind]
  refine h.mono fun d st1 q => ?_
  rw [wp_bind]
  refine q.mono fun k st2 q => ?_
  cases k with
  | true => exact q.1 rfl
  | false => exact q.2 rfl
theorem w_or {a b : CE} (h : (evE T G F a env st).wp fun d st1 => (asBool d st1).wp fun k st2 => (k = true → Q (.bl true) st2) ∧ (k = false → (evE T G F b env st2).wp Q)) : (evE T G F (.or_ a b) env st).wp Q := by
  rw [evE_or, wp_bind]
  refine h.mono fun d st1 q => ?_
  rw [wp_bind]
  refine q.mono fun k st2 q => ?_
  cases k with
  | true => exact q.1 rfl
  | false => exact q.2 rfl
theorem w_not {a : CE} (h : (evE T G F a env st).wp fun d st1 => (asBool d st1).wp fun k st2 => Q (.bl (!k)) st2) : (evE T G F (.not_ a) env st).wp Q := by
  rw [evE_not, wp_bind]
  exact h.mono fun d st1 q => by rw [wp_bind]; exact q
theorem w_ife {c a b : CE} (h : (evE T G F c env st).wp fun d st1 => (asBool d st1).wp fun k st2 => (k = true → (evE T G F a env st2).wp Q) ∧ (k = false → (evE T G F b env st2).wp Q)) : (evE T G F (.ife c a b) env st).wp Q := by
  rw [evE_ife, wp_bind]
  refine h.mono fun d st1 q => ?_
  rw [wp_bind]
  refine q.mono fun k st2 q => ?_
  cases k with
  | true => exact q.1 rfl
  | false => exact q.2 rfl
theorem w_esnil {Q : List D → Sto → Prop} (h : Q [] st) : (evEs T G F .nil env st).wp Q := by rw [evEs_nil]; exact h
theorem w_escons {e : CE} {es : CEs} {Q : List D → Sto → Prop} (h : (evE T G F e env st).wp fun d st1 => (evEs T G F es env st1).wp fun ds st2 => Q (d :: ds) st2) : (evEs T G F (.cons e es) env st).wp Q := by
  rw [evEs_cons, wp_bind]
  exact h.mono fun d st1 q => by rw [wp_bind]; exact q
def CEs.len : CEs → Nat
  | .nil => 0
  | .cons _ es => es.len + 1
theorem evEs_count {Q : List D → Sto → Prop} : ∀ {es : CEs} {st : Sto}, (evEs T G F es env st).wp Q → (evEs T G F es env st).wp fun ds st1 => ds.length = es.len ∧ Q ds st1
  | .nil, st, h => by rw [evEs_nil] at h ⊢; exact ⟨rfl, h⟩
  | .cons e es, st, h => by
    rw [evEs_cons, wp_bind] at h ⊢
    refine h.mono fun d st1 q => ?_
    rw [wp_bind] at q ⊢
    exact (evEs_count q).mono fun ds st2 q => ⟨by rw [List.length_cons, q.1]; rfl, q.2⟩
theorem w_tup {es : CEs} (h : (evEs T G F es env st).wp fun ds st1 => Q (.tup ds) st1) (hl : es.len ≤ sizeLine := by decide) : (evE T G F (.tup es) env st).wp Q := by
  rw [evE_tup, wp_bind]
  refine (evEs_count h).mono fun ds st1 q => ?_
  rw [if_pos (by rw [q.1]; exact hl)]
  exact q.2
theorem w_lst {es : CEs} (h : (evEs T G F es env st).wp fun ds st1 => (alloc (.lst false ds) st1).wp Q) (hl : es.len ≤ sizeLine := by decide) : (evE T G F (.lst es) env st).wp Q := by
  rw [evE_lst, wp_bind]
  refine (evEs_count h).mono fun ds st1 q => ?_
  rw [if_pos (by rw [q.1]; exact hl)]
  exact q.2
theorem w_sub {a i : CE} (h : (evE T G F a env st).wp fun d st1 => (evE T G F i env st1).wp fun k st2 => (subD d k st2).wp Q) : (evE T G F (.sub a i) env st).wp Q := by
  rw [evE_sub, wp_bind]
  exact h.mono fun d st1 q => by rw [wp_bind]; exact q
theorem w_slc {a : CE} {lo hi : Pt} (h : (evE T G F a env st).wp fun d st1 => (evP T G F lo env st1).wp fun l st2 => (evP T G F hi env st2).wp fun r st3 => (slcD d l r st3).wp Q) : (evE T G F (.slc a lo hi) env st).wp Q := by
  rw [evE_slc, wp_bind]
  refine h.mono fun d st1 q => ?_
  rw [wp_bind]
  exact q.mono fun l st2 q => by rw [wp_bind]; exact q
theorem w_pnone {Q : Option Int → Sto → Prop} (h : Q none st) : (evP T G F .none env st).wp Q := by rw [evP_none]; exact h
theorem w_psome {e : CE} {Q : Option Int → Sto → Prop} (h : (evE T G F e env st).wp fun d st1 => ∃ i, d = .int i ∧ Q (some i) st1) : (evP T G F (.some e) env st).wp Q := by
  rw [evP_some, wp_bind]
  refine h.mono fun d st1 ⟨i, e, q⟩ => ?_
  subst e
  exact q
theorem w_cnone {Q : Bool → Sto → Prop} (h : Q true st) : (evC T G F .none env st).wp Q := by rw [evC_none]; exact h
theorem w_csome {e : CE} {Q : Bool → Sto → Prop} (h : (evE T G F e env st).wp fun d st1 => (asBool d st1).wp Q) : (evC T G F (.some e) env st).wp Q := by rw [evC_some, wp_bind]; exact h
theorem w_evT {e : CE} {Q : Bool → Sto → Prop} (h : (evE T G F e env st).wp fun d st1 => (asBool d st1).wp Q) : (evT T G F e env st).wp Q := by rw [evT_eq, wp_bind]; exact h
theorem w_call {f : Str} {es : CEs} (h : (evEs T G F es env st).wp fun ds st1 => (F f ds st1).wp Q) : (evE T G F (.call f es) env st).wp Q := by rw [evE_call, wp_bind]; exact h
theorem w_callk {f : Str} {es ws : CEs} {ks : List Str} {fn : Fn} (ht : T f = some fn) (h : (evEs T G F es env st).wp fun ds st1 => (evEs T G F ws env st1).wp fun zs st2 => ∃ as, bindKw fn.ps ds ks zs = some as ∧ (F f as st2).wp Q) : (evE T G F (.callk f es ks ws) env st).wp Q := by
  rw [evE_callk, wp_bind]
  refine h.mono fun ds st1 q => ?_
  rw [wp_bind]
  refine q.mono fun zs st2 ⟨as, e, q⟩ => ?_
  rw [ht]
  show (match bindKw fn.ps ds ks zs with | some as => F f as st2 | none => .bad).wp Q
  rw [e]
  exact q
theorem w_blt {b : Blt} {es : CEs} (h : (evEs T G F es env st).wp fun ds st1 => (bltD b ds st1).wp Q) : (evE T G F (.blt b es) env st).wp Q := by rw [evE_blt, wp_bind]; exact h
theorem w_isi {a : CE} {t : Ty} (h : (evE T G F a env st).wp fun d st1 => (ofOpt ((isiD t d st1).map D.bl) st1).wp Q) : (evE T G F (.isi a t) env st).wp Q := by rw [evE_isi, wp_bind]; exact h
theorem w_meth {m : Mth} {o : CE} {es : CEs} (h : (evE T G F o env st).wp fun d st1 => (∃ xs, listOf st1 d = some xs) ∧ (evEs T G F es env st1).wp fun ds st2 => (mthD m d ds st2).wp Q) : (evE T G F (.meth m o es) env st).wp Q := by
  rw [evE_meth, wp_bind]
  refine h.mono fun d st1 ⟨⟨xs, e⟩, q⟩ => ?_
  rw [e]
  show ((evEs T G F es env st1).bind fun ds st2 => mthD m d ds st2).wp Q
  rw [wp_bind]
  exact q
/-- what a comprehension does with an item -/
noncomputable def lcF (T : Tab) (G : Gb) (F : Str → List D → Sto → R D) (elt : CE) (tg : Tg) (cond : Pt) (env : En) (d : D) (st2 : Sto) : R (Option D) :=
  (setT T G F tg d env st2).bind fun env2 st3 => (evC T G F cond env2 st3).noex.bind fun k st4 => if k = true then (evE T G F elt env2 st4).noex.bind fun y st5 => .ok (some y) st5 else .ok none st4
theorem w_lcF {elt : CE} {tg : Tg} {cond : Pt} {d : D} {Q : Option D → Sto → Prop} (h : (setT T G F tg d env st).wp fun env2 st3 => (evC T G F cond env2 st3).wp fun k st4 => (k = true → (evE T G F elt env2 st4).wp fun y st5 => Q (some y) st5) ∧ (k = false → Q none st4)) : (lcF T G F elt tg cond env d st).wp Q := by
  unfold lcF
  rw [wp_bind]
  refine h.mono fun env2 st3 q => ?_
  rw [wp_bind, wp_noex]
  refine q.mono fun k st4 q => ?_
  cases k with
  | true =>
    rw [if_pos rfl, wp_bind, wp_noex]
    exact q.1 rfl
  | false => exact q.2 rfl
theorem w_lc {elt : CE} {tg : Tg} {it : Itr} {cond : Pt} {own : List Nat} (h : (evI T G F it env st).wp fun s st1 => (lcLoop s (lcF T G F elt tg cond (wipeE env own)) s.items [] st1).wp fun ys st2 => (alloc (.lst false ys) st2).wp Q) : (evE T G F (.lc elt tg it cond own) env st).wp Q := by
  rw [evE_lc, wp_bind]
  refine h.mono fun s st1 q => ?_
  rw [wp_bind, wp_noex]
  exact q
theorem w_iseq {e : CE} {Q : Src → Sto → Prop} (h : (evE T G F e env st).wp fun d st1 => (srcSeq d st1).wp Q) : (evI T G F (.seq e) env st).wp Q := by rw [evI_seq, wp_bind]; exact h
theorem w_irng1 {e : CE} {Q : Src → Sto → Prop} (h : (evE T G F e env st).wp fun d st1 => (srcRng (.int 0) d st1).wp Q) : (evI T G F (.rng1 e) env st).wp Q := by rw [evI_rng1, wp_bind]; exact h
theorem w_irng2 {a b : CE} {Q : Src → Sto → Prop} (h : (evE T G F a env st).wp fun d st1 => (evE T G F b env st1).wp fun e st2 => (srcRng d e st2).wp Q) : (evI T G F (.rng2 a b) env st).wp Q := by
  rw [evI_rng2, wp_bind]
  exact h.mono fun d st1 q => by rw [wp_bind]; exact q
theorem w_ienum {e : CE} {Q : Src → Sto → Prop} (h : (evE T G F e env st).wp fun d st1 => (srcEnum d st1).wp Q) : (evI T G F (.enum e) env st).wp Q := by rw [evI_enum, wp_bind]; exact h
theorem w_izip {a b : CE} {Q : Src → Sto → Prop} (h : (evE T G F a env st).wp fun d st1 => (evE T G F b env st1).wp fun e st2 => (srcZip d e st2).wp Q) : (evI T G F (.zip a b) env st).wp Q := by
  rw [evI_zip, wp_bind]
  exact h.mono fun d st1 q => by rw [wp_bind]; exact q
/-! targets -/
theorem w_nm {i : Nat} {d : D} (h : N (env.set i (some d)) st) : (setT T G F (.nm i) d env st).wp N := by rw [setT_nm]; exact h
theorem w_tp {ts : Tgs} {ds : List D} (h : (setTs T G F ts ds env st).wp N) : (setT T G F (.tp ts) (.tup ds) env st).wp N := by rw [setT_tp]; exact h
theorem w_tsnil (h : N env st) : (setTs T G F .nil [] env st).wp N := by rw [setTs_nil]; exact h
theorem w_tscons {t : Tg} {ts : Tgs} {d : D} {r : List D} (h : (setT T G F t d env st).wp fun env1 st1 => (setTs T G F ts r env1 st1).wp N) : (setTs T G F (.cons t ts) (d :: r) env st).wp N := by rw [setTs_cons, wp_bind]; exact h
theorem w_sb {a i : CE} {d : D} (h : (evE T G F a env st).wp fun o st1 => (evE T G F i env st1).wp fun k st2 => (setD o k d st2).wp fun _ st3 => N env st3) : (setT T G F (.sb a i) d env st).wp N := by
  rw [setT_sb, wp_bind, wp_noex]
  refine h.mono fun o st1 q => ?_
  rw [wp_bind, wp_noex]
  refine q.mono fun k st2 q => ?_
  rw [wp_bind]
  exact q
/-! what the operations do -/
theorem o_add {i j : Int} (h : Q (.int (i + j)) st) : (binD .Add (.int i) (.int j) st).wp Q := h
theorem o_sub {i j : Int} (h : Q (.int (i - j)) st) : (binD .Sub (.int i) (.int j) st).wp Q := h
theorem o_mul {i j : Int} (b : (-(2 ^ 64) < i ∧ i < 2 ^ 64) ∨ (-(2 ^ 64) < j ∧ j < 2 ^ 64)) (h : Q (.int (i * j)) st) : (binD .Mult (.int i) (.int j) st).wp Q := by
  show (if _ then R.ok (D.int (i * j)) st else .bad).wp Q
  rw [if_pos b]
  exact h
theorem o_div {i j : Int} (b : 0 < j ∧ j < 1073741824) (h : Q (.int (i / j)) st) : (binD .FloorDiv (.int i) (.int j) st).wp Q := by
  show (if _ then R.ok (D.int (i / j)) st else .bad).wp Q
  rw [if_pos b]
  exact h
theorem o_mod {i j : Int} (b : 0 < j) (h : Q (.int (i % j)) st) : (binD .Mod (.int i) (.int j) st).wp Q := by
  show (if _ then R.ok (D.int (i % j)) st else .bad).wp Q
  rw [if_pos b]
  exact h
theorem o_pow {i j : Int} (b : 0 ≤ j ∧ j ≤ 1000000 ∧ i.natAbs < 18446744073709551616) (h : Q (.int (i ^ j.toNat)) st) : (binD .Pow (.int i) (.int j) st).wp Q := by
  have e : binD .Pow (.int i) (.int j) st = if 0 ≤ j ∧ j ≤ 1000000 ∧ i.natAbs < 2 ^ 64 then .ok (.int (i ^ j.toNat)) st else .bad := rfl
  rw [e, if_pos (by simpa using b)]
  exact h
theorem o_addT {xs ys : List D} (b : xs.length + ys.length ≤ sizeLine) (h : Q (.tup (xs ++ ys)) st) : (binD .Add (.tup xs) (.tup ys) st).wp Q := by
  show (if _ then R.ok (D.tup (xs ++ ys)) st else .bad).wp Q
  rw [if_pos b]
  exact h
theorem o_lt {i j : Int} (h : Q (.bl (decide (i < j))) st) : (ofOpt ((cmpD .Lt (.int i) (.int j) st).map D.bl) st).wp Q := h
theorem o_le {i j : Int} (h : Q (.bl (decide (i ≤ j))) st) : (ofOpt ((cmpD .LtE (.int i) (.int j) st).map D.bl) st).wp Q := h
theorem o_gt {i j : Int} (h : Q (.bl (decide (j < i))) st) : (ofOpt ((cmpD .Gt (.int i) (.int j) st).map D.bl) st).wp Q := h
theorem o_ge {i j : Int} (h : Q (.bl (decide (j ≤ i))) st) : (ofOpt ((cmpD .GtE (.int i) (.int j) st).map D.bl) st).wp Q := h
theorem o_eqI {i j : Int} (h : Q (.bl (decide (i = j))) st) : (ofOpt ((cmpD .Eq (.int i) (.int j) st).map D.bl) st).wp Q := h
theorem o_neI {i j : Int} (h : Q (.bl (!decide (i = j))) st) : (ofOpt ((cmpD .NotEq (.int i) (.int j) st).map D.bl) st).wp Q := h
theorem o_eqS {i j : Str} (h : Q (.bl (decide (i = j))) st) : (ofOpt ((cmpD .Eq (.str i) (.str j) st).map D.bl) st).wp Q := h
theorem o_neS {i j : Str} (h : Q (.bl (!decide (i = j))) st) : (ofOpt ((cmpD .NotEq (.str i) (.str j) st).map D.bl) st).wp Q := h
theorem o_eqB {i j : Bool} (h : Q (.bl (decide (i = j))) st) : (ofOpt ((cmpD .Eq (.bl i) (.bl j) st).map D.bl) st).wp Q := h
theorem o_neB {i j : Bool} (h : Q (.bl (!decide (i = j))) st) : (ofOpt ((cmpD .NotEq (.bl i) (.bl j) st).map D.bl) st).wp Q := h
theorem o_isN (h : Q (.bl true) st) : (ofOpt ((cmpD .Is .non .non st).map D.bl) st).wp Q := h
theorem o_isI {i : Int} (h : Q (.bl false) st) : (ofOpt ((cmpD .Is (.int i) .non st).map D.bl) st).wp Q := h
theorem o_isB {i : Bool} (h : Q (.bl false) st) : (ofOpt ((cmpD .Is (.bl i) .non st).map D.bl) st).wp Q := h
theorem o_isS {i : Str} (h : Q (.bl false) st) : (ofOpt ((cmpD .Is (.str i) .non st).map D.bl) st).wp Q := h
theorem o_isT {i : List D} (h : Q (.bl false) st) : (ofOpt ((cmpD .Is (.tup i) .non st).map D.bl) st).wp Q := h
theorem o_inN (h : Q (.bl false) st) : (ofOpt ((cmpD .IsNot .non .non st).map D.bl) st).wp Q := h
theorem o_inI {i : Int} (h : Q (.bl true) st) : (ofOpt ((cmpD .IsNot (.int i) .non st).map D.bl) st).wp Q := h
theorem o_inB {i : Bool} (h : Q (.bl true) st) : (ofOpt ((cmpD .IsNot (.bl i) .non st).map D.bl) st).wp Q := h
theorem o_inS {i : Str} (h : Q (.bl true) st) : (ofOpt ((cmpD .IsNot (.str i) .non st).map D.bl) st).wp Q := h
theorem o_inT {i : List D} (h : Q (.bl true) st) : (ofOpt ((cmpD .IsNot (.tup i) .non st).map D.bl) st).wp Q := h
theorem o_isiN {t : Ty} (b : Bool) (e : (false) = b) (h : Q (.bl b) st) : (ofOpt ((isiD t .non st).map D.bl) st).wp Q := by subst e; exact h
theorem o_isiI {i : Int} {t : Ty} (b : Bool) (e : (t == .int) = b) (h : Q (.bl b) st) : (ofOpt ((isiD t (.int i) st).map D.bl) st).wp Q := by subst e; exact h
theorem o_isiB {i : Bool} {t : Ty} (b : Bool) (e : (t == .bool || t == .int) = b) (h : Q (.bl b) st) : (ofOpt ((isiD t (.bl i) st).map D.bl) st).wp Q := by subst e; exact h
theorem o_isiS {i : Str} {t : Ty} (b : Bool) (e : (t == .str) = b) (h : Q (.bl b) st) : (ofOpt ((isiD t (.str i) st).map D.bl) st).wp Q := by subst e; exact h
theorem o_isiT {i : List D} {t : Ty} (b : Bool) (e : (t == .tuple) = b) (h : Q (.bl b) st) : (ofOpt ((isiD t (.tup i) st).map D.bl) st).wp Q := by subst e; exact h
theorem o_isiR {l : Nat} {f : Bool} {ds : List D} {t : Ty} (e : st[l]? = some (.lst f ds)) (b : Bool) (eb : (t == .list) = b) (h : Q (.bl b) st) : (ofOpt ((isiD t (.ref l) st).map D.bl) st).wp Q := by
  subst eb
  unfold isiD
  dsimp only
  rw [e]
  exact h
theorem o_asB {b : Bool} {Q : Bool → Sto → Prop} (h : Q b st) : (asBool (.bl b) st).wp Q := h
theorem atI_nat {α : Type} {xs : List α} {k : Nat} : L2.atI xs (k : Int) = xs[k]? := by
  unfold L2.atI L2.ixN
  rw [if_pos (by omega)]
  by_cases h : k < xs.length
  · rw [if_pos (by omega)]
    rfl
  · rw [if_neg (by omega), List.getElem?_eq_none (by omega)]
    rfl
theorem atI_of {α : Type} {xs : List α} {i : Int} {a : α} (h0 : 0 ≤ i) (h : xs[i.toNat]? = some a) : L2.atI xs i = some a := by
  have e : i = (i.toNat : Int) := by omega
  rw [e, atI_nat]
  exact h
theorem o_subT {ds : List D} {i : Int} {d : D} (e : L2.atI ds i = some d) (h : Q d st) : (subD (.tup ds) (.int i) st).wp Q := by
  show (ofOpt (L2.atI ds i) st).wp Q
  rw [e]
  exact h
theorem o_subR {ds : List D} {i : Int} {d : D} {l : Nat} {f : Bool} (hl : st[l]? = some (.lst f ds)) (e : L2.atI ds i = some d) (h : Q d st) : (subD (.ref l) (.int i) st).wp Q := by
  unfold subD
  dsimp only
  rw [hl]
  show (ofOpt (L2.atI ds i) st).wp Q
  rw [e]
  exact h
theorem o_sub0 {a : D} {r : List D} (h : Q a st) : (subD (.tup (a :: r)) (.int 0) st).wp Q := o_subT (atI_of (by omega) rfl) h
theorem o_sub1 {a b : D} {r : List D} (h : Q b st) : (subD (.tup (a :: b :: r)) (.int 1) st).wp Q := o_subT (atI_of (by omega) rfl) h
theorem o_sub2 {a b c : D} {r : List D} (h : Q c st) : (subD (.tup (a :: b :: c :: r)) (.int 2) st).wp Q := o_subT (atI_of (by omega) rfl) h
theorem o_sub3 {a b c d : D} {r : List D} (h : Q d st) : (subD (.tup (a :: b :: c :: d :: r)) (.int 3) st).wp Q := o_subT (atI_of (by omega) rfl) h
theorem o_sub4 {a b c d e : D} {r : List D} (h : Q e st) : (subD (.tup (a :: b :: c :: d :: e :: r)) (.int 4) st).wp Q := o_subT (atI_of (by omega) rfl) h
theorem o_subr0 {l : Nat} {f : Bool} {a : D} {r : List D} (hl : st[l]? = some (.lst f (a :: r))) (h : Q a st) : (subD (.ref l) (.int 0) st).wp Q := o_subR hl (atI_of (by omega) rfl) h
theorem o_subr1 {l : Nat} {f : Bool} {a b : D} {r : List D} (hl : st[l]? = some (.lst f (a :: b :: r))) (h : Q b st) : (subD (.ref l) (.int 1) st).wp Q := o_subR hl (atI_of (by omega) rfl) h
theorem o_subr2 {l : Nat} {f : Bool} {a b c : D} {r : List D} (hl : st[l]? = some (.lst f (a :: b :: c :: r))) (h : Q c st) : (subD (.ref l) (.int 2) st).wp Q := o_subR hl (atI_of (by omega) rfl) h
theorem set_get {l : Nat} {o u : AO} (h : st[l]? = some u) : (st.set l o)[l]? = some o := by
  rw [List.getElem?_set_self (List.getElem?_eq_some_iff.mp h).1]
theorem o_set {Q : Unit → Sto → Prop} {l j : Nat} {i : Int} {v : D} {ds : List D} (hl : st[l]? = some (.lst false ds)) (hj : L2.ixN ds.length i = some j) (h : ∀ st', Kp l st st' → st'.length = st.length → st'[l]? = some (.lst false (ds.set j v)) → Q () st') : (setD (.ref l) (.int i) v st).wp Q := by
  unfold setD
  dsimp only
  rw [hl]
  show (match L2.ixN ds.length i with | some j => R.ok () (st.set l (.lst false (ds.set j v))) | none => .bad).wp Q
  rw [hj]
  exact h _ (Kp.set _ _ _) (List.length_set ..) (set_get hl)
theorem o_set0 {Q : Unit → Sto → Prop} {l : Nat} {v a : D} {r : List D} (hl : st[l]? = some (.lst false (a :: r))) (h : ∀ st', Kp l st st' → st'.length = st.length → st'[l]? = some (.lst false (v :: r)) → Q () st') : (setD (.ref l) (.int 0) v st).wp Q := o_set hl (j := 0) (by unfold L2.ixN; rw [if_pos (by omega), if_pos (by simp)]; rfl) h
theorem o_set1 {Q : Unit → Sto → Prop} {l : Nat} {v a b : D} {r : List D} (hl : st[l]? = some (.lst false (a :: b :: r))) (h : ∀ st', Kp l st st' → st'.length = st.length → st'[l]? = some (.lst false (a :: v :: r)) → Q () st') : (setD (.ref l) (.int 1) v st).wp Q := o_set hl (j := 1) (by unfold L2.ixN; rw [if_pos (by omega), if_pos (by simp; omega)]; rfl) h
theorem o_set2 {Q : Unit → Sto → Prop} {l : Nat} {v a b c : D} {r : List D} (hl : st[l]? = some (.lst false (a :: b :: c :: r))) (h : ∀ st', Kp l st st' → st'.length = st.length → st'[l]? = some (.lst false (a :: b :: v :: r)) → Q () st') : (setD (.ref l) (.int 2) v st).wp Q := o_set hl (j := 2) (by unfold L2.ixN; rw [if_pos (by omega), if_pos (by simp; omega)]; rfl) h
theorem o_alloc {o : AO} (h : ∀ st', Ext st st' → st'.length = st.length + 1 → st'[st.length]? = some o → Q (.ref st.length) st') : (alloc o st).wp Q :=
  h _ (Ext.app _ _) (by simp) (by simp)
theorem o_append {l : Nat} {xs : List D} {d : D} (hl : st[l]? = some (.lst false xs)) (hn : xs.length < sizeLine) (h : ∀ st', Kp l st st' → st'.length = st.length → st'[l]? = some (.lst false (xs ++ [d])) → Q .non st') : (mthD .append (.ref l) [d] st).wp Q := by
  unfold mthD
  dsimp only
  rw [hl]
  show (if xs.length < sizeLine then R.ok .non (st.set l (.lst false (xs ++ [d]))) else .bad).wp Q
  rw [if_pos hn]
  exact h _ (Kp.set _ _ _) (List.length_set ..) (set_get hl)
theorem o_lenT {xs : List D} (h : Q (.int xs.length) st) : (bltD .len [.tup xs] st).wp Q := h
theorem o_lenR {l : Nat} {f : Bool} {xs : List D} (hl : st[l]? = some (.lst f xs)) (h : Q (.int xs.length) st) : (bltD .len [.ref l] st).wp Q := by
  unfold bltD seqOf listOf
  dsimp only
  rw [hl]
  exact h
theorem o_tupR {l : Nat} {f : Bool} {xs : List D} (hl : st[l]? = some (.lst f xs)) (h : Q (.tup xs) st) : (bltD .tuple [.ref l] st).wp Q := by
  unfold bltD seqOf listOf
  dsimp only
  rw [hl]
  exact h
theorem o_tupT {xs : List D} (h : Q (.tup xs) st) : (bltD .tuple [.tup xs] st).wp Q := h
theorem o_intI {i : Int} (h : Q (.int i) st) : (bltD .int [.int i] st).wp Q := h
theorem o_abs {i : Int} (h : Q (.int (if i < 0 then -i else i)) st) : (bltD .abs [.int i] st).wp Q := h
theorem o_min {i j : Int} (h : Q (.int (if j < i then j else i)) st) : (bltD .min [.int i, .int j] st).wp Q := h
theorem o_max {i j : Int} (h : Q (.int (if j > i then j else i)) st) : (bltD .max [.int i, .int j] st).wp Q := h
theorem o_divmod {i j : Int} (b : 0 < j ∧ j < 1073741824) (h : Q (.tup [.int (i / j), .int (i % j)]) st) : (bltD .divmod [.int i, .int j] st).wp Q := by
  show (if _ then R.ok (D.tup [.int (i / j), .int (i % j)]) st else .bad).wp Q
  rw [if_pos b]
  exact h
theorem optAll_map {α β : Type} {f : α → Option β} (g : β → α) (h : ∀ b, f (g b) = some b) : ∀ bs : List β, optAll f (bs.map g) = some bs
  | [] => rfl
  | b :: bs => by
    show (match f (g b), optAll f (bs.map g) with | some y, some ys => some (y :: ys) | _, _ => none) = _
    rw [h, optAll_map g h bs]
theorem o_all {l : Nat} {f : Bool} {bs : List Bool} (hl : st[l]? = some (.lst f (bs.map D.bl))) (h : Q (.bl (bs.all id)) st) : (bltD .all [.ref l] st).wp Q := by
  unfold bltD listOf
  dsimp only
  rw [hl]
  show (ofOpt (((optAll boolOf (bs.map D.bl))).map fun bs => D.bl (bs.all id)) st).wp Q
  rw [optAll_map D.bl fun _ => rfl]
  exact h
theorem o_any {l : Nat} {f : Bool} {bs : List Bool} (hl : st[l]? = some (.lst f (bs.map D.bl))) (h : Q (.bl (bs.any id)) st) : (bltD .any [.ref l] st).wp Q := by
  unfold bltD listOf
  dsimp only
  rw [hl]
  show (ofOpt (((optAll boolOf (bs.map D.bl))).map fun bs => D.bl (bs.any id)) st).wp Q
  rw [optAll_map D.bl fun _ => rfl]
  exact h
theorem o_sum {l : Nat} {f : Bool} {ns : List Int} (hl : st[l]? = some (.lst f (ns.map D.int))) (h : Q (.int ns.sum) st) : (bltD .sum [.ref l] st).wp Q := by
  unfold bltD seqOf listOf
  dsimp only
  rw [hl]
  show (ofOpt (((optAll intOf (ns.map D.int))).map fun ns => D.int ns.sum) st).wp Q
  rw [optAll_map D.int fun _ => rfl]
  exact h
theorem o_sumT {ns : List Int} (h : Q (.int ns.sum) st) : (bltD .sum [.tup (ns.map D.int)] st).wp Q := by
  show (ofOpt (((optAll intOf (ns.map D.int))).map fun ns => D.int ns.sum) st).wp Q
  rw [optAll_map D.int fun _ => rfl]
  exact h
theorem o_rep {l : Nat} {k : Int} {xs : List D} (hl : st[l]? = some (.lst false xs)) (hk : -9223372036854775808 ≤ k ∧ k < 9223372036854775808 ∧ xs.length * k.toNat ≤ sizeLine) (h : (alloc (.lst false (List.replicate k.toNat xs).flatten) st).wp Q) : (binD .Mult (.ref l) (.int k) st).wp Q := by
  unfold binD
  dsimp only
  rw [hl]
  show (if -(2 ^ 63) ≤ k ∧ k < 2 ^ 63 ∧ xs.length * k.toNat ≤ sizeLine then alloc (.lst false (List.replicate k.toNat xs).flatten) st else .bad).wp Q
  rw [if_pos (by simpa using hk)]
  exact h
theorem o_cat {l m : Nat} {xs ys : List D} (hl : st[l]? = some (.lst false xs)) (hm : st[m]? = some (.lst false ys)) (hk : xs.length + ys.length ≤ sizeLine) (h : (alloc (.lst false (xs ++ ys)) st).wp Q) : (binD .Add (.ref l) (.ref m) st).wp Q := by
  unfold binD
  dsimp only
  rw [hl, hm]
  show (if xs.length + ys.length ≤ sizeLine then alloc (.lst false (xs ++ ys)) st else .bad).wp Q
  rw [if_pos hk]
  exact h
theorem o_slcT {xs : List D} {lo hi : Option Int} (h : Q (.tup (cut xs lo hi)) st) : (slcD (.tup xs) lo hi st).wp Q := h
theorem o_slcR {l : Nat} {f : Bool} {xs : List D} {lo hi : Option Int} (hl : st[l]? = some (.lst f xs)) (h : (alloc (.lst false (cut xs lo hi)) st).wp Q) : (slcD (.ref l) lo hi st).wp Q := by
  unfold slcD
  dsimp only
  rw [hl]
  exact h
theorem o_sqT {xs : List D} {Q : Src → Sto → Prop} (h : Q ⟨xs, []⟩ st) : (srcSeq (.tup xs) st).wp Q := h
theorem o_sqR {l : Nat} {f : Bool} {xs : List D} {Q : Src → Sto → Prop} (hl : st[l]? = some (.lst f xs)) (h : Q ⟨xs, [(l, xs)]⟩ st) : (srcSeq (.ref l) st).wp Q := by
  unfold srcSeq
  dsimp only
  rw [hl]
  exact h
theorem o_rng {i j : Int} {Q : Src → Sto → Prop} (b : -4611686018427387904 ≤ i ∧ i < 4611686018427387904 ∧ -4611686018427387904 ≤ j ∧ j < 4611686018427387904) (h : Q ⟨rangeL i (j - i).toNat, []⟩ st) : (srcRng (.int i) (.int j) st).wp Q := by
  have e : srcRng (.int i) (.int j) st = if -(2 ^ 62) ≤ i ∧ i < 2 ^ 62 ∧ -(2 ^ 62) ≤ j ∧ j < 2 ^ 62 then .ok ⟨rangeL i (j - i).toNat, []⟩ st else .bad := by unfold srcRng <;> rfl
  rw [e, if_pos (by simpa using b)]
  exact h
theorem o_enT {xs : List D} {Q : Src → Sto → Prop} (h : Q ⟨enumL 0 xs, []⟩ st) : (srcEnum (.tup xs) st).wp Q := h
theorem o_enR {l : Nat} {f : Bool} {xs : List D} {Q : Src → Sto → Prop} (hl : st[l]? = some (.lst f xs)) (h : Q ⟨enumL 0 xs, [(l, xs)]⟩ st) : (srcEnum (.ref l) st).wp Q := by
  unfold srcEnum
  dsimp only
  rw [hl]
  exact h
theorem o_zpT {xs ys : List D} {Q : Src → Sto → Prop} (h : Q ⟨zipL xs ys, []⟩ st) : (srcZip (.tup xs) (.tup ys) st).wp Q := h
/-! tests -/
theorem b_dec {p : Prop} [Decidable p] {A B : Prop} (h : (p → A) ∧ (¬p → B)) : (decide p = true → A) ∧ (decide p = false → B) := ⟨fun e => h.1 (of_decide_eq_true e), fun e => h.2 (of_decide_eq_false e)⟩
theorem b_ndec {p : Prop} [Decidable p] {A B : Prop} (h : (p → B) ∧ (¬p → A)) : ((!decide p) = true → A) ∧ ((!decide p) = false → B) :=
  And.intro (fun e => h.2 (of_decide_eq_false (by simpa using e))) (fun e => h.1 (by simpa using e))
theorem b_true {A B : Prop} (h : A) : (true = true → A) ∧ (true = false → B) := ⟨fun _ => h, fun e => nomatch e⟩
theorem b_false {A B : Prop} (h : B) : (false = true → A) ∧ (false = false → B) := ⟨(fun e => nomatch e), fun _ => h⟩
theorem b_ntrue {A B : Prop} (h : B) : ((!true) = true → A) ∧ ((!true) = false → B) := ⟨fun e => absurd e (by decide), fun _ => h⟩
theorem b_nfalse {A B : Prop} (h : A) : ((!false) = true → A) ∧ ((!false) = false → B) := ⟨fun _ => h, fun e => absurd e (by decide)⟩
theorem x_int {i : Int} {P : Int → Prop} (h : P i) : ∃ j, D.int i = .int j ∧ P j := ⟨i, rfl, h⟩
theorem x_lst {l : Nat} {f : Bool} {xs : List D} {A : Prop} (hl : st[l]? = some (.lst f xs)) (h : A) : (∃ xs, listOf st (.ref l) = some xs) ∧ A := ⟨⟨xs, by unfold listOf; dsimp only; rw [hl]⟩, h⟩
/-! items -/
theorem rangeL_len (lo : Int) (n : Nat) : (rangeL lo n).length = n := by simp [rangeL]
theorem rangeL_at {lo : Int} {n i : Nat} {d : D} (h : (rangeL lo n)[i]? = some d) : i < n ∧ d = .int (lo + (i : Int)) := by
  unfold rangeL at h
  rw [List.getElem?_map] at h
  by_cases q : i < n
  · rw [List.getElem?_range q] at h
    exact ⟨q, (Option.some.inj h).symm⟩
  · rw [List.getElem?_eq_none (by simp; omega)] at h
    cases h
theorem enumL_count : ∀ (xs : List D) (k : Nat), (enumL k xs).length = xs.length
  | [], _ => rfl
  | x :: xs, k => by show (enumL (k + 1) xs).length + 1 = _; rw [enumL_count]; rfl
theorem enumL_at : ∀ {xs : List D} {k i : Nat} {d : D}, (enumL k xs)[i]? = some d → ∃ x, xs[i]? = some x ∧ d = .tup [.int ((k + i : Nat) : Int), x]
  | [], _, _, _, h => nomatch h
  | x :: xs, k, 0, d, h => ⟨x, rfl, by have e : D.tup [.int (k : Int), x] = d := Option.some.inj h; rw [← e]; rfl⟩
  | x :: xs, k, i + 1, d, h => by
    obtain ⟨y, h1, h2⟩ := enumL_at (k := k + 1) (i := i) (xs := xs) h
    exact ⟨y, h1, by rw [h2, show k + 1 + i = k + (i + 1) from by omega]⟩
theorem zipL_count : ∀ (xs ys : List D), (zipL xs ys).length = min xs.length ys.length
  | [], ys => by simp [zipL]
  | x :: xs, [] => by simp [zipL]
  | x :: xs, y :: ys => by
    show (zipL xs ys).length + 1 = _
    rw [zipL_count]
    simp only [List.length_cons]
    omega
theorem zipL_at : ∀ {xs ys : List D} {i : Nat} {d : D}, (zipL xs ys)[i]? = some d → ∃ x y, xs[i]? = some x ∧ ys[i]? = some y ∧ d = .tup [x, y]
  | [], _, _, _, h => by simp [zipL] at h
  | x :: xs, [], _, _, h => by simp [zipL] at h
  | x :: xs, y :: ys, 0, d, h => ⟨x, y, rfl, rfl, (Option.some.inj h).symm⟩
  | x :: xs, y :: ys, i + 1, d, h => zipL_at (xs := xs) (ys := ys) (i := i) h
end
end Ab

set_option Elab.async false
set_option linter.all false
set_option autoImplicit false
set_option maxRecDepth 10000
/-! AbLoop: comprehensions whose items are known, parts of rows. -/
namespace Ab
open PySem
section
variable {s : Src} {f : D → Sto → R (Option D)} {Q : List D → Sto → Prop} {items : List D} {st : Sto}
theorem list_eq_map {α β : Type} {g : α → β} : ∀ {ys : List β} (xs : List α), ys.length = xs.length → (∀ (i : Nat) (y : β) (x : α), ys[i]? = some y → xs[i]? = some x → y = g x) → ys = xs.map g
  | [], [], _, _ => rfl
  | y :: ys, x :: xs, h, e => by
    rw [List.map_cons, e 0 y x rfl rfl, list_eq_map xs (by simpa using h) fun i y x a b => e (i + 1) y x a b]
/-- each item's value by its place -/
theorem lc_range (S : Sto → Prop) {β : Type} (g : β → D) (h : Nat → β) (hn : items.length ≤ sizeLine) (h0 : S st) (still : ∀ st, S st → s.still st)
    (step : ∀ (i : Nat) d st, items[i]? = some d → S st → (f d st).wp fun r st1 => r = some (g (h i)) ∧ S st1)
    (fin : ∀ st, S st → Q (((List.range items.length).map h).map g) st) : (lcLoop s f items [] st).wp Q := by
  refine lc_map S (fun i y => y = g (h i)) hn h0 still (fun i d st e q => (step i d st e q).mono fun r st1 ⟨a, b⟩ => ⟨_, a, rfl, b⟩) (fun ys st hl hp q => ?_)
  have e : ys = ((List.range items.length).map h).map g := by
    rw [List.map_map]
    refine list_eq_map _ (by simpa using hl) fun i y x a b => ?_
    have hi := (List.getElem?_eq_some_iff.mp a).1
    rw [List.getElem?_range (by omega)] at b
    cases b
    exact hp i y a
  rw [e]
  exact fin st q
/-- each item's value by the item -/
theorem lc_fun {α β : Type} {s : Src} {f : D → Sto → R (Option D)} {Q : List D → Sto → Prop} {st : Sto} (xs : List α) (g0 : α → D) (S : Sto → Prop) (g : β → D) (h : α → β) (hn : xs.length ≤ sizeLine) (h0 : S st) (still : ∀ st, S st → s.still st)
    (step : ∀ x ∈ xs, ∀ st, S st → (f (g0 x) st).wp fun r st1 => r = some (g (h x)) ∧ S st1)
    (fin : ∀ st, S st → Q ((xs.map h).map g) st) : (lcLoop s f (xs.map g0) [] st).wp Q := by
  refine lc_map S (fun i y => ∃ x, xs[i]? = some x ∧ y = g (h x)) (by rw [List.length_map]; exact hn) h0 still (fun i d st e q => ?_) (fun ys st hl hp q => ?_)
  · rw [List.getElem?_map] at e
    cases ex : xs[i]? with
    | none => rw [ex] at e; cases e
    | some x =>
      rw [ex] at e
      cases e
      exact (step x (List.mem_of_getElem? ex) st q).mono fun r st1 ⟨a, b⟩ => ⟨_, a, ⟨x, rfl, rfl⟩, b⟩
  · have e : ys = (xs.map h).map g := by
      rw [List.map_map]
      refine list_eq_map _ (by simpa using hl) fun i y x a b => ?_
      obtain ⟨z, hz, e⟩ := hp i y a
      rw [b] at hz
      cases hz
      exact e
    rw [e]
    exact fin st q
theorem all_id {α : Type} (p : α → Bool) : ∀ xs : List α, (xs.map p).all id = xs.all p
  | [] => rfl
  | x :: xs => by rw [List.map_cons, List.all_cons, List.all_cons, all_id p xs]; rfl
theorem any_id {α : Type} (p : α → Bool) : ∀ xs : List α, (xs.map p).any id = xs.any p
  | [] => rfl
  | x :: xs => by rw [List.map_cons, List.any_cons, List.any_cons, any_id p xs]; rfl
theorem zipL_same : ∀ xs : List D, zipL xs xs = xs.map fun x => .tup [x, x]
  | [] => rfl
  | x :: xs => by show _ :: zipL xs xs = _; rw [zipL_same xs]; rfl
/-- some values, each as P says -/
theorem lc_some (S : Sto → Prop) {β : Type} (g : β → D) (P : Nat → β → Prop) (hn : items.length ≤ sizeLine) (h0 : S st) (still : ∀ st, S st → s.still st)
    (step : ∀ (i : Nat) d st, items[i]? = some d → S st → (f d st).wp fun r st1 => ∃ b, r = some (g b) ∧ P i b ∧ S st1)
    (fin : ∀ (bs : List β) st, bs.length = items.length → (∀ (i : Nat) (b : β), bs[i]? = some b → P i b) → S st → Q (bs.map g) st) : (lcLoop s f items [] st).wp Q := by
  refine lc_wp (fun i acc st => ∃ bs : List β, acc = bs.map g ∧ bs.length = i ∧ i ≤ items.length ∧ (∀ (j : Nat) (b : β), bs[j]? = some b → P j b) ∧ S st) ⟨[], rfl, rfl, Nat.zero_le _, fun j y e => absurd e (by simp), h0⟩ (fun i acc st ⟨_, _, _, _, _, q⟩ => still st q) ?_ ?_
  · rintro i d acc st e ⟨bs, rfl, hl, hi, hp, q⟩
    refine (step i d st e q).mono fun r st1 ⟨b, er, hb, hs⟩ => ?_
    subst er
    have hi := (List.getElem?_eq_some_iff.mp e).1
    refine ⟨by rw [List.length_map]; omega, bs ++ [b], by simp, by simp [hl], by omega, fun j z ez => ?_, hs⟩
    by_cases q : j < bs.length
    · rw [List.getElem?_append_left q] at ez
      exact hp j z ez
    · rw [List.getElem?_append_right (by omega)] at ez
      have : j - bs.length = 0 := by
        have := (List.getElem?_eq_some_iff.mp ez).1
        simp at this
        omega
      rw [this] at ez
      cases ez
      have ej : j = i := by omega
      rw [ej]
      exact hb
  · rintro acc st ⟨bs, rfl, hl, _, hp, q⟩
    exact fin bs st hl hp q
/-- every one is True -/
theorem lc_true (S : Sto → Prop) (hn : items.length ≤ sizeLine) (h0 : S st) (still : ∀ st, S st → s.still st)
    (step : ∀ (i : Nat) d st, items[i]? = some d → S st → (f d st).wp fun r st1 => r = some (.bl true) ∧ S st1)
    (fin : ∀ (n : Nat) st, S st → Q ((List.replicate n true).map D.bl) st) : (lcLoop s f items [] st).wp Q :=
  lc_some S D.bl (fun _ b => b = true) hn h0 still (fun i d st e q => (step i d st e q).mono fun r st1 ⟨a, b⟩ => ⟨true, a, rfl, b⟩) fun bs st hl hp q => by
    have e : bs = List.replicate bs.length true := by
      refine List.eq_replicate_iff.mpr ⟨rfl, fun b hb => ?_⟩
      obtain ⟨i, hi, e⟩ := List.mem_iff_getElem.mp hb
      exact hp i b (by rw [List.getElem?_eq_getElem hi, e])
    rw [e]
    exact fin _ st q
theorem all_rep (n : Nat) : (List.replicate n true).all id = true := by
  rw [List.all_eq_true]
  intro x hx
  rw [(List.mem_replicate.mp hx).2]
  rfl
/-- the items that pass -/
theorem lc_none (S : Sto → Prop) (h0 : S st) (still : ∀ st, S st → s.still st)
    (step : ∀ (i : Nat) d st, items[i]? = some d → S st → (f d st).wp fun r st1 => r = none ∧ S st1)
    (fin : ∀ st, S st → Q [] st) : (lcLoop s f items [] st).wp Q :=
  lc_wp (fun _ acc st => acc = [] ∧ S st) ⟨rfl, h0⟩ (fun _ _ _ h => still _ h.2) (fun i d acc st e h => (step i d st e h.2).mono fun r st1 ⟨a, b⟩ => by subst a; exact ⟨h.1, b⟩) fun acc st h => by rw [h.1]; exact fin st h.2
end
theorem pd_nil {st : Sto} {l : Nat} {f : Bool} (h : st[l]? = some (.lst f [])) : pd st 60 (.ref l) = some (.list []) := by
  show (match st[l]? with
    | some (.lst _ ds) => (optAll (pd st 59) ds).map PyData.list
    | _ => none) = _
  rw [h]
  rfl
theorem o_neNil {st : Sto} {Q : D → Sto → Prop} {l m : Nat} {f g : Bool} (h1 : st[l]? = some (.lst f [])) (h2 : st[m]? = some (.lst g [])) (h : Q (.bl false) st) : (ofOpt ((cmpD .NotEq (.ref l) (.ref m) st).map D.bl) st).wp Q := by
  have e : eqD st (.ref l) (.ref m) = some true := by
    show (match pd st 60 (.ref l), pd st 60 (.ref m) with
      | some p, some q => some (PyData.eqv p q)
      | _, _ => none) = _
    rw [pd_nil h1, pd_nil h2]
    rfl
  unfold cmpD
  dsimp only
  rw [e]
  exact h
/-- a statement apart from what follows -/
theorem ss_cut {T : Tab} {G : Gb} {F : Str → List D → Sto → R D} {s : CS} {ss : CSs} {env : En} {st : Sto} {N : En → Sto → Prop} {V : D → Sto → Prop} (N1 : En → Sto → Prop) (h1 : (evS T G F s env st).wp N1 V) (h2 : ∀ env st, N1 env st → (evSs T G F ss env st).wp N V) : (evSs T G F (.cons s ss) env st).wp N V :=
  w_sscons (h1.mono h2 fun _ _ h => h)
/-! parts -/
theorem cut_to {α : Type} (xs : List α) {n : Nat} (h : n ≤ xs.length) : cut xs none (some (n : Int)) = xs.take n := by
  unfold cut
  rw [HT.sIx_none, HT.sIx_nat, List.drop_zero, Nat.min_eq_left h]
  rfl
theorem cut_from {α : Type} (xs : List α) {n : Nat} (h : n ≤ xs.length) : cut xs (some (n : Int)) none = xs.drop n := by
  unfold cut
  rw [HT.sIx_none, HT.sIx_nat, Nat.min_eq_left h, List.take_of_length_le (by simp)]
theorem cut_map {α β : Type} (g : α → β) (xs : List α) (lo hi : Option Int) : cut (xs.map g) lo hi = (cut xs lo hi).map g := by
  unfold cut
  rw [List.length_map, ← List.map_drop, ← List.map_take]
theorem mem_cut {α : Type} {xs : List α} {lo hi : Option Int} {x : α} (h : x ∈ cut xs lo hi) : x ∈ xs := List.mem_of_mem_drop (List.mem_of_mem_take h)
theorem cut_le {α : Type} (xs : List α) (lo hi : Option Int) : (cut xs lo hi).length ≤ xs.length := by
  unfold cut
  simp only [List.length_take, List.length_drop]
  omega
theorem Ext.len {a b : Sto} (h : Ext a b) : a.length ≤ b.length := by
  by_cases q : a.length = 0
  · omega
  · have e : a[a.length - 1]? = some a[a.length - 1] := List.getElem?_eq_getElem (by omega)
    have := (List.getElem?_eq_some_iff.mp (h _ _ e)).1
    omega
theorem get_lt {st : Sto} {l : Nat} {o : AO} (h : st[l]? = some o) : l < st.length := (List.getElem?_eq_some_iff.mp h).1
theorem map_at {α β : Type} {g : α → β} {xs : List α} {i : Nat} {y : β} (h : (xs.map g)[i]? = some y) : ∃ x, xs[i]? = some x ∧ y = g x := by
  rw [List.getElem?_map] at h
  cases e : xs[i]? with
  | none => rw [e] at h; cases h
  | some x => rw [e] at h; exact ⟨x, rfl, (Option.some.inj h).symm⟩
end Ab
set_option Elab.async false
set_option linter.all false
set_option autoImplicit false
set_option maxRecDepth 100000
namespace Z
open Ab PySem PySem.Spec PyProof.Rows L2
def top (i : Nat) : Stmt := PySem.Challenge.pw_lentlimits_k05_whole_kept_exactly_within.main.body.getD i (.Pass ⟨0, 0, 0, 0⟩)
def b_is_number : CSs := (.cons (.ret (.and_ (.isi (.var 0) .int) (.and_ (.not_ (.isi (.var 0) .bool)) (.cmp .GtE (.var 0) (.lit (.int 0))))))
    .nil)
def d_is_number : Fn := ⟨["value"], ["value"], b_is_number⟩
def r_is_number : DRow := ⟨"is_number", d_is_number, top 1⟩
def b_is_up_to : CSs := (.cons (.ret (.and_ (.call "is_number" (.cons (.var 0) .nil)) (.cmp .LtE (.var 0) (.var 1))))
    .nil)
def d_is_up_to : Fn := ⟨["value", "most"], ["value", "most"], b_is_up_to⟩
def r_is_up_to : DRow := ⟨"is_up_to", d_is_up_to, top 2⟩
def b_is_between : CSs := (.cons (.ret (.and_ (.call "is_number" (.cons (.var 0) .nil)) (.chain .LtE .LtE (.var 1) (.var 0) (.var 2))))
    .nil)
def d_is_between : Fn := ⟨["value", "low", "high"], ["value", "low", "high"], b_is_between⟩
def r_is_between : DRow := ⟨"is_between", d_is_between, top 3⟩
def b_are_refills : CSs := (.cons (.ife (.or_ (.not_ (.isi (.var 0) .tuple)) (.not_ (.chain .LtE .LtE (.lit (.int 1)) (.blt .len (.cons (.var 0) .nil)) (.glob "MOST_PERIOD"))))
    (.cons (.ret (.lit (.bl false)))
    .nil)
    .nil)
    (.cons (.ret (.blt .all (.cons (.lc (.call "is_up_to" (.cons (.var 2) (.cons (.var 1) .nil))) (.nm 2) (.seq (.var 0)) .none [2]) .nil)))
    .nil))
def d_are_refills : Fn := ⟨["value", "most"], ["value", "most", "each"], b_are_refills⟩
def r_are_refills : DRow := ⟨"are_refills", d_are_refills, top 9⟩
def b_is_bucket_by : CSs := (.cons (.ife (.or_ (.not_ (.isi (.var 0) .tuple)) (.cmp .NotEq (.blt .len (.cons (.var 0) .nil)) (.lit (.int 3))))
    (.cons (.ret (.lit (.bl false)))
    .nil)
    .nil)
    (.cons (.ret (.and_ (.call "is_up_to" (.cons (.sub (.var 0) (.lit (.int 0))) (.cons (.glob "MOST") .nil))) (.and_ (.call "are_refills" (.cons (.sub (.var 0) (.lit (.int 1))) (.cons (.glob "MOST") .nil))) (.call "is_up_to" (.cons (.sub (.var 0) (.lit (.int 2))) (.cons (.glob "MOST") .nil))))))
    .nil))
def d_is_bucket_by : Fn := ⟨["value"], ["value"], b_is_bucket_by⟩
def r_is_bucket_by : DRow := ⟨"is_bucket_by", d_is_bucket_by, top 10⟩
def b_wrong_in_row : CSs := (.cons (.ife (.or_ (.not_ (.isi (.var 0) .tuple)) (.cmp .Gt (.blt .len (.cons (.var 0) .nil)) (.glob "MOST_ROW")))
    (.cons (.ret (.lst (.cons (.lit .non) .nil)))
    .nil)
    .nil)
    (.cons (.ret (.slc (.lc (.var 1) (.tp (.cons (.nm 1) (.cons (.nm 2) .nil))) (.enum (.var 0)) (.some (.not_ (.call "is_up_to" (.cons (.var 2) (.cons (.glob "MOST_SPEND") .nil))))) [1, 2]) .none (.some (.lit (.int 1)))))
    .nil))
def d_wrong_in_row : Fn := ⟨["value"], ["value", "index", "each"], b_wrong_in_row⟩
def r_wrong_in_row : DRow := ⟨"wrong_in_row", d_wrong_in_row, top 11⟩
def b_lefts_by : CSs := (.cons (.asg (.tp (.cons (.nm 2) (.cons (.nm 3) (.cons (.nm 4) .nil)))) (.var 0))
    (.cons (.par [5, 6] (.cons (.lst .nil) (.cons (.var 2) .nil)))
    (.cons (.for_ (.tp (.cons (.nm 7) (.cons (.nm 8) .nil))) (.enum (.var 1))
    (.cons (.ife (.cmp .Gt (.var 7) (.lit (.int 0)))
    (.cons (.asg (.nm 6) (.blt .min (.cons (.var 2) (.cons (.bin .Add (.var 6) (.sub (.var 3) (.bin .Mod (.var 7) (.blt .len (.cons (.var 3) .nil))))) .nil))))
    .nil)
    .nil)
    (.cons (.asg (.nm 6) (.bin .Sub (.var 6) (.var 8)))
    (.cons (.expr (.meth .append (.var 5) (.cons (.var 6) .nil)))
    .nil))))
    (.cons (.ret (.blt .tuple (.cons (.var 5) .nil)))
    .nil))))
def d_lefts_by : Fn := ⟨["bucket", "row"], ["bucket", "row", "burst", "refills", "_", "found", "level", "tick", "spend"], b_lefts_by⟩
def r_lefts_by : DRow := ⟨"lefts_by", d_lefts_by, top 12⟩
def b_keeps_by : CSs := (.cons (.ret (.blt .all (.cons (.lc (.cmp .GtE (.var 2) (.neg (.sub (.var 0) (.lit (.int 2))))) (.nm 2) (.seq (.call "lefts_by" (.cons (.var 0) (.cons (.var 1) .nil)))) .none [2]) .nil)))
    .nil)
def d_keeps_by : Fn := ⟨["bucket", "row"], ["bucket", "row", "left"], b_keeps_by⟩
def r_keeps_by : DRow := ⟨"keeps_by", d_keeps_by, top 13⟩
def b_most_at_once : CSs := (.cons (.ret (.bin .Add (.sub (.var 0) (.lit (.int 0))) (.sub (.var 0) (.lit (.int 2)))))
    .nil)
def d_most_at_once : Fn := ⟨["bucket"], ["bucket"], b_most_at_once⟩
def r_most_at_once : DRow := ⟨"most_at_once", d_most_at_once, top 14⟩
def b_step_at : CSs := (.cons (.ret (.blt .min (.cons (.sub (.sub (.var 0) (.lit (.int 1))) (.bin .Mod (.var 1) (.blt .len (.cons (.sub (.var 0) (.lit (.int 1))) .nil)))) (.cons (.call "most_at_once" (.cons (.var 0) .nil)) .nil))))
    .nil)
def d_step_at : Fn := ⟨["bucket", "tick"], ["bucket", "tick"], b_step_at⟩
def r_step_at : DRow := ⟨"step_at", d_step_at, top 15⟩
def b_bound_by : CSs := (.cons (.ret (.bin .Add (.call "most_at_once" (.cons (.var 0) .nil)) (.blt .sum (.cons (.lc (.call "step_at" (.cons (.var 0) (.cons (.var 3) .nil))) (.nm 3) (.rng2 (.bin .Add (.var 1) (.lit (.int 1))) (.bin .Add (.var 2) (.lit (.int 1)))) .none [3]) .nil))))
    .nil)
def d_bound_by : Fn := ⟨["bucket", "first", "last"], ["bucket", "first", "last", "tick"], b_bound_by⟩
def r_bound_by : DRow := ⟨"bound_by", d_bound_by, top 16⟩
def b_check_bucket : CSs := (.cons (.ife (.not_ (.call "is_bucket_by" (.cons (.var 0) .nil)))
    (.cons .never
    .nil)
    .nil)
    .nil)
def d_check_bucket : Fn := ⟨["value"], ["value"], b_check_bucket⟩
def r_check_bucket : DRow := ⟨"check_bucket", d_check_bucket, top 23⟩
def b_check_row : CSs := (.cons (.asg (.nm 1) (.call "wrong_in_row" (.cons (.var 0) .nil)))
    (.cons (.ife (.cmp .NotEq (.var 1) (.lst .nil))
    (.cons .never
    .nil)
    .nil)
    .nil))
def d_check_row : Fn := ⟨["value"], ["value", "found"], b_check_row⟩
def r_check_row : DRow := ⟨"check_row", d_check_row, top 24⟩
def b_check_tick : CSs := (.cons (.ife (.not_ (.call "is_between" (.cons (.var 0) (.cons (.var 1) (.cons (.bin .Sub (.glob "MOST_ROW") (.lit (.int 1))) .nil)))))
    (.cons .never
    .nil)
    .nil)
    .nil)
def d_check_tick : Fn := ⟨["value", "low"], ["value", "low"], b_check_tick⟩
def r_check_tick : DRow := ⟨"check_tick", d_check_tick, top 25⟩
def b_keeps : CSs := (.cons (.expr (.call "check_bucket" (.cons (.var 0) .nil)))
    (.cons (.expr (.call "check_row" (.cons (.var 1) .nil)))
    (.cons (.ret (.call "keeps_by" (.cons (.var 0) (.cons (.var 1) .nil))))
    .nil)))
def d_keeps : Fn := ⟨["bucket", "row"], ["bucket", "row"], b_keeps⟩
def r_keeps : DRow := ⟨"keeps", d_keeps, top 26⟩
def b_bound : CSs := (.cons (.expr (.call "check_bucket" (.cons (.var 0) .nil)))
    (.cons (.expr (.call "check_tick" (.cons (.var 1) (.cons (.lit (.int 0)) .nil))))
    (.cons (.expr (.call "check_tick" (.cons (.var 2) (.cons (.var 1) .nil))))
    (.cons (.ret (.call "bound_by" (.cons (.var 0) (.cons (.var 1) (.cons (.var 2) .nil)))))
    .nil))))
def d_bound : Fn := ⟨["bucket", "first", "last"], ["bucket", "first", "last"], b_bound⟩
def r_bound : DRow := ⟨"bound", d_bound, top 27⟩
def b__law_pool : CSs := (.cons (.asg (.nm 2) (.ife (.cmp .Lt (.var 1) (.blt .len (.cons (.var 0) .nil))) (.blt .int (.cons (.sub (.var 0) (.var 1)) .nil)) (.bin .Add (.bin .Mult (.lit (.int 4475)) (.var 1)) (.lit (.int 381)))))
    (.cons (.asg (.nm 3) (.bin .Add (.lit (.int 68959)) (.bin .Mult (.lit (.int 8013)) (.var 1))))
    (.cons (.for_ (.nm 4) (.seq (.slc (.var 0) .none (.some (.lit (.int 12)))))
    (.cons (.asg (.nm 3) (.bin .Mod (.blt .int (.cons (.bin .Add (.bin .Add (.bin .Mult (.var 3) (.lit (.int 31411))) (.bin .Mod (.blt .int (.cons (.var 4) .nil)) (.lit (.int 2147483587)))) (.lit (.int 95))) .nil)) (.lit (.int 2147483647))))
    .nil))
    (.cons (.asg (.nm 3) (.bin .Mod (.blt .int (.cons (.bin .Add (.bin .Add (.bin .Mult (.var 3) (.lit (.int 49))) (.bin .Mult (.bin .Mod (.blt .int (.cons (.var 2) .nil)) (.lit (.int 2147483587))) (.lit (.int 26147)))) (.lit (.int 11))) .nil)) (.lit (.int 2147483647))))
    (.cons (.ret (.lst (.cons (.ife (.or_ (.cmp .Lt (.var 2) (.lit (.int 0))) (.cmp .GtE (.var 2) (.bin .Pow (.lit (.int 10)) (.lit (.int 15))))) (.blt .abs (.cons (.var 2) .nil)) (.lit (.int 0))) (.cons (.var 3) (.cons (.lit (.int 0)) .nil)))))
    .nil)))))
def d__law_pool : Fn := ⟨["script", "lap"], ["script", "lap", "cell", "stirred", "each"], b__law_pool⟩
def r__law_pool : DRow := ⟨"_law_pool", d__law_pool, top 29⟩
def b__law_below : CSs := (.cons (.ife (.cmp .Gt (.sub (.var 0) (.lit (.int 0))) (.lit (.int 0)))
    (.cons (.asg (.tp (.cons (.sb (.var 0) (.lit (.int 0))) (.cons (.nm 2) .nil))) (.blt .divmod (.cons (.sub (.var 0) (.lit (.int 0))) (.cons (.var 1) .nil))))
    (.cons (.ret (.var 2))
    .nil))
    .nil)
    (.cons (.asg (.sb (.var 0) (.lit (.int 2))) (.bin .Add (.sub (.var 0) (.lit (.int 2))) (.lit (.int 1))))
    (.cons (.asg (.nm 3) (.bin .Mod (.blt .int (.cons (.bin .Add (.bin .Add (.bin .Mult (.sub (.var 0) (.lit (.int 1))) (.lit (.int 43325))) (.bin .Mult (.lit (.int 5793)) (.sub (.var 0) (.lit (.int 2))))) (.lit (.int 71))) .nil)) (.lit (.int 2147483563))))
    (.cons (.asg (.sb (.var 0) (.lit (.int 1))) (.bin .Mod (.blt .int (.cons (.bin .Add (.bin .Mult (.var 3) (.bin .Add (.bin .Mod (.blt .int (.cons (.var 3) .nil)) (.lit (.int 3989))) (.lit (.int 13515)))) (.sub (.var 0) (.lit (.int 2)))) .nil)) (.lit (.int 2147483563))))
    (.cons (.ret (.bin .Mod (.blt .int (.cons (.bin .FloorDiv (.sub (.var 0) (.lit (.int 1))) (.lit (.int 359))) .nil)) (.var 1)))
    .nil)))))
def d__law_below : Fn := ⟨["pool", "many"], ["pool", "many", "figure", "stirred"], b__law_below⟩
def r__law_below : DRow := ⟨"_law_below", d__law_below, top 30⟩
def b__law_one : CSs := (.cons (.ret (.sub (.var 1) (.call "_law_below" (.cons (.var 0) (.cons (.blt .len (.cons (.var 1) .nil)) .nil)))))
    .nil)
def d__law_one : Fn := ⟨["pool", "some"], ["pool", "some"], b__law_one⟩
def r__law_one : DRow := ⟨"_law_one", d__law_one, top 31⟩
def b__law_num : CSs := (.cons (.ret (.call "_law_one" (.cons (.var 0) (.cons (.tup (.cons (.lit (.int 0)) (.cons (.lit (.int 1)) (.cons (.ife (.cmp .Gt (.var 1) (.lit (.int 1))) (.lit (.int 2)) (.lit (.int 1))) (.cons (.var 1) (.cons (.call "_law_below" (.cons (.var 0) (.cons (.bin .Add (.var 1) (.lit (.int 1))) .nil))) (.cons (.call "_law_below" (.cons (.var 0) (.cons (.bin .Add (.var 1) (.lit (.int 1))) .nil))) .nil))))))) .nil))))
    .nil)
def d__law_num : Fn := ⟨["pool", "high"], ["pool", "high"], b__law_num⟩
def r__law_num : DRow := ⟨"_law_num", d__law_num, top 32⟩
def b__law_bucket : CSs := (.cons (.asg (.nm 3) (.blt .tuple (.cons (.lc (.call "_law_num" (.cons (.var 0) (.cons (.var 1) .nil))) (.nm 4) (.rng1 (.var 2)) .none [4]) .nil)))
    (.cons (.ret (.tup (.cons (.call "_law_num" (.cons (.var 0) (.cons (.var 1) .nil))) (.cons (.var 3) (.cons (.call "_law_num" (.cons (.var 0) (.cons (.var 1) .nil))) .nil)))))
    .nil))
def d__law_bucket : Fn := ⟨["pool", "high", "size"], ["pool", "high", "size", "refill", "lap"], b__law_bucket⟩
def r__law_bucket : DRow := ⟨"_law_bucket", d__law_bucket, top 33⟩
def b__law_same : CSs := (.cons (.ife (.cmp .Is (.var 1) (.lit .non))
    (.cons (.ret (.cmp .Is (.var 0) (.lit .non)))
    .nil)
    .nil)
    (.cons (.ife (.isi (.var 1) .bool)
    (.cons (.ret (.and_ (.isi (.var 0) .bool) (.cmp .Eq (.var 0) (.var 1))))
    .nil)
    .nil)
    (.cons (.ife (.isi (.var 1) .int)
    (.cons (.ret (.and_ (.isi (.var 0) .int) (.and_ (.not_ (.isi (.var 0) .bool)) (.cmp .Eq (.var 0) (.var 1)))))
    .nil)
    .nil)
    (.cons (.ife (.isi (.var 1) .str)
    (.cons (.ret (.and_ (.isi (.var 0) .str) (.cmp .Eq (.var 0) (.var 1))))
    .nil)
    .nil)
    (.cons (.ife (.or_ (.not_ (.isi (.var 0) .tuple)) (.cmp .NotEq (.blt .len (.cons (.var 0) .nil)) (.blt .len (.cons (.var 1) .nil))))
    (.cons (.ret (.lit (.bl false)))
    .nil)
    .nil)
    (.cons (.ret (.blt .all (.cons (.lc (.call "_law_same" (.cons (.var 2) (.cons (.var 3) .nil))) (.tp (.cons (.nm 2) (.cons (.nm 3) .nil))) (.zip (.var 0) (.var 1)) .none [2, 3]) .nil)))
    .nil))))))
def d__law_same : Fn := ⟨["told", "due"], ["told", "due", "x", "y"], b__law_same⟩
def r__law_same : DRow := ⟨"_law_same", d__law_same, top 34⟩
def b__law_left : CSs := (.cons (.par [2, 3] (.cons (.lst .nil) (.cons (.sub (.var 0) (.lit (.int 0))) .nil)))
    (.cons (.for_ (.tp (.cons (.nm 4) (.cons (.nm 5) .nil))) (.enum (.var 1))
    (.cons (.ife (.cmp .Gt (.var 4) (.lit (.int 0)))
    (.cons (.asg (.nm 3) (.blt .min (.cons (.sub (.var 0) (.lit (.int 0))) (.cons (.bin .Add (.var 3) (.sub (.sub (.var 0) (.lit (.int 1))) (.bin .Mod (.blt .int (.cons (.var 4) .nil)) (.blt .len (.cons (.sub (.var 0) (.lit (.int 1))) .nil))))) .nil))))
    .nil)
    .nil)
    (.cons (.asg (.nm 3) (.bin .Sub (.var 3) (.var 5)))
    (.cons (.expr (.meth .append (.var 2) (.cons (.var 3) .nil)))
    .nil))))
    (.cons (.ret (.blt .tuple (.cons (.var 2) .nil)))
    .nil)))
def d__law_left : Fn := ⟨["cup", "spends"], ["cup", "spends", "found", "level", "at", "spent"], b__law_left⟩
def r__law_left : DRow := ⟨"_law_left", d__law_left, top 35⟩
def b__law_keeps : CSs := (.cons (.ret (.blt .all (.cons (.lc (.cmp .GtE (.var 2) (.bin .Sub (.lit (.int 0)) (.sub (.var 0) (.lit (.int 2))))) (.nm 2) (.seq (.call "_law_left" (.cons (.var 0) (.cons (.var 1) .nil)))) .none [2]) .nil)))
    .nil)
def d__law_keeps : Fn := ⟨["cup", "spends"], ["cup", "spends", "level"], b__law_keeps⟩
def r__law_keeps : DRow := ⟨"_law_keeps", d__law_keeps, top 36⟩
def b__law_spends : CSs := (.cons (.par [3, 4, 5] (.cons (.lst .nil) (.cons (.sub (.var 1) (.lit (.int 0))) (.cons (.call "_law_below" (.cons (.var 0) (.cons (.lit (.int 4)) .nil))) .nil))))
    (.cons (.for_ (.nm 6) (.rng1 (.var 2))
    (.cons (.ife (.cmp .Gt (.var 6) (.lit (.int 0)))
    (.cons (.asg (.nm 4) (.blt .min (.cons (.sub (.var 1) (.lit (.int 0))) (.cons (.bin .Add (.var 4) (.sub (.sub (.var 1) (.lit (.int 1))) (.bin .Mod (.blt .int (.cons (.var 6) .nil)) (.blt .len (.cons (.sub (.var 1) (.lit (.int 1))) .nil))))) .nil))))
    .nil)
    .nil)
    (.cons (.asg (.nm 7) (.bin .Add (.var 4) (.sub (.var 1) (.lit (.int 2)))))
    (.cons (.asg (.nm 8) (.ife (.cmp .Eq (.var 5) (.lit (.int 0))) (.var 7) (.call "_law_one" (.cons (.var 0) (.cons (.tup (.cons (.lit (.int 0)) (.cons (.var 7) (.cons (.lit (.int 0)) (.cons (.bin .FloorDiv (.var 7) (.lit (.int 2))) (.cons (.call "_law_below" (.cons (.var 0) (.cons (.bin .Add (.var 7) (.lit (.int 1))) .nil))) .nil)))))) .nil)))))
    (.cons (.expr (.meth .append (.var 3) (.cons (.var 8) .nil)))
    (.cons (.asg (.nm 4) (.bin .Sub (.var 4) (.var 8)))
    .nil))))))
    (.cons (.ret (.blt .tuple (.cons (.var 3) .nil)))
    .nil)))
def d__law_spends : Fn := ⟨["pool", "cup", "many"], ["pool", "cup", "many", "found", "level", "greedy", "at", "room", "spent"], b__law_spends⟩
def r__law_spends : DRow := ⟨"_law_spends", d__law_spends, top 37⟩
def b__law_bound : CSs := (.cons (.asg (.nm 3) (.bin .Add (.sub (.var 0) (.lit (.int 0))) (.sub (.var 0) (.lit (.int 2)))))
    (.cons (.for_ (.nm 4) (.rng2 (.bin .Add (.var 1) (.lit (.int 1))) (.bin .Add (.var 2) (.lit (.int 1))))
    (.cons (.asg (.nm 3) (.bin .Add (.var 3) (.blt .min (.cons (.sub (.sub (.var 0) (.lit (.int 1))) (.bin .Mod (.blt .int (.cons (.var 4) .nil)) (.blt .len (.cons (.sub (.var 0) (.lit (.int 1))) .nil)))) (.cons (.bin .Add (.sub (.var 0) (.lit (.int 0))) (.sub (.var 0) (.lit (.int 2)))) .nil)))))
    .nil))
    (.cons (.ret (.var 3))
    .nil)))
def d__law_bound : Fn := ⟨["cup", "low", "high"], ["cup", "low", "high", "found", "at"], b__law_bound⟩
def r__law_bound : DRow := ⟨"_law_bound", d__law_bound, top 38⟩
def b__law_is_within : CSs := (.cons (.for_ (.nm 2) (.rng1 (.blt .len (.cons (.var 1) .nil)))
    (.cons (.par [3, 4] (.cons (.lit (.int 0)) (.cons (.bin .Add (.sub (.var 0) (.lit (.int 0))) (.sub (.var 0) (.lit (.int 2)))) .nil)))
    (.cons (.for_ (.nm 5) (.rng2 (.var 2) (.blt .len (.cons (.var 1) .nil)))
    (.cons (.asg (.nm 3) (.bin .Add (.var 3) (.sub (.var 1) (.var 5))))
    (.cons (.ife (.cmp .Gt (.var 5) (.var 2))
    (.cons (.asg (.nm 4) (.bin .Add (.var 4) (.blt .min (.cons (.sub (.sub (.var 0) (.lit (.int 1))) (.bin .Mod (.blt .int (.cons (.var 5) .nil)) (.blt .len (.cons (.sub (.var 0) (.lit (.int 1))) .nil)))) (.cons (.bin .Add (.sub (.var 0) (.lit (.int 0))) (.sub (.var 0) (.lit (.int 2)))) .nil)))))
    .nil)
    .nil)
    (.cons (.ife (.cmp .Gt (.var 3) (.var 4))
    (.cons (.ret (.lit (.bl false)))
    .nil)
    .nil)
    .nil))))
    .nil)))
    (.cons (.ret (.lit (.bl true)))
    .nil))
def d__law_is_within : Fn := ⟨["cup", "spends"], ["cup", "spends", "low", "total", "limit", "high"], b__law_is_within⟩
def r__law_is_within : DRow := ⟨"_law_is_within", d__law_is_within, top 39⟩
def b__law_full : CSs := (.cons (.asg (.nm 3) (.bin .Add (.bin .Mult (.lst (.cons (.lit (.int 0)) .nil)) (.var 1)) (.lst (.cons (.bin .Add (.sub (.var 0) (.lit (.int 0))) (.sub (.var 0) (.lit (.int 2)))) .nil))))
    (.cons (.for_ (.nm 4) (.rng2 (.bin .Add (.var 1) (.lit (.int 1))) (.bin .Add (.var 2) (.lit (.int 1))))
    (.cons (.expr (.meth .append (.var 3) (.cons (.blt .min (.cons (.sub (.sub (.var 0) (.lit (.int 1))) (.bin .Mod (.blt .int (.cons (.var 4) .nil)) (.blt .len (.cons (.sub (.var 0) (.lit (.int 1))) .nil)))) (.cons (.bin .Add (.sub (.var 0) (.lit (.int 0))) (.sub (.var 0) (.lit (.int 2)))) .nil))) .nil)))
    .nil))
    (.cons (.ret (.blt .tuple (.cons (.var 3) .nil)))
    .nil)))
def d__law_full : Fn := ⟨["cup", "low", "high"], ["cup", "low", "high", "found", "at"], b__law_full⟩
def r__law_full : DRow := ⟨"_law_full", d__law_full, top 40⟩
def b__law_is_span_right : CSs := (.cons (.for_ (.nm 2) (.rng1 (.lit (.int 3)))
    (.cons (.asg (.nm 3) (.call "_law_below" (.cons (.var 0) (.cons (.call "_law_one" (.cons (.var 0) (.cons (.tup (.cons (.lit (.int 4)) (.cons (.lit (.int 30)) (.cons (.lit (.int 2400)) .nil)))) .nil))) .nil))))
    (.cons (.asg (.nm 4) (.bin .Add (.var 3) (.call "_law_below" (.cons (.var 0) (.cons (.call "_law_one" (.cons (.var 0) (.cons (.tup (.cons (.lit (.int 4)) (.cons (.lit (.int 30)) (.cons (.lit (.int 100)) .nil)))) .nil))) .nil)))))
    (.cons (.ife (.cmp .Eq (.var 2) (.lit (.int 2)))
    (.cons (.asg (.nm 4) (.call "_law_one" (.cons (.var 0) (.cons (.tup (.cons (.lit (.int 2499)) (.cons (.var 3) (.cons (.var 4) .nil)))) .nil))))
    .nil)
    .nil)
    (.cons (.asg (.nm 5) (.call "_law_bound" (.cons (.var 1) (.cons (.var 3) (.cons (.var 4) .nil)))))
    (.cons (.ife (.or_ (.not_ (.call "_law_same" (.cons (.call "bound" (.cons (.var 1) (.cons (.var 3) (.cons (.var 4) .nil)))) (.cons (.var 5) .nil)))) (.not_ (.call "_law_same" (.cons (.callk "bound" .nil ["last", "first", "bucket"] (.cons (.var 4) (.cons (.var 3) (.cons (.var 1) .nil)))) (.cons (.var 5) .nil)))))
    (.cons (.ret (.lit (.bl false)))
    .nil)
    .nil)
    .nil))))))
    (.cons (.asg (.nm 3) (.call "_law_below" (.cons (.var 0) (.cons (.lit (.int 12)) .nil))))
    (.cons (.asg (.nm 6) (.call "_law_full" (.cons (.var 1) (.cons (.var 3) (.cons (.bin .Add (.var 3) (.call "_law_below" (.cons (.var 0) (.cons (.lit (.int 28)) .nil)))) .nil)))))
    (.cons (.ife (.or_ (.not_ (.call "_law_same" (.cons (.call "bound" (.cons (.var 1) (.cons (.var 3) (.cons (.bin .Sub (.blt .len (.cons (.var 6) .nil)) (.lit (.int 1))) .nil)))) (.cons (.blt .sum (.cons (.var 6) .nil)) .nil)))) (.not_ (.call "_law_same" (.cons (.call "keeps" (.cons (.var 1) (.cons (.var 6) .nil))) (.cons (.lit (.bl true)) .nil)))))
    (.cons (.ret (.lit (.bl false)))
    .nil)
    .nil)
    (.cons (.asg (.nm 7) (.bin .Add (.var 3) (.call "_law_below" (.cons (.var 0) (.cons (.bin .Sub (.blt .len (.cons (.var 6) .nil)) (.var 3)) .nil)))))
    (.cons (.asg (.nm 8) (.bin .Add (.bin .Add (.slc (.var 6) .none (.some (.var 7))) (.tup (.cons (.bin .Add (.sub (.var 6) (.var 7)) (.lit (.int 1))) .nil))) (.slc (.var 6) (.some (.bin .Add (.var 7) (.lit (.int 1)))) .none)))
    (.cons (.ret (.and_ (.call "_law_same" (.cons (.call "keeps" (.cons (.var 1) (.cons (.var 8) .nil))) (.cons (.call "_law_keeps" (.cons (.var 1) (.cons (.var 8) .nil))) .nil))) (.call "_law_same" (.cons (.call "keeps" (.cons (.var 1) (.cons (.bin .Add (.slc (.var 6) .none (.some (.neg (.lit (.int 1))))) (.tup (.cons (.bin .Add (.sub (.var 6) (.neg (.lit (.int 1)))) (.lit (.int 1))) .nil))) .nil))) (.cons (.lit (.bl false)) .nil)))))
    .nil)))))))
def d__law_is_span_right : Fn := ⟨["pool", "cup"], ["pool", "cup", "lap", "low", "high", "due", "spends", "at", "more"], b__law_is_span_right⟩
def r__law_is_span_right : DRow := ⟨"_law_is_span_right", d__law_is_span_right, top 41⟩
def b__law_right : CSs := (.cons (.for_ (.nm 1) (.rng1 (.lit (.int 6)))
    (.cons (.asg (.nm 2) (.call "_law_bucket" (.cons (.var 0) (.cons (.call "_law_one" (.cons (.var 0) (.cons (.tup (.cons (.lit (.int 1)) (.cons (.lit (.int 9)) (.cons (.lit (.int 99)) .nil)))) .nil))) (.cons (.bin .Add (.lit (.int 1)) (.call "_law_below" (.cons (.var 0) (.cons (.lit (.int 4)) .nil)))) .nil)))))
    (.cons (.asg (.nm 3) (.call "_law_spends" (.cons (.var 0) (.cons (.var 2) (.cons (.call "_law_one" (.cons (.var 0) (.cons (.tup (.cons (.lit (.int 1)) (.cons (.lit (.int 2)) (.cons (.lit (.int 4)) (.cons (.lit (.int 12)) (.cons (.lit (.int 40)) .nil)))))) .nil))) .nil)))))
    (.cons (.asg (.nm 4) (.call "_law_below" (.cons (.var 0) (.cons (.blt .len (.cons (.var 3) .nil)) .nil))))
    (.cons (.for_ (.nm 5) (.seq (.tup (.cons (.lit (.int 0)) (.cons (.lit (.int 1)) (.cons (.neg (.lit (.int 1))) (.cons (.lit (.int 2)) (.cons (.lit (.int 30)) .nil)))))))
    (.cons (.asg (.nm 6) (.blt .max (.cons (.lit (.int 0)) (.cons (.bin .Add (.sub (.var 3) (.var 4)) (.var 5)) .nil))))
    (.cons (.asg (.nm 7) (.bin .Add (.bin .Add (.slc (.var 3) .none (.some (.var 4))) (.tup (.cons (.var 6) .nil))) (.slc (.var 3) (.some (.bin .Add (.var 4) (.lit (.int 1)))) .none)))
    (.cons (.ife (.or_ (.not_ (.call "_law_same" (.cons (.call "keeps" (.cons (.var 2) (.cons (.var 7) .nil))) (.cons (.call "_law_is_within" (.cons (.var 2) (.cons (.var 7) .nil))) .nil)))) (.cmp .NotEq (.call "_law_is_within" (.cons (.var 2) (.cons (.var 7) .nil))) (.call "_law_keeps" (.cons (.var 2) (.cons (.var 7) .nil)))))
    (.cons (.ret (.lit (.bl false)))
    .nil)
    .nil)
    .nil))))
    (.cons (.for_ (.nm 8) (.rng1 (.blt .min (.cons (.lit (.int 4)) (.cons (.blt .len (.cons (.var 3) .nil)) .nil))))
    (.cons (.for_ (.nm 9) (.rng2 (.var 8) (.blt .min (.cons (.bin .Add (.var 8) (.lit (.int 5))) (.cons (.blt .len (.cons (.var 3) .nil)) .nil))))
    (.cons (.ife (.not_ (.call "_law_same" (.cons (.call "bound" (.cons (.var 2) (.cons (.var 8) (.cons (.var 9) .nil)))) (.cons (.call "_law_bound" (.cons (.var 2) (.cons (.var 8) (.cons (.var 9) .nil)))) .nil))))
    (.cons (.ret (.lit (.bl false)))
    .nil)
    .nil)
    .nil))
    .nil))
    (.cons (.ife (.not_ (.call "_law_is_span_right" (.cons (.var 0) (.cons (.var 2) .nil))))
    (.cons (.ret (.lit (.bl false)))
    .nil)
    .nil)
    .nil)))))))
    (.cons (.ret (.lit (.bl true)))
    .nil))
def d__law_right : Fn := ⟨["pool"], ["pool", "lap", "cup", "spends", "at", "change", "c", "bent", "low", "high"], b__law_right⟩
def r__law_right : DRow := ⟨"_law_right", d__law_right, top 42⟩
def b_law : CSs := (.cons (.ret (.blt .all (.cons (.lc (.call "_law_right" (.cons (.call "_law_pool" (.cons (.var 0) (.cons (.var 1) .nil))) .nil)) (.nm 1) (.rng1 (.blt .max (.cons (.lit (.int 1)) (.cons (.blt .min (.cons (.blt .len (.cons (.var 0) .nil)) (.cons (.lit (.int 2)) .nil))) .nil)))) .none [1]) .nil)))
    .nil)
def d_law : Fn := ⟨["script"], ["script", "lap"], b_law⟩
def r_law : DRow := ⟨"law", d_law, top 43⟩
def rows : List DRow := [r_is_number, r_is_up_to, r_is_between, r_are_refills, r_is_bucket_by, r_wrong_in_row, r_lefts_by, r_keeps_by, r_most_at_once, r_step_at, r_bound_by, r_check_bucket, r_check_row, r_check_tick, r_keeps, r_bound, r__law_pool, r__law_below, r__law_one, r__law_num, r__law_bucket, r__law_same, r__law_left, r__law_keeps, r__law_spends, r__law_bound, r__law_is_within, r__law_full, r__law_is_span_right, r__law_right, r_law]
def cs : List (Str × Lit) := [("MOST", (.int 99)), ("MOST_PERIOD", (.int 4)), ("MOST_SPEND", (.int 999)), ("MOST_ROW", (.int 2500))]
def KW : Tx := ⟨[("is_number" : Str), ("is_up_to" : Str), ("is_between" : Str), ("are_refills" : Str), ("is_bucket_by" : Str), ("wrong_in_row" : Str), ("lefts_by" : Str), ("keeps_by" : Str), ("most_at_once" : Str), ("step_at" : Str), ("bound_by" : Str), ("check_bucket" : Str), ("check_row" : Str), ("check_tick" : Str), ("keeps" : Str), ("bound" : Str), ("_law_pool" : Str), ("_law_below" : Str), ("_law_one" : Str), ("_law_num" : Str), ("_law_bucket" : Str), ("_law_same" : Str), ("_law_left" : Str), ("_law_keeps" : Str), ("_law_spends" : Str), ("_law_bound" : Str), ("_law_is_within" : Str), ("_law_full" : Str), ("_law_is_span_right" : Str), ("_law_right" : Str), ("law" : Str)], [(("bound" : Str), 0, ["last", "first", "bucket"])]⟩
theorem kw_bound : (KW.kw.filter fun p => decide (p.1 = r_bound.x)).map (·.2) = ([(0, ["last", "first", "bucket"])] : List (Nat × List Str)) := by kernel_rfl
abbrev T : Tab := tabOf rows
abbrev G : Gb := gbOf cs
theorem t_is_number : T "is_number" = some d_is_number := by kernel_rfl
theorem t_is_up_to : T "is_up_to" = some d_is_up_to := by kernel_rfl
theorem t_is_between : T "is_between" = some d_is_between := by kernel_rfl
theorem t_are_refills : T "are_refills" = some d_are_refills := by kernel_rfl
theorem t_is_bucket_by : T "is_bucket_by" = some d_is_bucket_by := by kernel_rfl
theorem t_wrong_in_row : T "wrong_in_row" = some d_wrong_in_row := by kernel_rfl
theorem t_lefts_by : T "lefts_by" = some d_lefts_by := by kernel_rfl
theorem t_keeps_by : T "keeps_by" = some d_keeps_by := by kernel_rfl
theorem t_most_at_once : T "most_at_once" = some d_most_at_once := by kernel_rfl
theorem t_step_at : T "step_at" = some d_step_at := by kernel_rfl
theorem t_bound_by : T "bound_by" = some d_bound_by := by kernel_rfl
theorem t_check_bucket : T "check_bucket" = some d_check_bucket := by kernel_rfl
theorem t_check_row : T "check_row" = some d_check_row := by kernel_rfl
theorem t_check_tick : T "check_tick" = some d_check_tick := by kernel_rfl
theorem t_keeps : T "keeps" = some d_keeps := by kernel_rfl
theorem t_bound : T "bound" = some d_bound := by kernel_rfl
theorem t__law_pool : T "_law_pool" = some d__law_pool := by kernel_rfl
theorem t__law_below : T "_law_below" = some d__law_below := by kernel_rfl
theorem t__law_one : T "_law_one" = some d__law_one := by kernel_rfl
theorem t__law_num : T "_law_num" = some d__law_num := by kernel_rfl
theorem t__law_bucket : T "_law_bucket" = some d__law_bucket := by kernel_rfl
theorem t__law_same : T "_law_same" = some d__law_same := by kernel_rfl
theorem t__law_left : T "_law_left" = some d__law_left := by kernel_rfl
theorem t__law_keeps : T "_law_keeps" = some d__law_keeps := by kernel_rfl
theorem t__law_spends : T "_law_spends" = some d__law_spends := by kernel_rfl
theorem t__law_bound : T "_law_bound" = some d__law_bound := by kernel_rfl
theorem t__law_is_within : T "_law_is_within" = some d__law_is_within := by kernel_rfl
theorem t__law_full : T "_law_full" = some d__law_full := by kernel_rfl
theorem t__law_is_span_right : T "_law_is_span_right" = some d__law_is_span_right := by kernel_rfl
theorem t__law_right : T "_law_right" = some d__law_right := by kernel_rfl
theorem t_law : T "law" = some d_law := by kernel_rfl
theorem w_is_number {k : Nat} {a0 : D} {st : Sto} {Q : D → Sto → Prop} (h : (evSs T G (callF T G k) b_is_number [some a0] st).wp (fun _ st1 => Q .non st1) Q) : (callF T G (k + 1) "is_number" [a0] st).wp Q := call_wp (fn := d_is_number) t_is_number rfl h
theorem w_is_up_to {k : Nat} {a0 a1 : D} {st : Sto} {Q : D → Sto → Prop} (h : (evSs T G (callF T G k) b_is_up_to [some a0, some a1] st).wp (fun _ st1 => Q .non st1) Q) : (callF T G (k + 1) "is_up_to" [a0, a1] st).wp Q := call_wp (fn := d_is_up_to) t_is_up_to rfl h
theorem w_is_between {k : Nat} {a0 a1 a2 : D} {st : Sto} {Q : D → Sto → Prop} (h : (evSs T G (callF T G k) b_is_between [some a0, some a1, some a2] st).wp (fun _ st1 => Q .non st1) Q) : (callF T G (k + 1) "is_between" [a0, a1, a2] st).wp Q := call_wp (fn := d_is_between) t_is_between rfl h
theorem w_are_refills {k : Nat} {a0 a1 : D} {st : Sto} {Q : D → Sto → Prop} (h : (evSs T G (callF T G k) b_are_refills [some a0, some a1, none] st).wp (fun _ st1 => Q .non st1) Q) : (callF T G (k + 1) "are_refills" [a0, a1] st).wp Q := call_wp (fn := d_are_refills) t_are_refills rfl h
theorem w_is_bucket_by {k : Nat} {a0 : D} {st : Sto} {Q : D → Sto → Prop} (h : (evSs T G (callF T G k) b_is_bucket_by [some a0] st).wp (fun _ st1 => Q .non st1) Q) : (callF T G (k + 1) "is_bucket_by" [a0] st).wp Q := call_wp (fn := d_is_bucket_by) t_is_bucket_by rfl h
theorem w_wrong_in_row {k : Nat} {a0 : D} {st : Sto} {Q : D → Sto → Prop} (h : (evSs T G (callF T G k) b_wrong_in_row [some a0, none, none] st).wp (fun _ st1 => Q .non st1) Q) : (callF T G (k + 1) "wrong_in_row" [a0] st).wp Q := call_wp (fn := d_wrong_in_row) t_wrong_in_row rfl h
theorem w_lefts_by {k : Nat} {a0 a1 : D} {st : Sto} {Q : D → Sto → Prop} (h : (evSs T G (callF T G k) b_lefts_by [some a0, some a1, none, none, none, none, none, none, none] st).wp (fun _ st1 => Q .non st1) Q) : (callF T G (k + 1) "lefts_by" [a0, a1] st).wp Q := call_wp (fn := d_lefts_by) t_lefts_by rfl h
theorem w_keeps_by {k : Nat} {a0 a1 : D} {st : Sto} {Q : D → Sto → Prop} (h : (evSs T G (callF T G k) b_keeps_by [some a0, some a1, none] st).wp (fun _ st1 => Q .non st1) Q) : (callF T G (k + 1) "keeps_by" [a0, a1] st).wp Q := call_wp (fn := d_keeps_by) t_keeps_by rfl h
theorem w_most_at_once {k : Nat} {a0 : D} {st : Sto} {Q : D → Sto → Prop} (h : (evSs T G (callF T G k) b_most_at_once [some a0] st).wp (fun _ st1 => Q .non st1) Q) : (callF T G (k + 1) "most_at_once" [a0] st).wp Q := call_wp (fn := d_most_at_once) t_most_at_once rfl h
theorem w_step_at {k : Nat} {a0 a1 : D} {st : Sto} {Q : D → Sto → Prop} (h : (evSs T G (callF T G k) b_step_at [some a0, some a1] st).wp (fun _ st1 => Q .non st1) Q) : (callF T G (k + 1) "step_at" [a0, a1] st).wp Q := call_wp (fn := d_step_at) t_step_at rfl h
theorem w_bound_by {k : Nat} {a0 a1 a2 : D} {st : Sto} {Q : D → Sto → Prop} (h : (evSs T G (callF T G k) b_bound_by [some a0, some a1, some a2, none] st).wp (fun _ st1 => Q .non st1) Q) : (callF T G (k + 1) "bound_by" [a0, a1, a2] st).wp Q := call_wp (fn := d_bound_by) t_bound_by rfl h
theorem w_check_bucket {k : Nat} {a0 : D} {st : Sto} {Q : D → Sto → Prop} (h : (evSs T G (callF T G k) b_check_bucket [some a0] st).wp (fun _ st1 => Q .non st1) Q) : (callF T G (k + 1) "check_bucket" [a0] st).wp Q := call_wp (fn := d_check_bucket) t_check_bucket rfl h
theorem w_check_row {k : Nat} {a0 : D} {st : Sto} {Q : D → Sto → Prop} (h : (evSs T G (callF T G k) b_check_row [some a0, none] st).wp (fun _ st1 => Q .non st1) Q) : (callF T G (k + 1) "check_row" [a0] st).wp Q := call_wp (fn := d_check_row) t_check_row rfl h
theorem w_check_tick {k : Nat} {a0 a1 : D} {st : Sto} {Q : D → Sto → Prop} (h : (evSs T G (callF T G k) b_check_tick [some a0, some a1] st).wp (fun _ st1 => Q .non st1) Q) : (callF T G (k + 1) "check_tick" [a0, a1] st).wp Q := call_wp (fn := d_check_tick) t_check_tick rfl h
theorem w_keeps {k : Nat} {a0 a1 : D} {st : Sto} {Q : D → Sto → Prop} (h : (evSs T G (callF T G k) b_keeps [some a0, some a1] st).wp (fun _ st1 => Q .non st1) Q) : (callF T G (k + 1) "keeps" [a0, a1] st).wp Q := call_wp (fn := d_keeps) t_keeps rfl h
theorem w_bound {k : Nat} {a0 a1 a2 : D} {st : Sto} {Q : D → Sto → Prop} (h : (evSs T G (callF T G k) b_bound [some a0, some a1, some a2] st).wp (fun _ st1 => Q .non st1) Q) : (callF T G (k + 1) "bound" [a0, a1, a2] st).wp Q := call_wp (fn := d_bound) t_bound rfl h
theorem w__law_pool {k : Nat} {a0 a1 : D} {st : Sto} {Q : D → Sto → Prop} (h : (evSs T G (callF T G k) b__law_pool [some a0, some a1, none, none, none] st).wp (fun _ st1 => Q .non st1) Q) : (callF T G (k + 1) "_law_pool" [a0, a1] st).wp Q := call_wp (fn := d__law_pool) t__law_pool rfl h
theorem w__law_below {k : Nat} {a0 a1 : D} {st : Sto} {Q : D → Sto → Prop} (h : (evSs T G (callF T G k) b__law_below [some a0, some a1, none, none] st).wp (fun _ st1 => Q .non st1) Q) : (callF T G (k + 1) "_law_below" [a0, a1] st).wp Q := call_wp (fn := d__law_below) t__law_below rfl h
theorem w__law_one {k : Nat} {a0 a1 : D} {st : Sto} {Q : D → Sto → Prop} (h : (evSs T G (callF T G k) b__law_one [some a0, some a1] st).wp (fun _ st1 => Q .non st1) Q) : (callF T G (k + 1) "_law_one" [a0, a1] st).wp Q := call_wp (fn := d__law_one) t__law_one rfl h
theorem w__law_num {k : Nat} {a0 a1 : D} {st : Sto} {Q : D → Sto → Prop} (h : (evSs T G (callF T G k) b__law_num [some a0, some a1] st).wp (fun _ st1 => Q .non st1) Q) : (callF T G (k + 1) "_law_num" [a0, a1] st).wp Q := call_wp (fn := d__law_num) t__law_num rfl h
theorem w__law_bucket {k : Nat} {a0 a1 a2 : D} {st : Sto} {Q : D → Sto → Prop} (h : (evSs T G (callF T G k) b__law_bucket [some a0, some a1, some a2, none, none] st).wp (fun _ st1 => Q .non st1) Q) : (callF T G (k + 1) "_law_bucket" [a0, a1, a2] st).wp Q := call_wp (fn := d__law_bucket) t__law_bucket rfl h
theorem w__law_same {k : Nat} {a0 a1 : D} {st : Sto} {Q : D → Sto → Prop} (h : (evSs T G (callF T G k) b__law_same [some a0, some a1, none, none] st).wp (fun _ st1 => Q .non st1) Q) : (callF T G (k + 1) "_law_same" [a0, a1] st).wp Q := call_wp (fn := d__law_same) t__law_same rfl h
theorem w__law_left {k : Nat} {a0 a1 : D} {st : Sto} {Q : D → Sto → Prop} (h : (evSs T G (callF T G k) b__law_left [some a0, some a1, none, none, none, none] st).wp (fun _ st1 => Q .non st1) Q) : (callF T G (k + 1) "_law_left" [a0, a1] st).wp Q := call_wp (fn := d__law_left) t__law_left rfl h
theorem w__law_keeps {k : Nat} {a0 a1 : D} {st : Sto} {Q : D → Sto → Prop} (h : (evSs T G (callF T G k) b__law_keeps [some a0, some a1, none] st).wp (fun _ st1 => Q .non st1) Q) : (callF T G (k + 1) "_law_keeps" [a0, a1] st).wp Q := call_wp (fn := d__law_keeps) t__law_keeps rfl h
theorem w__law_spends {k : Nat} {a0 a1 a2 : D} {st : Sto} {Q : D → Sto → Prop} (h : (evSs T G (callF T G k) b__law_spends [some a0, some a1, some a2, none, none, none, none, none, none] st).wp (fun _ st1 => Q .non st1) Q) : (callF T G (k + 1) "_law_spends" [a0, a1, a2] st).wp Q := call_wp (fn := d__law_spends) t__law_spends rfl h
theorem w__law_bound {k : Nat} {a0 a1 a2 : D} {st : Sto} {Q : D → Sto → Prop} (h : (evSs T G (callF T G k) b__law_bound [some a0, some a1, some a2, none, none] st).wp (fun _ st1 => Q .non st1) Q) : (callF T G (k + 1) "_law_bound" [a0, a1, a2] st).wp Q := call_wp (fn := d__law_bound) t__law_bound rfl h
theorem w__law_is_within {k : Nat} {a0 a1 : D} {st : Sto} {Q : D → Sto → Prop} (h : (evSs T G (callF T G k) b__law_is_within [some a0, some a1, none, none, none, none] st).wp (fun _ st1 => Q .non st1) Q) : (callF T G (k + 1) "_law_is_within" [a0, a1] st).wp Q := call_wp (fn := d__law_is_within) t__law_is_within rfl h
theorem w__law_full {k : Nat} {a0 a1 a2 : D} {st : Sto} {Q : D → Sto → Prop} (h : (evSs T G (callF T G k) b__law_full [some a0, some a1, some a2, none, none] st).wp (fun _ st1 => Q .non st1) Q) : (callF T G (k + 1) "_law_full" [a0, a1, a2] st).wp Q := call_wp (fn := d__law_full) t__law_full rfl h
theorem w__law_is_span_right {k : Nat} {a0 a1 : D} {st : Sto} {Q : D → Sto → Prop} (h : (evSs T G (callF T G k) b__law_is_span_right [some a0, some a1, none, none, none, none, none, none, none] st).wp (fun _ st1 => Q .non st1) Q) : (callF T G (k + 1) "_law_is_span_right" [a0, a1] st).wp Q := call_wp (fn := d__law_is_span_right) t__law_is_span_right rfl h
theorem w__law_right {k : Nat} {a0 : D} {st : Sto} {Q : D → Sto → Prop} (h : (evSs T G (callF T G k) b__law_right [some a0, none, none, none, none, none, none, none, none, none] st).wp (fun _ st1 => Q .non st1) Q) : (callF T G (k + 1) "_law_right" [a0] st).wp Q := call_wp (fn := d__law_right) t__law_right rfl h
theorem w_law {k : Nat} {a0 : D} {st : Sto} {Q : D → Sto → Prop} (h : (evSs T G (callF T G k) b_law [some a0, none] st).wp (fun _ st1 => Q .non st1) Q) : (callF T G (k + 1) "law" [a0] st).wp Q := call_wp (fn := d_law) t_law rfl h
theorem bk_bound_0 {v0 v1 v2 : D} : bindKw d_bound.ps [] ["last", "first", "bucket"] [v0, v1, v2] = some [v2, v1, v0] := by kernel_rfl
theorem g_MOST : G "MOST" = some (.int 99) := by kernel_rfl
theorem g_MOST_PERIOD : G "MOST_PERIOD" = some (.int 4) := by kernel_rfl
theorem g_MOST_SPEND : G "MOST_SPEND" = some (.int 999) := by kernel_rfl
theorem g_MOST_ROW : G "MOST_ROW" = some (.int 2500) := by kernel_rfl
end Z
namespace Z
open Ab PySem
local macro_rules
  | `(tactic| and_intros) => `(tactic| repeat' (first
    | with_reducible refine w_ssnil ?_
    | with_reducible refine w_sscons ?_
    | with_reducible refine w_var (by with_unfolding_all rfl) ?_
    | with_reducible refine w_int ?_
    | with_reducible refine w_glob (by first | exact g_MOST | exact g_MOST_PERIOD | exact g_MOST_SPEND | exact g_MOST_ROW) ?_
    | with_reducible refine w_asg ?_
    | with_reducible refine w_nm ?_
    | with_reducible refine w_sub ?_
    | with_reducible refine w_bin ?_
    | with_reducible refine w_cmp ?_
    | with_reducible refine w_call ?_
    | with_reducible refine w_escons ?_
    | with_reducible refine w_esnil ?_
    | with_reducible refine w_blt ?_
    | with_reducible refine w_ret ?_
    | with_reducible refine w_sife ?_
    | with_reducible refine w_expr ?_
    | with_reducible refine w_par2 ?_
    | with_reducible refine w_par3 ?_
    | with_reducible refine w_for ?_
    | with_reducible refine w_while ?_
    | with_reducible refine w_retN ?_
    | with_reducible refine w_pass ?_
    | with_reducible refine w_str ?_
    | with_reducible refine w_bl ?_
    | with_reducible refine w_non ?_
    | with_reducible refine w_neg ?_
    | with_reducible refine w_chain ?_
    | with_reducible refine w_and ?_
    | with_reducible refine w_or ?_
    | with_reducible refine w_not ?_
    | with_reducible refine w_ife ?_
    | with_reducible refine w_tup ?_
    | with_reducible refine w_lst ?_
    | with_reducible refine w_slc ?_
    | with_reducible refine w_pnone ?_
    | with_reducible refine w_psome ?_
    | with_reducible refine w_cnone ?_
    | with_reducible refine w_csome ?_
    | with_reducible refine w_evT ?_
    | with_reducible refine w_isi ?_
    | with_reducible refine w_meth ?_
    | with_reducible refine w_lc ?_
    | with_reducible refine w_lcF ?_
    | with_reducible refine w_iseq ?_
    | with_reducible refine w_irng1 ?_
    | with_reducible refine w_irng2 ?_
    | with_reducible refine w_ienum ?_
    | with_reducible refine w_izip ?_
    | with_reducible refine w_tp ?_
    | with_reducible refine w_tsnil ?_
    | with_reducible refine w_tscons ?_
    | with_reducible refine w_sb ?_
    | with_reducible refine o_add ?_
    | with_reducible refine o_sub ?_
    | with_reducible refine o_mul (by omega) ?_
    | with_reducible refine o_div (by omega) ?_
    | with_reducible refine o_mod (by omega) ?_
    | with_reducible refine o_pow (by decide) ?_
    | with_reducible refine o_divmod (by omega) ?_
    | with_reducible refine o_lt ?_
    | with_reducible refine o_le ?_
    | with_reducible refine o_gt ?_
    | with_reducible refine o_ge ?_
    | with_reducible refine o_eqI ?_
    | with_reducible refine o_neI ?_
    | with_reducible refine o_eqS ?_
    | with_reducible refine o_neS ?_
    | with_reducible refine o_eqB ?_
    | with_reducible refine o_neB ?_
    | with_reducible refine o_isN ?_
    | with_reducible refine o_isI ?_
    | with_reducible refine o_isB ?_
    | with_reducible refine o_isS ?_
    | with_reducible refine o_isT ?_
    | with_reducible refine o_inN ?_
    | with_reducible refine o_inI ?_
    | with_reducible refine o_inB ?_
    | with_reducible refine o_inS ?_
    | with_reducible refine o_inT ?_
    | with_reducible refine o_isiN true (by decide) ?_
    | with_reducible refine o_isiN false (by decide) ?_
    | with_reducible refine o_isiI true (by decide) ?_
    | with_reducible refine o_isiI false (by decide) ?_
    | with_reducible refine o_isiB true (by decide) ?_
    | with_reducible refine o_isiB false (by decide) ?_
    | with_reducible refine o_isiS true (by decide) ?_
    | with_reducible refine o_isiS false (by decide) ?_
    | with_reducible refine o_isiT true (by decide) ?_
    | with_reducible refine o_isiT false (by decide) ?_
    | with_reducible refine o_isiR (by assumption) true (by decide) ?_
    | with_reducible refine o_isiR (by assumption) false (by decide) ?_
    | with_reducible refine o_asB ?_
    | with_reducible refine o_sub0 ?_
    | with_reducible refine o_sub1 ?_
    | with_reducible refine o_sub2 ?_
    | with_reducible refine o_sub3 ?_
    | with_reducible refine o_sub4 ?_
    | with_reducible refine o_subr0 (by assumption) ?_
    | with_reducible refine o_subr1 (by assumption) ?_
    | with_reducible refine o_subr2 (by assumption) ?_
    | with_reducible refine o_set0 (by assumption) (fun _ _ _ _ => ?_)
    | with_reducible refine o_set1 (by assumption) (fun _ _ _ _ => ?_)
    | with_reducible refine o_set2 (by assumption) (fun _ _ _ _ => ?_)
    | with_reducible refine o_alloc (fun _ _ _ _ => ?_)
    | with_reducible refine o_lenT ?_
    | with_reducible refine o_lenR (by assumption) ?_
    | with_reducible refine o_tupR (by assumption) ?_
    | with_reducible refine o_tupT ?_
    | with_reducible refine o_intI ?_
    | with_reducible refine o_abs ?_
    | with_reducible refine o_min ?_
    | with_reducible refine o_max ?_
    | with_reducible refine o_slcT ?_
    | with_reducible refine o_slcR (by assumption) ?_
    | with_reducible refine o_sqT ?_
    | with_reducible refine o_sqR (by assumption) ?_
    | with_reducible refine o_rng (by omega) ?_
    | with_reducible refine o_enT ?_
    | with_reducible refine o_enR (by assumption) ?_
    | with_reducible refine o_zpT ?_
    | with_reducible refine b_dec ⟨fun _ => ?_, fun _ => ?_⟩
    | with_reducible refine b_ndec ⟨fun _ => ?_, fun _ => ?_⟩
    | with_reducible refine b_true ?_
    | with_reducible refine b_false ?_
    | with_reducible refine b_ntrue ?_
    | with_reducible refine b_nfalse ?_
    | with_reducible refine x_int ?_
    | with_reducible refine x_lst (by assumption) ?_
    ))
local macro_rules
  | `(tactic| nofun) => `(tactic| repeat' (first
    | assumption
    | with_reducible exact Kp.refl _ _
    | with_reducible exact Ext.refl _
    | with_reducible refine Kp.trans ?_ (by assumption)
    | with_reducible refine Kp.trans ?_ (Ext.kp (by assumption))
    | with_reducible refine Ext.trans ?_ (by assumption)))
/-! the pool -/
def Pok (l : Nat) (st : Sto) : Prop := ∃ x y z : Int, st[l]? = some (.lst false [.int x, .int y, .int z])
theorem Pok.mono {l : Nat} {a b : Sto} (h : Pok l a) (e : Ext a b) : Pok l b := let ⟨x, y, z, q⟩ := h; ⟨x, y, z, e _ _ q⟩
theorem below {k l : Nat} {st : Sto} {many : Int} (h : Pok l st) (hm : 0 < many ∧ many < 1073741824) : (callF T G (k + 1) "_law_below" [.ref l, .int many] st).wp fun d st' => ∃ r : Int, d = .int r ∧ 0 ≤ r ∧ r < many ∧ Kp l st st' ∧ Pok l st' := by
  obtain ⟨x, y, z, e⟩ := h
  refine w__law_below ?_
  unfold b__law_below
  and_intros
  · exact ⟨Int.emod_nonneg _ (by omega), Int.emod_lt_of_pos _ hm.1, by nofun, _, _, _, by assumption⟩
  · exact ⟨Int.emod_nonneg _ (by omega), Int.emod_lt_of_pos _ hm.1, by nofun, _, _, _, by assumption⟩
theorem one {k l : Nat} {st : Sto} {ds : List D} (h : Pok l st) (h0 : 0 < ds.length) (h1 : ds.length < 1073741824) : (callF T G (k + 2) "_law_one" [.ref l, .tup ds] st).wp fun d st' => d ∈ ds ∧ Kp l st st' ∧ Pok l st' := by
  refine w__law_one ?_
  unfold b__law_one
  and_intros
  refine (below h (by omega)).mono ?_
  rintro _ st1 ⟨r, rfl, r0, r1, K1, P1⟩
  have e : ds[r.toNat]? = some (ds[r.toNat]'(by omega)) := List.getElem?_eq_getElem (by omega)
  refine o_subT (atI_of r0 e) ?_
  exact ⟨List.mem_of_getElem? e, K1, P1⟩
theorem num {k l : Nat} {st : Sto} {high : Int} (h : Pok l st) (h0 : 1 ≤ high) (h1 : high ≤ 999) : (callF T G (k + 3) "_law_num" [.ref l, .int high] st).wp fun d st' => ∃ r : Int, d = .int r ∧ 0 ≤ r ∧ r ≤ high ∧ Kp l st st' ∧ Pok l st' := by
  refine w__law_num ?_
  unfold b__law_num
  and_intros
  all_goals
    refine (below h (by omega)).mono ?_
    rintro _ st2 ⟨r, rfl, r0, r1, K2, P2⟩
    and_intros
    refine (below P2 (by omega)).mono ?_
    rintro _ st3 ⟨q, rfl, q0, q1, K3, P3⟩
    and_intros
    refine (one P3 (by simp) (by simp)).mono ?_
    rintro d st4 ⟨hd, K4, P4⟩
    simp only [List.mem_cons, List.not_mem_nil, or_false] at hd
    rcases hd with rfl | rfl | rfl | rfl | rfl | rfl <;> exact ⟨_, rfl, by omega, by omega, by nofun, P4⟩
/-! the bucket -/
structure Cup where
  b : Int
  rs : List Int
  f : Int
def Cup.d (c : Cup) : D := .tup [.int c.b, .tup (c.rs.map D.int), .int c.f]
structure Cup.Ok (c : Cup) : Prop where
  b : 0 ≤ c.b ∧ c.b ≤ 99
  f : 0 ≤ c.f ∧ c.f ≤ 99
  n : 1 ≤ c.rs.length ∧ c.rs.length ≤ 4
  r : ∀ x ∈ c.rs, 0 ≤ x ∧ x ≤ 99
theorem bucket {k l : Nat} {st : Sto} {high size : Int} (h : Pok l st) (h0 : 1 ≤ high) (h1 : high ≤ 99) (s0 : 1 ≤ size) (s1 : size ≤ 4) :
    (callF T G (k + 4) "_law_bucket" [.ref l, .int high, .int size] st).wp fun d st' => ∃ c : Cup, d = c.d ∧ c.Ok ∧ Kp l st st' ∧ Pok l st' := by
  refine w__law_bucket ?_
  unfold b__law_bucket
  and_intros
  refine lc_some (S := fun st1 => Kp l st st1 ∧ Pok l st1) (g := D.int) (P := fun _ r => 0 ≤ r ∧ r ≤ 99) (by rw [rangeL_len]; simp only [sizeLine]; omega) ⟨Kp.refl _ _, h⟩ (fun _ _ => still_nil) ?_ ?_
  · rintro i d st1 hd ⟨K1, P1⟩
    obtain ⟨_, rfl⟩ := rangeL_at hd
    and_intros
    refine (num P1 h0 (by omega)).mono ?_
    rintro _ st2 ⟨r, rfl, r0, r1, K2, P2⟩
    exact ⟨r, rfl, ⟨r0, by omega⟩, by nofun, P2⟩
  · rintro rs st1 hl hp ⟨K1, P1⟩
    rw [rangeL_len] at hl
    and_intros
    rename_i st2 K2 _ e2
    have P2 := P1.mono K2
    refine (num P2 h0 (by omega)).mono ?_
    rintro _ st3 ⟨b, rfl, b0, b1, K3, P3⟩
    and_intros
    refine (num P3 h0 (by omega)).mono ?_
    rintro _ st4 ⟨f, rfl, f0, f1, K4, P4⟩
    and_intros
    refine ⟨⟨b, rs, f⟩, rfl, ⟨⟨b0, show b ≤ 99 by omega⟩, ⟨f0, show f ≤ 99 by omega⟩, ⟨by simp only []; omega, by simp only []; omega⟩, fun x hx => ?_⟩, by nofun, P4⟩
    obtain ⟨i, hi, e⟩ := List.mem_iff_getElem.mp hx
    exact hp i x (by rw [List.getElem?_eq_getElem hi, e])
/-! the levels -/
def Cup.lv (c : Cup) (row : List Int) : Nat → Int
  | 0 => c.b
  | i + 1 => (if 0 < i then (if c.lv row i + (c.rs[i % c.rs.length]?).getD 0 < c.b then c.lv row i + (c.rs[i % c.rs.length]?).getD 0 else c.b) else c.lv row i) - (row[i]?).getD 0
def Cup.lefts (c : Cup) (row : List Int) : List Int := (List.range row.length).map fun i => c.lv row (i + 1)
theorem Cup.lefts_len (c : Cup) (row : List Int) : (c.lefts row).length = row.length := by simp [Cup.lefts]
def Cup.part (c : Cup) (row : List Int) (i : Nat) : List D := ((List.range i).map fun i => c.lv row (i + 1)).map D.int
theorem Cup.part_succ (c : Cup) (row : List Int) (i : Nat) : c.part row i ++ [.int (c.lv row (i + 1))] = c.part row (i + 1) := by
  unfold Cup.part
  rw [List.range_succ, List.map_append, List.map_append]
  rfl
theorem Cup.part_len (c : Cup) (row : List Int) (i : Nat) : (c.part row i).length = i := by simp [Cup.part]
theorem refill_at {c : Cup} (ok : c.Ok) (i : Nat) : L2.atI (c.rs.map D.int) ((i : Int) % (c.rs.map D.int).length) = some (.int ((c.rs[i % c.rs.length]?).getD 0)) := by
  rw [List.length_map, show ((i : Int) % (c.rs.length : Int)) = ((i % c.rs.length : Nat) : Int) from by omega, atI_nat, List.getElem?_map, List.getElem?_eq_getElem (Nat.mod_lt _ (by have := ok.n; omega))]
  rfl
theorem Cup.lv_one (c : Cup) (row : List Int) {i : Nat} {s : Int} (h : ¬ 0 < i) (e : row[i]? = some s) : c.lv row i - s = c.lv row (i + 1) := by
  conv => rhs; unfold Cup.lv
  rw [if_neg h, e]
  rfl
theorem Cup.lv_more (c : Cup) (row : List Int) {i : Nat} {s : Int} (h : 0 < i) (e : row[i]? = some s) : (if c.lv row i + (c.rs[i % c.rs.length]?).getD 0 < c.b then c.lv row i + (c.rs[i % c.rs.length]?).getD 0 else c.b) - s = c.lv row (i + 1) := by
  conv => rhs; unfold Cup.lv
  rw [if_pos h, e]
  rfl
theorem lefts_by_ok {k : Nat} {st : Sto} {c : Cup} (ok : c.Ok) {row : List Int} (hn : row.length ≤ 2500) : (callF T G (k + 1) "lefts_by" [c.d, .tup (row.map D.int)] st).wp fun d st' => d = .tup ((c.lefts row).map D.int) ∧ Ext st st' := by
  refine w_lefts_by ?_
  unfold b_lefts_by Cup.d
  and_intros
  rename_i st1 X1 l1 e1
  refine for_wp (fun i env st2 => ∃ t s, env = [some c.d, some (.tup (row.map D.int)), some (.int c.b), some (.tup (c.rs.map D.int)), some (.int c.f), some (.ref st.length), some (.int (c.lv row i)), t, s] ∧ Ext st st2 ∧ st2[st.length]? = some (.lst false (c.part row i)) ∧ i ≤ row.length) ⟨_, _, rfl, X1, e1, Nat.zero_le _⟩ (fun _ _ _ _ => still_nil) ?_ ?_
  · rintro i d _ st2 hd ⟨t, s, rfl, X2, e2, hi⟩
    obtain ⟨y, hy, rfl⟩ := enumL_at hd
    obtain ⟨x, hx, rfl⟩ := map_at hy
    have hr : 0 < ((c.rs.map D.int).length : Int) := by rw [List.length_map]; have := ok.n; omega
    have hlt := (List.getElem?_eq_some_iff.mp hx).1
    rw [Nat.zero_add]
    have fin : ∀ env : En, env = [some c.d, some (.tup (row.map D.int)), some (.int c.b), some (.tup (c.rs.map D.int)), some (.int c.f), some (.ref st.length), some (.int (c.lv row (i + 1))), some (.int i), some (.int x)] →
        ∀ st3, Kp st.length st2 st3 → st3.length = st2.length → st3[st.length]? = some (.lst false (c.part row i ++ [.int (c.lv row (i + 1))])) → ∃ t s, env = [some c.d, some (.tup (row.map D.int)), some (.int c.b), some (.tup (c.rs.map D.int)), some (.int c.f), some (.ref st.length), some (.int (c.lv row (i + 1))), t, s] ∧ Ext st st3 ∧ st3[st.length]? = some (.lst false (c.part row (i + 1))) ∧ i + 1 ≤ row.length := by
      rintro _ rfl st3 K3 l3 e3
      exact ⟨_, _, rfl, Kp.toExt (Kp.trans X2.kp K3) (Nat.le_refl _), by rw [e3, c.part_succ], hlt⟩
    and_intros
    · refine o_subT (refill_at ok i) ?_
      and_intros
      rw [c.lv_more row (by omega) hx]
      refine o_append e2 (by rw [c.part_len]; simp only [sizeLine]; omega) (fin _ rfl)
    · rw [c.lv_one row (by omega) hx]
      refine o_append e2 (by rw [c.part_len]; simp only [sizeLine]; omega) (fin _ rfl)
  · rintro _ st2 ⟨t, s, rfl, X2, e2, hi⟩
    and_intros
    refine ⟨?_, X2⟩
    rw [enumL_count, List.length_map]
    rfl
theorem law_left_ok {k : Nat} {st : Sto} {c : Cup} (ok : c.Ok) {row : List Int} (hn : row.length ≤ 2500) : (callF T G (k + 1) "_law_left" [c.d, .tup (row.map D.int)] st).wp fun d st' => d = .tup ((c.lefts row).map D.int) ∧ Ext st st' := by
  refine w__law_left ?_
  unfold b__law_left Cup.d
  and_intros
  rename_i st1 X1 l1 e1
  refine for_wp (fun i env st2 => ∃ t s, env = [some c.d, some (.tup (row.map D.int)), some (.ref st.length), some (.int (c.lv row i)), t, s] ∧ Ext st st2 ∧ st2[st.length]? = some (.lst false (c.part row i)) ∧ i ≤ row.length) ⟨_, _, rfl, X1, e1, Nat.zero_le _⟩ (fun _ _ _ _ => still_nil) ?_ ?_
  · rintro i d _ st2 hd ⟨t, s, rfl, X2, e2, hi⟩
    obtain ⟨y, hy, rfl⟩ := enumL_at hd
    obtain ⟨x, hx, rfl⟩ := map_at hy
    have hr : 0 < ((c.rs.map D.int).length : Int) := by rw [List.length_map]; have := ok.n; omega
    have hlt := (List.getElem?_eq_some_iff.mp hx).1
    rw [Nat.zero_add]
    have fin : ∀ env : En, env = [some c.d, some (.tup (row.map D.int)), some (.ref st.length), some (.int (c.lv row (i + 1))), some (.int i), some (.int x)] →
        ∀ st3, Kp st.length st2 st3 → st3.length = st2.length → st3[st.length]? = some (.lst false (c.part row i ++ [.int (c.lv row (i + 1))])) → ∃ t s, env = [some c.d, some (.tup (row.map D.int)), some (.ref st.length), some (.int (c.lv row (i + 1))), t, s] ∧ Ext st st3 ∧ st3[st.length]? = some (.lst false (c.part row (i + 1))) ∧ i + 1 ≤ row.length := by
      rintro _ rfl st3 K3 l3 e3
      exact ⟨_, _, rfl, Kp.toExt (Kp.trans X2.kp K3) (Nat.le_refl _), by rw [e3, c.part_succ], hlt⟩
    unfold Cup.d
    and_intros
    · refine o_subT (refill_at ok i) ?_
      and_intros
      rw [c.lv_more row (by omega) hx]
      refine o_append e2 (by rw [c.part_len]; simp only [sizeLine]; omega) (fin _ rfl)
    · rw [c.lv_one row (by omega) hx]
      refine o_append e2 (by rw [c.part_len]; simp only [sizeLine]; omega) (fin _ rfl)
  · rintro _ st2 ⟨t, s, rfl, X2, e2, hi⟩
    and_intros
    refine ⟨?_, X2⟩
    rw [enumL_count, List.length_map]
    rfl
/-! the program's own -/
def Cup.keeps (c : Cup) (row : List Int) : Bool := (c.lefts row).all fun x => decide (-c.f ≤ x)
def RowOk (row : List Int) : Prop := row.length ≤ 2500 ∧ ∀ x ∈ row, 0 ≤ x ∧ x ≤ 999
theorem keeps_by_ok {k : Nat} {st : Sto} {c : Cup} (ok : c.Ok) {row : List Int} (hn : RowOk row) : (callF T G (k + 2) "keeps_by" [c.d, .tup (row.map D.int)] st).wp fun d st' => d = .bl (c.keeps row) ∧ Ext st st' := by
  refine w_keeps_by ?_
  unfold b_keeps_by
  and_intros
  refine (lefts_by_ok ok hn.1).mono ?_
  rintro _ st1 ⟨rfl, X1⟩
  and_intros
  refine lc_fun (c.lefts row) D.int (S := fun st2 => Ext st st2) (g := D.bl) (h := fun x => decide (-c.f ≤ x)) (by rw [c.lefts_len]; have := hn.1; simp only [sizeLine]; omega) X1 (fun _ _ => still_nil) ?_ ?_
  · intro x hx st2 X2
    and_intros
    unfold Cup.d
    and_intros
    exact ⟨rfl, X2⟩
  · rintro st2 X2
    and_intros
    rename_i st3 X3 l3 e3
    refine o_all e3 ⟨?_, by nofun⟩
    rw [all_id]
    rfl
theorem law_keeps_ok {k : Nat} {st : Sto} {c : Cup} (ok : c.Ok) {row : List Int} (hn : RowOk row) : (callF T G (k + 2) "_law_keeps" [c.d, .tup (row.map D.int)] st).wp fun d st' => d = .bl (c.keeps row) ∧ Ext st st' := by
  refine w__law_keeps ?_
  unfold b__law_keeps
  and_intros
  refine (law_left_ok ok hn.1).mono ?_
  rintro _ st1 ⟨rfl, X1⟩
  and_intros
  refine lc_fun (c.lefts row) D.int (S := fun st2 => Ext st st2) (g := D.bl) (h := fun x => decide (-c.f ≤ x)) (by rw [c.lefts_len]; have := hn.1; simp only [sizeLine]; omega) X1 (fun _ _ => still_nil) ?_ ?_
  · intro x hx st2 X2
    and_intros
    unfold Cup.d
    and_intros
    refine ⟨?_, X2⟩
    rw [Int.zero_sub]
  · rintro st2 X2
    and_intros
    rename_i st3 X3 l3 e3
    refine o_all e3 ⟨?_, by nofun⟩
    rw [all_id]
    rfl
theorem num_ok {k : Nat} {st : Sto} {x : Int} : (callF T G (k + 1) "is_number" [.int x] st).wp fun d st' => d = .bl (decide (0 ≤ x)) ∧ st' = st := by
  refine w_is_number ?_
  unfold b_is_number
  and_intros
  exact ⟨rfl, rfl⟩
theorem upto_ok {k : Nat} {st : Sto} {x y : Int} : (callF T G (k + 2) "is_up_to" [.int x, .int y] st).wp fun d st' => d = .bl (decide (0 ≤ x ∧ x ≤ y)) ∧ st' = st := by
  refine w_is_up_to ?_
  unfold b_is_up_to
  and_intros
  refine num_ok.mono ?_
  rintro _ _ ⟨rfl, rfl⟩
  and_intros
  · refine ⟨?_, rfl⟩
    simp [*]
  · refine ⟨?_, rfl⟩
    simp [*]
theorem upto_true {k : Nat} {st : Sto} {x y : Int} (h : 0 ≤ x ∧ x ≤ y) : (callF T G (k + 2) "is_up_to" [.int x, .int y] st).wp fun d st' => d = .bl true ∧ st' = st := by
  refine upto_ok.mono ?_
  rintro _ _ ⟨rfl, rfl⟩
  exact ⟨by rw [decide_eq_true h], rfl⟩
theorem len_int (xs : List Int) : ((xs.map D.int).length : Int) = xs.length := by rw [List.length_map]
theorem refills_ok {k : Nat} {st : Sto} {c : Cup} (ok : c.Ok) : (callF T G (k + 3) "are_refills" [.tup (c.rs.map D.int), .int 99] st).wp fun d st' => d = .bl true ∧ Ext st st' := by
  have n1 := ok.n
  have n2 := len_int c.rs
  refine w_are_refills ?_
  unfold b_are_refills
  and_intros
  · refine lc_fun c.rs D.int (S := fun st2 => Ext st st2) (g := D.bl) (h := fun x => true) (by simp only [sizeLine]; omega) (Ext.refl _) (fun _ _ => still_nil) ?_ ?_
    · intro x hx st2 X2
      and_intros
      refine (upto_true (ok.r x hx)).mono ?_
      rintro _ _ ⟨rfl, rfl⟩
      exact ⟨rfl, X2⟩
    · rintro st2 X2
      and_intros
      rename_i st3 X3 l3 e3
      refine o_all e3 ⟨?_, by nofun⟩
      rw [all_id]
      simp
  · omega
  · omega
theorem is_bucket_ok {k : Nat} {st : Sto} {c : Cup} (ok : c.Ok) : (callF T G (k + 4) "is_bucket_by" [c.d] st).wp fun d st' => d = .bl true ∧ Ext st st' := by
  refine w_is_bucket_by ?_
  unfold b_is_bucket_by Cup.d
  and_intros
  · refine (upto_true ok.b).mono ?_
    rintro _ _ ⟨rfl, rfl⟩
    and_intros
    refine (refills_ok ok).mono ?_
    rintro _ st1 ⟨rfl, X1⟩
    and_intros
    refine (upto_true ok.f).mono ?_
    rintro _ _ ⟨rfl, rfl⟩
    exact ⟨rfl, X1⟩
  · rename_i h
    exact absurd rfl h
theorem check_bucket_ok {k : Nat} {st : Sto} {c : Cup} (ok : c.Ok) : (callF T G (k + 5) "check_bucket" [c.d] st).wp fun d st' => Ext st st' := by
  refine w_check_bucket ?_
  unfold b_check_bucket
  and_intros
  refine (is_bucket_ok ok).mono ?_
  rintro _ st1 ⟨rfl, X1⟩
  and_intros
  exact X1
theorem wrong_ok {k : Nat} {st : Sto} {row : List Int} (hn : RowOk row) : (callF T G (k + 3) "wrong_in_row" [.tup (row.map D.int)] st).wp fun d st' => ∃ l, d = .ref l ∧ st'[l]? = some (.lst false []) ∧ Ext st st' := by
  have n1 := hn.1
  have n2 := len_int row
  refine w_wrong_in_row ?_
  unfold b_wrong_in_row
  and_intros
  · omega
  · refine lc_none (S := fun st2 => Ext st st2) (Ext.refl _) (fun _ _ => still_nil) ?_ ?_
    · intro i d st2 hd X2
      obtain ⟨y, hy, rfl⟩ := enumL_at hd
      obtain ⟨x, hx, rfl⟩ := map_at hy
      and_intros
      refine (upto_true (hn.2 x (List.mem_of_getElem? hx))).mono ?_
      rintro _ _ ⟨rfl, rfl⟩
      and_intros
      exact ⟨rfl, X2⟩
    · rintro st2 X2
      and_intros
      exact ⟨_, rfl, by assumption, by nofun⟩
theorem check_row_ok {k : Nat} {st : Sto} {row : List Int} (hn : RowOk row) : (callF T G (k + 4) "check_row" [.tup (row.map D.int)] st).wp fun d st' => Ext st st' := by
  refine w_check_row ?_
  unfold b_check_row
  and_intros
  refine (wrong_ok hn).mono ?_
  rintro _ st1 ⟨l, rfl, e1, X1⟩
  and_intros
  rename_i st2 X2 _ e2
  refine o_neNil (X2 _ _ e1) e2 ?_
  and_intros
  nofun
theorem keeps_ok {k : Nat} {st : Sto} {c : Cup} (ok : c.Ok) {row : List Int} (hn : RowOk row) : (callF T G (k + 6) "keeps" [c.d, .tup (row.map D.int)] st).wp fun d st' => d = .bl (c.keeps row) ∧ Ext st st' := by
  refine w_keeps ?_
  unfold b_keeps
  and_intros
  refine (check_bucket_ok ok).mono ?_
  rintro _ st1 X1
  and_intros
  refine (check_row_ok hn).mono ?_
  rintro _ st2 X2
  and_intros
  refine (keeps_by_ok ok hn).mono ?_
  rintro _ st3 ⟨rfl, X3⟩
  exact ⟨rfl, by nofun⟩
/-! the law's own -/
theorem same_int {k : Nat} {st : Sto} {x : Int} : (callF T G (k + 1) "_law_same" [.int x, .int x] st).wp fun d st' => d = .bl true ∧ st' = st := by
  refine w__law_same ?_
  unfold b__law_same
  and_intros
  exact ⟨by simp, rfl⟩
theorem same_bl {k : Nat} {st : Sto} {x : Bool} : (callF T G (k + 1) "_law_same" [.bl x, .bl x] st).wp fun d st' => d = .bl true ∧ st' = st := by
  refine w__law_same ?_
  unfold b__law_same
  and_intros
  exact ⟨by simp, rfl⟩
theorem same_row {k : Nat} {st : Sto} {row : List Int} (hn : row.length ≤ 2500) : (callF T G (k + 2) "_law_same" [.tup (row.map D.int), .tup (row.map D.int)] st).wp fun d st' => d = .bl true ∧ Ext st st' := by
  refine w__law_same ?_
  unfold b__law_same
  and_intros
  · rw [zipL_same, List.map_map]
    refine lc_fun row _ (S := fun st2 => Ext st st2) (g := D.bl) (h := fun x => true) (by simp only [sizeLine]; omega) (Ext.refl _) (fun _ _ => still_nil) ?_ ?_
    · intro x hx st2 X2
      unfold Function.comp
      and_intros
      refine same_int.mono ?_
      rintro _ _ ⟨rfl, rfl⟩
      exact ⟨rfl, X2⟩
    · rintro st2 X2
      and_intros
      rename_i st3 X3 l3 e3
      refine o_all e3 ⟨?_, by nofun⟩
      rw [all_id]
      simp
  · rename_i h
    exact absurd rfl h

theorem refill_some {c : Cup} (ok : c.Ok) (i : Nat) : ∃ r : Int, L2.atI (c.rs.map D.int) ((i : Int) % (c.rs.map D.int).length) = some (.int r) ∧ 0 ≤ r ∧ r ≤ 99 := by
  refine ⟨_, refill_at ok i, ?_⟩
  have h : i % c.rs.length < c.rs.length := Nat.mod_lt _ (by have := ok.n; omega)
  rw [List.getElem?_eq_getElem h]
  exact ok.r _ (List.getElem_mem h)
theorem spends_ok {k l : Nat} {st : Sto} (h : Pok l st) {c : Cup} (ok : c.Ok) {many : Int} (h0 : 0 ≤ many ∧ many ≤ 2500) : (callF T G (k + 3) "_law_spends" [.ref l, c.d, .int many] st).wp fun d st' => ∃ row : List Int, d = .tup (row.map D.int) ∧ row.length = many.toNat ∧ (∀ x ∈ row, 0 ≤ x ∧ x ≤ 198) ∧ Kp l st st' ∧ Pok l st' := by
  have b1 := ok.b
  have f1 := ok.f
  refine w__law_spends ?_
  unfold b__law_spends Cup.d
  and_intros
  rename_i st1 X1 l1 e1
  refine (below (h.mono X1) (by omega)).mono ?_
  rintro _ st2 ⟨g, rfl, g0, g1, K2, P2⟩
  and_intros
  have hl : l < st.length := by obtain ⟨x, y, z, e⟩ := h; exact get_lt e
  have e2 : st2[st.length]? = some (.lst false []) := K2 _ _ (by omega) e1
  refine for_wp (fun i env st3 => ∃ (row : List Int) (lv : Int) (o1 o2 o3 : Option D), env = [some (.ref l), some c.d, some (.int many), some (.ref st.length), some (.int lv), some (.int g), o1, o2, o3] ∧ -c.f ≤ lv ∧ lv ≤ c.b ∧ row.length = i ∧ (∀ x ∈ row, 0 ≤ x ∧ x ≤ 198) ∧ i ≤ many.toNat ∧ st3[st.length]? = some (.lst false (row.map D.int)) ∧ Pok l st3 ∧ ∀ (q : Nat) (o : AO), q ≠ l → st[q]? = some o → st3[q]? = some o)
    ⟨[], c.b, _, _, _, rfl, by omega, by omega, rfl, by simp, Nat.zero_le _, e2, P2, fun q o hq e => K2 _ _ hq (X1 _ _ e)⟩ (fun _ _ _ _ => still_nil) ?_ ?_
  · rintro i d _ st3 hd ⟨row, lv, o1, o2, o3, rfl, v0, v1, hr, hx, hi, e3, P3, F3⟩
    obtain ⟨hlt, rfl⟩ := rangeL_at hd
    have hlen : 0 < ((c.rs.map D.int).length : Int) := by rw [List.length_map]; have := ok.n; omega
    unfold Cup.d
    have fin : ∀ (lv s : Int) (o1 o2 o3 : Option D) (env : En) (st4 : Sto), env = [some (.ref l), some c.d, some (.int many), some (.ref st.length), some (.int (lv - s)), some (.int g), o1, o2, o3] → -c.f ≤ lv ∧ lv ≤ c.b → 0 ≤ s ∧ s ≤ lv + c.f →
        st4[st.length]? = some (.lst false (row.map D.int ++ [.int s])) → Pok l st4 → (∀ (q : Nat) (o : AO), q ≠ l → st[q]? = some o → st4[q]? = some o) →
        ∃ (row : List Int) (lv : Int) (o1 o2 o3 : Option D), env = [some (.ref l), some c.d, some (.int many), some (.ref st.length), some (.int lv), some (.int g), o1, o2, o3] ∧ -c.f ≤ lv ∧ lv ≤ c.b ∧ row.length = i + 1 ∧ (∀ x ∈ row, 0 ≤ x ∧ x ≤ 198) ∧ i + 1 ≤ many.toNat ∧ st4[st.length]? = some (.lst false (row.map D.int)) ∧ Pok l st4 ∧ ∀ (q : Nat) (o : AO), q ≠ l → st[q]? = some o → st4[q]? = some o := by
      rintro lv s o1 o2 o3 _ st4 rfl hlv hs e4 P4 F4
      refine ⟨row ++ [s], _, _, _, _, rfl, by omega, by omega, by simp [hr], fun x h => ?_, by omega, by rw [e4, List.map_append]; rfl, P4, F4⟩
      rcases List.mem_append.mp h with h | h
      · exact hx x h
      · cases List.mem_singleton.mp h
        omega
    refine w_nm ?_
    refine ss_cut (fun env st4 => ∃ lv : Int, env = [some (.ref l), some c.d, some (.int many), some (.ref st.length), some (.int lv), some (.int g), some (.int i), o2, o3] ∧ (-c.f ≤ lv ∧ lv ≤ c.b) ∧ st4 = st3) ?_ ?_
    · obtain ⟨r, er, r0, r1⟩ := refill_some ok i
      rw [Int.zero_add]
      and_intros
      · refine o_subT er ?_
        and_intros
        exact ⟨_, rfl, by split <;> omega, rfl⟩
      · exact ⟨_, rfl, ⟨v0, v1⟩, rfl⟩
    · rintro _ _ ⟨lv, rfl, hlv, rfl⟩
      unfold Cup.d
      and_intros
      · refine o_append e3 (by rw [List.length_map]; simp only [sizeLine]; omega) ?_
        rintro st5 K5 l5 e5
        and_intros
        have P5 : Pok l st5 := by obtain ⟨x, y, z, e⟩ := P3; exact ⟨x, y, z, K5 _ _ (by omega) e⟩
        exact fin lv _ _ _ _ _ st5 rfl hlv (by omega) e5 P5 (fun q o hq e => K5 _ _ (by have := get_lt e; omega) (F3 _ _ hq e))
      · refine (below P3 (by omega)).mono ?_
        rintro _ st4 ⟨r, rfl, r0, r1, K4, P4⟩
        and_intros
        refine (one P4 (by simp) (by simp)).mono ?_
        rintro d st5 ⟨hd, K5, P5⟩
        have hs : ∃ s : Int, d = .int s ∧ 0 ≤ s ∧ s ≤ lv + c.f := by
          simp only [List.mem_cons, List.not_mem_nil, or_false] at hd
          rcases hd with rfl | rfl | rfl | rfl | rfl <;> exact ⟨_, rfl, by omega, by omega⟩
        obtain ⟨s, rfl, s0, s1⟩ := hs
        have e5 := K5 _ _ (by omega) (K4 _ _ (by omega) e3)
        and_intros
        refine o_append e5 (by rw [List.length_map]; simp only [sizeLine]; omega) ?_
        rintro st6 K6 l6 e6
        and_intros
        have P6 : Pok l st6 := by obtain ⟨x, y, z, e⟩ := P5; exact ⟨x, y, z, K6 _ _ (by omega) e⟩
        exact fin lv s _ _ _ _ st6 rfl hlv ⟨s0, s1⟩ e6 P6 (fun q o hq e => K6 _ _ (by have := get_lt e; omega) (K5 _ _ hq (K4 _ _ hq (F3 _ _ hq e))))
  · rintro _ st3 ⟨row, lv, o1, o2, o3, rfl, v0, v1, hr, hx, hi, e3, P3, F3⟩
    and_intros
    exact ⟨row, rfl, by rw [hr, rangeL_len]; omega, hx, F3, P3⟩
theorem cut_row (row : List Int) {a : Nat} (h : a < row.length) (y : Int) : cut (row.map D.int) none (some (a : Int)) ++ [.int y] ++ cut (row.map D.int) (some ((a : Int) + 1)) none = (row.take a ++ [y] ++ row.drop (a + 1)).map D.int := by
  rw [cut_map, cut_map, cut_to row (by omega), show (a : Int) + 1 = ((a + 1 : Nat) : Int) from by omega, cut_from row (by omega)]
  simp
theorem bent_ok {row : List Int} (hn : RowOk row) {a : Nat} (h : a < row.length) {y : Int} (hy : 0 ≤ y ∧ y ≤ 999) : RowOk (row.take a ++ [y] ++ row.drop (a + 1)) := by
  refine ⟨by have := hn.1; simp; omega, fun x hx => ?_⟩
  rcases List.mem_append.mp hx with hx | hx
  · rcases List.mem_append.mp hx with hx | hx
    · exact hn.2 x (List.mem_of_mem_take hx)
    · cases List.mem_singleton.mp hx
      exact hy
  · exact hn.2 x (List.mem_of_mem_drop hx)
theorem pool_ok {k : Nat} {st : Sto} {ns : List Int} (h : st[0]? = some (.lst true (ns.map D.int))) {lap : Int} (h0 : 0 ≤ lap ∧ lap ≤ 9) : (callF T G (k + 1) "_law_pool" [.ref 0, .int lap] st).wp fun d st' => ∃ l, d = .ref l ∧ l ≠ 0 ∧ Pok l st' ∧ Ext st st' := by
  have hl := get_lt h
  refine w__law_pool ?_
  unfold b__law_pool
  refine ss_cut (fun env st1 => ∃ cell : Int, env = [some (.ref 0), some (.int lap), some (.int cell), none, none] ∧ st1 = st) ?_ ?_
  · and_intros
    · rename_i hlt
      rw [List.length_map] at hlt
      refine o_subR h (atI_of h0.1 (by rw [List.getElem?_map, List.getElem?_eq_getElem (show lap.toNat < ns.length by omega)]; rfl)) ?_
      and_intros
      exact ⟨_, rfl, rfl⟩
    · exact ⟨_, rfl, rfl⟩
  · rintro _ _ ⟨cell, rfl, rfl⟩
    and_intros
    rename_i st1 X1 l1 e1
    refine for_wp (fun i env st2 => ∃ (z : Int) (o : Option D), env = [some (.ref 0), some (.int lap), some (.int cell), some (.int z), o] ∧ st2 = st1) ⟨_, _, rfl, rfl⟩ (fun i env st2 h => by obtain ⟨_, _, _, rfl⟩ := h; exact still_one e1) ?_ ?_
    · rintro i d _ st2 hd ⟨z, o, rfl, rfl⟩
      have hd := hd
      rw [cut_map] at hd
      obtain ⟨x, hx, rfl⟩ := map_at hd
      and_intros
      exact ⟨_, _, rfl, rfl⟩
    · rintro _ st2 ⟨z, o, rfl, rfl⟩
      and_intros
      all_goals
        refine ⟨_, rfl, ?_, ⟨_, _, _, by assumption⟩, by nofun⟩
        omega

/-! spans -/
def Cup.ref (c : Cup) (i : Nat) : Int := (c.rs[i % c.rs.length]?).getD 0
def Cup.cap (c : Cup) (i : Nat) : Int := if c.b + c.f < c.ref i then c.b + c.f else c.ref i
def upto (g : Nat → Int) : Nat → Int
  | 0 => 0
  | n + 1 => upto g n + g n
theorem upto_sum (g : Nat → Int) : ∀ n, ((List.range n).map g).sum = upto g n
  | 0 => rfl
  | n + 1 => by rw [List.range_succ, List.map_append, List.sum_append, upto_sum g n]; simp [upto]
def Cup.bnd (c : Cup) (lo n : Nat) : Int := c.b + c.f + upto (fun j => c.cap (lo + 1 + j)) n
def seg (row : List Int) (lo n : Nat) : Int := upto (fun j => (row[lo + j]?).getD 0) n
def Cup.Within (c : Cup) (row : List Int) : Prop := ∀ lo n : Nat, lo + n < row.length → seg row lo (n + 1) ≤ c.bnd lo n
theorem Cup.lv_succ (c : Cup) (row : List Int) (i : Nat) : c.lv row (i + 1) = (if 0 < i then (if c.lv row i + c.ref i < c.b then c.lv row i + c.ref i else c.b) else c.lv row i) - (row[i]?).getD 0 := by
  conv => lhs; unfold Cup.lv
  rfl
theorem Cup.ref_nn {c : Cup} (ok : c.Ok) (i : Nat) : 0 ≤ c.ref i ∧ c.ref i ≤ 99 := by
  unfold Cup.ref
  have h : i % c.rs.length < c.rs.length := Nat.mod_lt _ (by have := ok.n; omega)
  rw [List.getElem?_eq_getElem h]
  exact ok.r _ (List.getElem_mem h)
theorem Cup.cap_nn {c : Cup} (ok : c.Ok) (i : Nat) : 0 ≤ c.cap i ∧ c.cap i ≤ 99 ∧ c.cap i ≤ c.b + c.f ∧ c.cap i ≤ c.ref i := by
  have h := c.ref_nn ok i
  have := ok.b
  have := ok.f
  unfold Cup.cap
  split <;> omega
/-- a kept row's room left, from a tick on -/
theorem Cup.room_le {c : Cup} (ok : c.Ok) {row : List Int} (h : ∀ i, i < row.length → -c.f ≤ c.lv row (i + 1)) (lo : Nat) : ∀ n, lo + n < row.length → c.lv row (lo + n + 1) + c.f ≤ c.bnd lo n - seg row lo (n + 1)
  | 0, hl => by
    have e := c.lv_succ row lo
    have : c.bnd lo 0 = c.b + c.f := by simp [Cup.bnd, upto]
    have e2 : seg row lo (0 + 1) = (row[lo]?).getD 0 := by simp [seg, upto]
    rw [Nat.add_zero, e, this, e2]
    split
    · split <;> omega
    · have : lo = 0 := by omega
      subst this
      unfold Cup.lv
      omega
  | n + 1, hl => by
    have ih := c.room_le ok h lo n (by omega)
    have h1 := h (lo + n) (by omega)
    have e := c.lv_succ row (lo + (n + 1))
    have e1 : c.bnd lo (n + 1) = c.bnd lo n + c.cap (lo + 1 + n) := by simp [Cup.bnd, upto]; omega
    have e2 : seg row lo (n + 1 + 1) = seg row lo (n + 1) + (row[lo + (n + 1)]?).getD 0 := by simp [seg, upto]
    have e3 : lo + 1 + n = lo + (n + 1) := by omega
    rw [e, if_pos (by omega), e1, e2, e3]
    rw [show lo + (n + 1) = lo + n + 1 from by omega] at *
    have hr := c.ref_nn ok (lo + n + 1)
    unfold Cup.cap
    split <;> split <;> omega
/-- .. is some span's bound less its spends -/
theorem Cup.room_ge {c : Cup} (ok : c.Ok) (row : List Int) : ∀ h, ∃ lo n, lo + n = h ∧ c.bnd lo n - seg row lo (n + 1) ≤ c.lv row (h + 1) + c.f
  | 0 => ⟨0, 0, rfl, by
      rw [c.lv_succ]
      simp [Cup.bnd, seg, upto, Cup.lv]
      omega⟩
  | h + 1 => by
    obtain ⟨lo, n, e, q⟩ := c.room_ge ok row h
    have e1 := c.lv_succ row (h + 1)
    rw [if_pos (by omega)] at e1
    by_cases t : c.lv row (h + 1) + c.ref (h + 1) < c.b
    · rw [if_pos t] at e1
      refine ⟨lo, n + 1, by omega, ?_⟩
      have e2 : c.bnd lo (n + 1) = c.bnd lo n + c.cap (h + 1) := by simp [Cup.bnd, upto, show lo + 1 + n = h + 1 from by omega]; omega
      have e3 : seg row lo (n + 1 + 1) = seg row lo (n + 1) + (row[h + 1]?).getD 0 := by simp [seg, upto, show lo + (n + 1) = h + 1 from by omega]
      have := (c.cap_nn ok (h + 1)).2.2.2
      rw [e1, e2, e3]
      omega
    · rw [if_neg t] at e1
      refine ⟨h + 1, 0, rfl, ?_⟩
      rw [e1]
      simp [Cup.bnd, seg, upto]
      omega
theorem Cup.keeps_iff (c : Cup) (row : List Int) : c.keeps row = true ↔ ∀ i, i < row.length → -c.f ≤ c.lv row (i + 1) := by
  unfold Cup.keeps Cup.lefts
  rw [List.all_eq_true]
  constructor
  · intro h i hi
    exact of_decide_eq_true (h _ (List.mem_map.mpr ⟨i, List.mem_range.mpr hi, rfl⟩))
  · intro h x hx
    obtain ⟨i, hi, rfl⟩ := List.mem_map.mp hx
    exact decide_eq_true (h i (List.mem_range.mp hi))
theorem Cup.within_iff {c : Cup} (ok : c.Ok) (row : List Int) : c.keeps row = true ↔ c.Within row := by
  rw [c.keeps_iff]
  constructor
  · intro h lo n hl
    have := c.room_le ok h lo n hl
    have := h (lo + n) hl
    omega
  · intro h i hi
    obtain ⟨lo, n, e, q⟩ := c.room_ge ok row i
    have := h lo n (by omega)
    omega
/-- the fullest row -/
def Cup.full (c : Cup) (lo n : Nat) : List Int := List.replicate lo 0 ++ [c.b + c.f] ++ (List.range n).map fun j => c.cap (lo + 1 + j)
theorem Cup.full_len (c : Cup) (lo n : Nat) : (c.full lo n).length = lo + 1 + n := by simp [Cup.full]; omega
theorem Cup.full_at (c : Cup) (lo n i : Nat) (h : i < lo + 1 + n) : ((c.full lo n)[i]?).getD 0 = if i < lo then 0 else if i = lo then c.b + c.f else c.cap i := by
  unfold Cup.full
  by_cases h1 : i < lo
  · rw [List.append_assoc, List.getElem?_append_left (by simpa using h1), if_pos h1]
    simp [h1]
  · rw [if_neg h1]
    by_cases h2 : i = lo
    · rw [if_pos h2, List.getElem?_append_left (by simp; omega), List.getElem?_append_right (by simp; omega)]
      simp [h2]
    · rw [if_neg h2, List.getElem?_append_right (by simp; omega), List.getElem?_map, List.getElem?_range (by simp; omega)]
      simp only [List.length_append, List.length_replicate, List.length_cons, List.length_nil, Option.map_some, Option.getD_some]
      rw [show lo + 1 + (i - (lo + (0 + 1))) = i from by omega]
theorem Cup.full_lv {c : Cup} (ok : c.Ok) {lo n : Nat} {row : List Int} : ∀ i, (∀ j, j < i → (row[j]?).getD 0 = if j < lo then 0 else if j = lo then c.b + c.f else c.cap j) → c.lv row i = if i ≤ lo then c.b else -c.f
  | 0, _ => by simp [Cup.lv]
  | i + 1, h => by
    have ih := c.full_lv ok (lo := lo) (n := n) (row := row) i fun j hj => h j (by omega)
    have hr := c.ref_nn ok i
    have hb := ok.b
    have hf := ok.f
    rw [c.lv_succ, h i (by omega), ih]
    unfold Cup.cap
    by_cases h1 : i + 1 ≤ lo
    · rw [if_pos h1, if_pos (show i ≤ lo by omega), if_pos (show i < lo by omega)]
      split
      · split <;> omega
      · omega
    · rw [if_neg h1, if_neg (show ¬ i < lo by omega)]
      by_cases h2 : i = lo
      · rw [if_pos h2, if_pos (show i ≤ lo by omega)]
        split
        · split <;> omega
        · omega
      · rw [if_neg h2, if_neg (show ¬ i ≤ lo by omega), if_pos (by omega)]
        split <;> split <;> omega
theorem Cup.full_kept {c : Cup} (ok : c.Ok) (lo n : Nat) : c.keeps (c.full lo n) = true := by
  rw [c.keeps_iff]
  intro i hi
  rw [c.full_len] at hi
  rw [c.full_lv ok (lo := lo) (n := n) (i + 1) fun j hj => c.full_at lo n j (by omega)]
  have hb := ok.b
  have hf := ok.f
  split <;> omega
theorem Cup.over_not {c : Cup} (ok : c.Ok) (lo n : Nat) {row : List Int} (hl : row.length = lo + 1 + n) (h : ∀ j, j < lo + n → row[j]? = (c.full lo n)[j]?) (hx : row[lo + n]? = some (((c.full lo n)[lo + n]?).getD 0 + 1)) : c.keeps row = false := by
  rw [← Bool.not_eq_true, c.keeps_iff]
  intro q
  have q := q (lo + n) (by omega)
  have e := c.lv_succ row (lo + n)
  have e0 : ∀ j, j < lo + n → (row[j]?).getD 0 = if j < lo then 0 else if j = lo then c.b + c.f else c.cap j := fun j hj => by rw [h j hj]; exact c.full_at lo n j (by omega)
  have e2 := c.full_lv ok (lo := lo) (n := n) (row := row) (lo + n) e0
  have e3 := c.full_lv ok (lo := lo) (n := n) (row := c.full lo n) (lo + n + 1) fun j hj => c.full_at lo n j (by omega)
  have e4 := c.full_lv ok (lo := lo) (n := n) (row := c.full lo n) (lo + n) fun j hj => c.full_at lo n j (by omega)
  have e5 := c.lv_succ (c.full lo n) (lo + n)
  rw [hx] at e
  rw [if_neg (by omega)] at e3
  rw [e3, e4, ← e2] at e5
  simp only [Option.getD_some] at e
  omega
theorem Cup.full_sum (c : Cup) (lo n : Nat) : (c.full lo n).sum = c.bnd lo n := by
  unfold Cup.full Cup.bnd
  rw [List.sum_append, List.sum_append, upto_sum]
  have : ∀ k : Nat, (List.replicate k (0 : Int)).sum = 0 := fun k => by induction k with
    | zero => rfl
    | succ k ih => rw [List.replicate_succ, List.sum_cons, ih]; rfl
  rw [this]
  simp

theorem ref_at {c : Cup} (ok : c.Ok) (i : Nat) : L2.atI (c.rs.map D.int) ((i : Int) % (c.rs.map D.int).length) = some (.int (c.ref i)) := refill_at ok i
theorem Cup.len_pos {c : Cup} (ok : c.Ok) : 0 < ((c.rs.map D.int).length : Int) := by rw [List.length_map]; have := ok.n; omega
theorem between_true {k : Nat} {st : Sto} {x lo hi : Int} (h0 : 0 ≤ x) (h1 : lo ≤ x) (h2 : x ≤ hi) : (callF T G (k + 2) "is_between" [.int x, .int lo, .int hi] st).wp fun d st' => d = .bl true ∧ st' = st := by
  refine w_is_between ?_
  unfold b_is_between
  and_intros
  refine num_ok.mono ?_
  rintro _ _ ⟨rfl, rfl⟩
  and_intros
  · refine ⟨?_, rfl⟩
    simp [*]
  · omega
  · omega
theorem check_tick_ok {k : Nat} {st : Sto} {x lo : Int} (h0 : 0 ≤ x) (h1 : lo ≤ x) (h2 : x ≤ 2499) : (callF T G (k + 3) "check_tick" [.int x, .int lo] st).wp fun d st' => st' = st := by
  refine w_check_tick ?_
  unfold b_check_tick
  and_intros
  refine (between_true h0 h1 (by omega)).mono ?_
  rintro _ _ ⟨rfl, rfl⟩
  and_intros
  rfl
theorem most_ok {k : Nat} {st : Sto} {c : Cup} : (callF T G (k + 1) "most_at_once" [c.d] st).wp fun d st' => d = .int (c.b + c.f) ∧ st' = st := by
  refine w_most_at_once ?_
  unfold b_most_at_once Cup.d
  and_intros
  exact ⟨rfl, rfl⟩
theorem step_ok {k : Nat} {st : Sto} {c : Cup} (ok : c.Ok) (i : Nat) : (callF T G (k + 2) "step_at" [c.d, .int (i : Int)] st).wp fun d st' => d = .int (c.cap i) ∧ st' = st := by
  refine w_step_at ?_
  unfold b_step_at
  have hp := Cup.len_pos ok
  have e : c.d = .tup [.int c.b, .tup (c.rs.map D.int), .int c.f] := rfl
  rw [e]
  and_intros
  refine o_subT (ref_at ok i) ?_
  and_intros
  rw [← e]
  refine most_ok.mono ?_
  rintro _ _ ⟨rfl, rfl⟩
  and_intros
  exact ⟨rfl, rfl⟩
theorem bound_by_ok {k : Nat} {st : Sto} {c : Cup} (ok : c.Ok) {lo n : Nat} (h : lo + n ≤ 2499) : (callF T G (k + 3) "bound_by" [c.d, .int (lo : Int), .int ((lo + n : Nat) : Int)] st).wp fun d st' => d = .int (c.bnd lo n) ∧ Ext st st' := by
  refine w_bound_by ?_
  unfold b_bound_by
  and_intros
  refine most_ok.mono ?_
  rintro _ _ ⟨rfl, rfl⟩
  and_intros
  rename_i st1
  have hlen : (rangeL ((lo : Int) + 1) (((lo + n : Nat) : Int) + 1 - ((lo : Int) + 1)).toNat).length = n := by rw [rangeL_len]; omega
  refine lc_range (S := fun st2 => Ext st1 st2) (g := D.int) (h := fun j => c.cap (lo + 1 + j)) (by show (rangeL _ _).length ≤ _; rw [hlen]; simp only [sizeLine]; omega) (Ext.refl _) (fun _ _ => still_nil) ?_ ?_
  · rintro j d st2 hd X2
    obtain ⟨_, rfl⟩ := rangeL_at hd
    rw [show (lo : Int) + 1 + (j : Int) = ((lo + 1 + j : Nat) : Int) from by omega]
    and_intros
    refine (step_ok ok _).mono ?_
    rintro _ _ ⟨rfl, rfl⟩
    exact ⟨rfl, X2⟩
  · rintro st2 X2
    and_intros
    rename_i st3 X3 l3 e3
    refine o_sum e3 ?_
    and_intros
    refine ⟨?_, by nofun⟩
    rw [hlen, upto_sum]
    rfl
theorem bound_ok {k : Nat} {st : Sto} {c : Cup} (ok : c.Ok) {lo n : Nat} (h : lo + n ≤ 2499) : (callF T G (k + 6) "bound" [c.d, .int (lo : Int), .int ((lo + n : Nat) : Int)] st).wp fun d st' => d = .int (c.bnd lo n) ∧ Ext st st' := by
  refine w_bound ?_
  unfold b_bound
  and_intros
  refine (check_bucket_ok ok).mono ?_
  rintro _ st1 X1
  and_intros
  refine (check_tick_ok (by omega) (by omega) (by omega)).mono ?_
  rintro _ _ rfl
  and_intros
  refine (check_tick_ok (by omega) (by omega) (by omega)).mono ?_
  rintro _ _ rfl
  and_intros
  refine (bound_by_ok ok h).mono ?_
  rintro _ st3 ⟨rfl, X3⟩
  exact ⟨rfl, by nofun⟩
theorem law_bound_ok {k : Nat} {st : Sto} {c : Cup} (ok : c.Ok) {lo n : Nat} (h : lo + n ≤ 2499) : (callF T G (k + 1) "_law_bound" [c.d, .int (lo : Int), .int ((lo + n : Nat) : Int)] st).wp fun d st' => d = .int (c.bnd lo n) ∧ st' = st := by
  have hp := Cup.len_pos ok
  refine w__law_bound ?_
  unfold b__law_bound Cup.d
  and_intros
  have hlen : (rangeL ((lo : Int) + 1) (((lo + n : Nat) : Int) + 1 - ((lo : Int) + 1)).toNat).length = n := by rw [rangeL_len]; omega
  refine for_wp (fun i env st2 => ∃ o, env = [some (.tup [.int c.b, .tup (c.rs.map D.int), .int c.f]), some (.int lo), some (.int ((lo + n : Nat) : Int)), some (.int (c.bnd lo i)), o] ∧ st2 = st) ⟨_, by simp [Cup.bnd, upto]; rfl, rfl⟩ (fun _ _ _ _ => still_nil) ?_ ?_
  · rintro i d _ st2 hd ⟨o, rfl, rfl⟩
    obtain ⟨_, rfl⟩ := rangeL_at hd
    rw [show (lo : Int) + 1 + (i : Int) = ((lo + 1 + i : Nat) : Int) from by omega]
    and_intros
    refine o_subT (ref_at ok _) ?_
    and_intros
    refine ⟨some (.int ((lo + 1 + i : Nat) : Int)), ?_, rfl⟩
    have : c.bnd lo (i + 1) = c.bnd lo i + c.cap (lo + 1 + i) := by simp [Cup.bnd, upto]; omega
    rw [this]
    rfl
  · rintro _ st2 ⟨o, rfl, rfl⟩
    and_intros
    exact ⟨by rw [hlen], rfl⟩
theorem row_at {row : List Int} {i : Nat} (h : i < row.length) : L2.atI (row.map D.int) (i : Int) = some (.int ((row[i]?).getD 0)) := by
  rw [atI_nat, List.getElem?_map, List.getElem?_eq_getElem h]
  rfl
theorem within_ok {k : Nat} {st : Sto} {c : Cup} (ok : c.Ok) {row : List Int} (hn : row.length ≤ 2500) : (callF T G (k + 1) "_law_is_within" [c.d, .tup (row.map D.int)] st).wp fun d st' => d = .bl (c.keeps row) ∧ st' = st := by
  have hp := Cup.len_pos ok
  have hl := len_int row
  refine w__law_is_within ?_
  unfold b__law_is_within Cup.d
  and_intros
  refine for_wp (fun i env st2 => ∃ o1 o2 o3 o4, env = [some (.tup [.int c.b, .tup (c.rs.map D.int), .int c.f]), some (.tup (row.map D.int)), o1, o2, o3, o4] ∧ st2 = st ∧ ∀ lo n : Nat, lo < i → lo + n < row.length → seg row lo (n + 1) ≤ c.bnd lo n) ⟨_, _, _, _, rfl, rfl, fun _ _ h => absurd h (Nat.not_lt_zero _)⟩ (fun _ _ _ _ => still_nil) ?_ ?_
  · rintro lo d _ st2 hd ⟨o1, o2, o3, o4, rfl, rfl, hw⟩
    obtain ⟨hlt, rfl⟩ := rangeL_at hd
    have hlo : lo < row.length := by omega
    rw [Int.zero_add]
    and_intros
    have hlen : (rangeL (lo : Int) (((row.map D.int).length : Int) - (lo : Int)).toNat).length = row.length - lo := by rw [rangeL_len]; omega
    refine for_wp (fun n env st3 => ∃ o4, env = [some (.tup [.int c.b, .tup (c.rs.map D.int), .int c.f]), some (.tup (row.map D.int)), some (.int lo), some (.int (seg row lo n)), some (.int (c.bnd lo (n - 1))), o4] ∧ st3 = st2 ∧ ∀ j : Nat, j < n → seg row lo (j + 1) ≤ c.bnd lo j) ⟨_, by simp [seg, upto, Cup.bnd]; rfl, rfl, fun _ h => absurd h (Nat.not_lt_zero _)⟩ (fun _ _ _ _ => still_nil) ?_ ?_
    · rintro n d _ st3 hd ⟨o4, rfl, rfl, hq⟩
      obtain ⟨hlt, rfl⟩ := rangeL_at hd
      have hln : lo + n < row.length := by omega
      rw [show (lo : Int) + (n : Int) = ((lo + n : Nat) : Int) from by omega]
      and_intros
      refine o_subT (row_at hln) ?_
      refine o_add ?_
      rw [show seg row lo n + (row[lo + n]?).getD 0 = seg row lo (n + 1) from rfl]
      refine w_nm ?_
      refine ss_cut (fun env st4 => env = [some (.tup [.int c.b, .tup (c.rs.map D.int), .int c.f]), some (.tup (row.map D.int)), some (.int lo), some (.int (seg row lo (n + 1))), some (.int (c.bnd lo n)), some (.int ((lo + n : Nat) : Int))] ∧ st4 = st3) ?_ ?_
      · and_intros
        · refine o_subT (ref_at ok _) ?_
          and_intros
          refine ⟨?_, rfl⟩
          obtain ⟨m, rfl⟩ : ∃ m, n = m + 1 := ⟨n - 1, by omega⟩
          have : c.bnd lo (m + 1) = c.bnd lo m + c.cap (lo + (m + 1)) := by simp [Cup.bnd, upto, show lo + 1 + m = lo + (m + 1) from by omega]; omega
          rw [this]
          rfl
        · have : n = 0 := by omega
          subst this
          exact ⟨rfl, rfl⟩
      · rintro _ _ ⟨rfl, rfl⟩
        and_intros
        · refine ⟨?_, rfl⟩
          rename_i hgt
          refine congrArg D.bl ?_
          symm
          rw [← Bool.not_eq_true, Cup.within_iff ok]
          intro hw
          have := hw lo n hln
          omega
        · refine ⟨_, rfl, rfl, fun j hj => ?_⟩
          by_cases e : j = n
          · subst e
            omega
          · exact hq j (by omega)
    · rintro _ st3 ⟨o4, rfl, rfl, hq⟩
      and_intros
      refine ⟨_, _, _, _, rfl, rfl, fun l n h1 h2 => ?_⟩
      by_cases e : l = lo
      · subst e
        exact hq n (by rw [hlen]; omega)
      · exact hw l n (by omega) h2
  · rintro _ st2 ⟨o1, o2, o3, o4, rfl, rfl, hw⟩
    and_intros
    refine ⟨?_, rfl⟩
    refine congrArg D.bl ?_
    symm
    rw [Cup.within_iff ok]
    intro lo n h
    refine hw lo n ?_ h
    rw [rangeL_len]
    omega

theorem Cup.full_succ (c : Cup) (lo n : Nat) : c.full lo (n + 1) = c.full lo n ++ [c.cap (lo + 1 + n)] := by
  unfold Cup.full
  rw [List.range_succ, List.map_append, List.append_assoc, List.append_assoc, List.append_assoc]
  simp
theorem full_ok {k : Nat} {st : Sto} {c : Cup} (ok : c.Ok) {lo n : Nat} (h : lo + n ≤ 100) : (callF T G (k + 1) "_law_full" [c.d, .int (lo : Int), .int ((lo + n : Nat) : Int)] st).wp fun d st' => d = .tup ((c.full lo n).map D.int) ∧ Ext st st' := by
  have hp := Cup.len_pos ok
  refine w__law_full ?_
  unfold b__law_full Cup.d
  and_intros
  rename_i st1 X1 l1 e1
  refine o_rep e1 ⟨by omega, by omega, by simp [sizeLine]; omega⟩ ?_
  and_intros
  rename_i st2 X2 l2 e2 st3 X3 l3 e3
  refine o_cat (X3 _ _ e2) e3 (by simp [sizeLine]; omega) ?_
  and_intros
  rename_i st4 X4 l4 e4
  have hlen : (rangeL ((lo : Int) + 1) (((lo + n : Nat) : Int) + 1 - ((lo : Int) + 1)).toNat).length = n := by rw [rangeL_len]; omega
  have X04 : Ext st st4 := by nofun
  have e4 : st4[st3.length]? = some (.lst false ((c.full lo 0).map D.int)) := by
    rw [e4]
    simp [Cup.full]
  have hst : st.length ≤ st3.length := by omega
  refine for_wp (fun i env st5 => ∃ o, env = [some (.tup [.int c.b, .tup (c.rs.map D.int), .int c.f]), some (.int lo), some (.int ((lo + n : Nat) : Int)), some (.ref st3.length), o] ∧ Ext st st5 ∧ st5[st3.length]? = some (.lst false ((c.full lo i).map D.int)) ∧ i ≤ n) ⟨_, rfl, X04, e4, Nat.zero_le _⟩ (fun _ _ _ _ => still_nil) ?_ ?_
  · rintro i d _ st5 hd ⟨o, rfl, X5, e5, hi⟩
    obtain ⟨hlt, rfl⟩ := rangeL_at hd
    rw [show (lo : Int) + 1 + (i : Int) = ((lo + 1 + i : Nat) : Int) from by omega]
    and_intros
    refine o_subT (ref_at ok _) ?_
    and_intros
    refine o_append e5 (by rw [List.length_map, c.full_len]; simp only [sizeLine]; omega) ?_
    rintro st6 K6 l6 e6
    and_intros
    refine ⟨_, rfl, Kp.toExt (Kp.trans X5.kp K6) hst, ?_, by omega⟩
    rw [e6, c.full_succ, List.map_append]
    rfl
  · rintro _ st5 ⟨o, rfl, X5, e5, hi⟩
    and_intros
    refine ⟨?_, X5⟩
    rw [hlen]
theorem last_at {row : List Int} (h : 0 < row.length) : L2.atI (row.map D.int) (-1) = some (.int ((row[row.length - 1]?).getD 0)) := by
  unfold L2.atI L2.ixN
  rw [if_neg (by omega), if_pos (by rw [List.length_map]; omega)]
  simp only [Option.bind_some]
  rw [List.length_map, show (-1 + (row.length : Int)).toNat = row.length - 1 from by omega, List.getElem?_map, List.getElem?_eq_getElem (by omega)]
  rfl
theorem cut_last {α : Type} (xs : List α) (h : 0 < xs.length) : cut xs none (some (-1)) = xs.take (xs.length - 1) := by
  unfold cut HT.sIx
  simp only [show (-1 : Int) < 0 from by omega, if_true, List.drop_zero, Nat.sub_zero]
  rw [show (-1 + (xs.length : Int)).toNat = xs.length - 1 from by omega]
theorem same_b {k : Nat} {st : Sto} {x y : Bool} : (callF T G (k + 1) "_law_same" [.bl x, .bl y] st).wp fun d st' => d = .bl (decide (x = y)) ∧ st' = st := by
  refine w__law_same ?_
  unfold b__law_same
  and_intros
  exact ⟨rfl, rfl⟩

theorem span_ok {k l : Nat} {st : Sto} (h : Pok l st) {c : Cup} (ok : c.Ok) : (callF T G (k + 7) "_law_is_span_right" [.ref l, c.d] st).wp fun d st' => d = .bl true ∧ Kp l st st' ∧ Pok l st' := by
  have hb := ok.b
  have hf := ok.f
  refine w__law_is_span_right ?_
  unfold b__law_is_span_right
  refine ss_cut (fun env st1 => ∃ o1 o2 o3 o4 o5 o6 o7 : Option D, env = [some (.ref l), some c.d, o1, o2, o3, o4, o5, o6, o7] ∧ Kp l st st1 ∧ Pok l st1) ?_ ?_
  · and_intros
    refine for_wp (fun i env st1 => ∃ o1 o2 o3 o4 o5 o6 o7 : Option D, env = [some (.ref l), some c.d, o1, o2, o3, o4, o5, o6, o7] ∧ Kp l st st1 ∧ Pok l st1) ⟨_, _, _, _, _, _, _, rfl, Kp.refl _ _, h⟩ (fun _ _ _ _ => still_nil) ?_ (fun _ _ h => h)
    rintro i d _ st1 hd ⟨o1, o2, o3, o4, o5, o6, o7, rfl, K1, P1⟩
    obtain ⟨hlt, rfl⟩ := rangeL_at hd
    rw [Int.zero_add]
    and_intros
    refine (one P1 (by simp) (by simp)).mono ?_
    rintro d st2 ⟨hd, K2, P2⟩
    have hh : ∃ s : Int, d = .int s ∧ 1 ≤ s ∧ s ≤ 2400 := by
      simp only [List.mem_cons, List.not_mem_nil, or_false] at hd
      rcases hd with rfl | rfl | rfl <;> exact ⟨_, rfl, by omega, by omega⟩
    obtain ⟨m1, rfl, a0, a1⟩ := hh
    and_intros
    refine (below P2 (by omega)).mono ?_
    rintro _ st3 ⟨lo, rfl, l0, l1, K3, P3⟩
    and_intros
    refine (one P3 (by simp) (by simp)).mono ?_
    rintro d st4 ⟨hd, K4, P4⟩
    have hh : ∃ s : Int, d = .int s ∧ 1 ≤ s ∧ s ≤ 100 := by
      simp only [List.mem_cons, List.not_mem_nil, or_false] at hd
      rcases hd with rfl | rfl | rfl <;> exact ⟨_, rfl, by omega, by omega⟩
    obtain ⟨m2, rfl, b0, b1⟩ := hh
    and_intros
    refine (below P4 (by omega)).mono ?_
    rintro _ st5 ⟨n, rfl, n0, n1, K5, P5⟩
    refine o_add ?_
    refine w_nm ?_
    have K15 : Kp l st st5 := by nofun
    obtain ⟨lo, rfl⟩ : ∃ m : Nat, lo = (m : Int) := ⟨lo.toNat, by omega⟩
    refine ss_cut (fun env st6 => ∃ n : Nat, lo + n ≤ 2499 ∧ env = [some (.ref l), some c.d, some (.int i), some (.int lo), some (.int ((lo + n : Nat) : Int)), o4, o5, o6, o7] ∧ Kp l st st6 ∧ Pok l st6) ?_ ?_
    · and_intros
      · refine (one P5 (by simp) (by simp)).mono ?_
        rintro d st6 ⟨hd, K6, P6⟩
        have hh : ∃ m : Nat, d = .int ((lo + m : Nat) : Int) ∧ lo + m ≤ 2499 := by
          simp only [List.mem_cons, List.not_mem_nil, or_false] at hd
          rcases hd with rfl | rfl | rfl
          · exact ⟨2499 - lo, congrArg D.int (by omega), by omega⟩
          · exact ⟨0, congrArg D.int (by omega), by omega⟩
          · exact ⟨n.toNat, congrArg D.int (by omega), by omega⟩
        obtain ⟨m, rfl, hm⟩ := hh
        and_intros
        exact ⟨m, hm, rfl, by nofun, P6⟩
      · refine ⟨n.toNat, by omega, ?_, K15, P5⟩
        rw [show (lo : Int) + n = ((lo + n.toNat : Nat) : Int) from by omega]
        rfl
    · clear K1 K2 K3 K4 K5
      rintro _ st6 ⟨n, hn, rfl, K6, P6⟩
      and_intros
      refine (law_bound_ok ok hn).mono ?_
      rintro _ _ ⟨rfl, rfl⟩
      rename_i st7
      and_intros
      refine (bound_ok ok hn).mono ?_
      rintro _ st8 ⟨rfl, X8⟩
      and_intros
      refine same_int.mono ?_
      rintro _ _ ⟨rfl, rfl⟩
      and_intros
      refine w_callk t_bound ?_
      and_intros
      refine ⟨_, bk_bound_0, ?_⟩
      refine (bound_ok ok hn).mono ?_
      rintro _ st9 ⟨rfl, X9⟩
      and_intros
      refine same_int.mono ?_
      rintro _ _ ⟨rfl, rfl⟩
      and_intros
      exact ⟨_, _, _, _, _, _, _, rfl, by nofun, (P6.mono X8).mono X9⟩
  · rintro _ st1 ⟨o1, o2, o3, o4, o5, o6, o7, rfl, K1, P1⟩
    and_intros
    refine (below P1 (by omega)).mono ?_
    rintro _ st2 ⟨lo, rfl, l0, l1, K2, P2⟩
    and_intros
    refine (below P2 (by omega)).mono ?_
    rintro _ st3 ⟨n, rfl, n0, n1, K3, P3⟩
    obtain ⟨lo, rfl⟩ : ∃ m : Nat, lo = (m : Int) := ⟨lo.toNat, by omega⟩
    obtain ⟨n, rfl⟩ : ∃ m : Nat, n = (m : Int) := ⟨n.toNat, by omega⟩
    and_intros
    rw [show (lo : Int) + (n : Int) = ((lo + n : Nat) : Int) from by omega]
    refine (full_ok ok (by omega)).mono ?_
    rintro _ st4 ⟨rfl, X4⟩
    have P4 := P3.mono X4
    have K4 : Kp l st st4 := by nofun
    clear K1 K2 K3 X4 P1 P2 P3
    have hfl := c.full_len lo n
    have hfi := len_int (c.full lo n)
    have hrow : RowOk (c.full lo n) := by
      refine ⟨by omega, fun x hx => ?_⟩
      obtain ⟨i, hi, e⟩ := List.mem_iff_getElem.mp hx
      have := c.full_at lo n i (by omega)
      rw [List.getElem?_eq_getElem hi, e] at this
      have hc := c.cap_nn ok i
      simp only [Option.getD_some] at this
      rw [this]
      split
      · omega
      · split <;> omega
    and_intros
    rw [show ((((c.full lo n).map D.int).length : Nat) : Int) - 1 = ((lo + n : Nat) : Int) from by omega]
    refine (bound_ok ok (by omega)).mono ?_
    rintro _ st5 ⟨rfl, X5⟩
    and_intros
    refine o_sumT ?_
    and_intros
    rw [c.full_sum]
    refine same_int.mono ?_
    rintro _ _ ⟨rfl, rfl⟩
    and_intros
    refine (keeps_ok ok hrow).mono ?_
    rintro _ st6 ⟨rfl, X6⟩
    and_intros
    rw [Cup.full_kept ok]
    refine same_bl.mono ?_
    rintro _ _ ⟨rfl, rfl⟩
    and_intros
    refine (below ((P4.mono X5).mono X6) (by omega)).mono ?_
    rintro _ st7 ⟨a, rfl, a0, a1, K7, P7⟩
    have K7 : Kp l st st7 := by nofun
    obtain ⟨a, rfl⟩ : ∃ m : Nat, a = (m : Int) := ⟨a.toNat, by omega⟩
    have ha : lo + a < (c.full lo n).length := by omega
    have hv : 0 ≤ ((c.full lo n)[lo + a]?).getD 0 ∧ ((c.full lo n)[lo + a]?).getD 0 ≤ 198 := by
      have hc := c.cap_nn ok (lo + a)
      rw [c.full_at lo n (lo + a) (by omega)]
      split
      · omega
      · split <;> omega
    and_intros
    rw [show (lo : Int) + (a : Int) = ((lo + a : Nat) : Int) from by omega]
    refine o_subT (row_at ha) ?_
    and_intros
    have c1 := cut_le ((c.full lo n).map D.int) none (some ((lo + a : Nat) : Int))
    have c2 := cut_le ((c.full lo n).map D.int) (some (((lo + a : Nat) : Int) + 1)) none
    have c3 := cut_le ((c.full lo n).map D.int) none (some (-1))
    rw [List.length_map] at c1 c2 c3
    refine o_addT (by simp only [List.length_cons, List.length_nil, sizeLine]; omega) ?_
    and_intros
    refine o_addT (by simp only [List.length_append, List.length_cons, List.length_nil, sizeLine]; omega) ?_
    and_intros
    rw [cut_row _ ha]
    have hbent := bent_ok hrow ha (y := ((c.full lo n)[lo + a]?).getD 0 + 1) (by omega)
    refine (keeps_ok ok hbent).mono ?_
    rintro _ st8 ⟨rfl, X8⟩
    and_intros
    refine (law_keeps_ok ok hbent).mono ?_
    rintro _ st9 ⟨rfl, X9⟩
    and_intros
    refine same_bl.mono ?_
    rintro _ _ ⟨rfl, rfl⟩
    and_intros
    refine o_subT (last_at (by omega)) ?_
    and_intros
    refine o_addT (by simp only [List.length_cons, List.length_nil, sizeLine]; omega) ?_
    and_intros
    have hv2 : 0 ≤ ((c.full lo n)[lo + n]?).getD 0 ∧ ((c.full lo n)[lo + n]?).getD 0 ≤ 198 := by
      have hc := c.cap_nn ok (lo + n)
      rw [c.full_at lo n (lo + n) (by omega)]
      split
      · omega
      · split <;> omega
    have hlast : cut ((c.full lo n).map D.int) none (some (-1)) ++ [D.int (((c.full lo n)[(c.full lo n).length - 1]?).getD 0 + 1)] = ((c.full lo n).take (lo + n) ++ [((c.full lo n)[lo + n]?).getD 0 + 1]).map D.int := by
      rw [cut_map, cut_last _ (by omega), show (c.full lo n).length - 1 = lo + n from by omega, List.map_append]
      rfl
    rw [hlast]
    have hbent2 : RowOk ((c.full lo n).take (lo + n) ++ [((c.full lo n)[lo + n]?).getD 0 + 1]) := by
      refine ⟨by simp; omega, fun x hx => ?_⟩
      rcases List.mem_append.mp hx with hx | hx
      · exact hrow.2 x (List.mem_of_mem_take hx)
      · cases List.mem_singleton.mp hx
        omega
    refine (keeps_ok ok hbent2).mono ?_
    rintro _ st10 ⟨rfl, X10⟩
    and_intros
    rw [c.over_not ok lo n (by simp; omega) (fun j hj => by rw [List.getElem?_append_left (by simp; omega), List.getElem?_take_of_lt hj]) (by rw [List.getElem?_append_right (by simp; omega)]; simp [show min (lo + n) (c.full lo n).length = lo + n from by omega])]
    refine same_bl.mono ?_
    rintro _ _ ⟨rfl, rfl⟩
    exact ⟨rfl, by nofun, ((P7.mono X8).mono X9).mono X10⟩

theorem right_ok {k l : Nat} {st : Sto} (h : Pok l st) : (callF T G (k + 8) "_law_right" [.ref l] st).wp fun d st' => d = .bl true ∧ Kp l st st' := by
  refine w__law_right ?_
  unfold b__law_right
  and_intros
  refine for_wp (fun i env st1 => ∃ o1 o2 o3 o4 o5 o6 o7 o8 o9 : Option D, env = [some (.ref l), o1, o2, o3, o4, o5, o6, o7, o8, o9] ∧ Kp l st st1 ∧ Pok l st1) ⟨_, _, _, _, _, _, _, _, _, rfl, Kp.refl _ _, h⟩ (fun _ _ _ _ => still_nil) ?_ ?_
  · rintro i d _ st1 hd ⟨o1, o2, o3, o4, o5, o6, o7, o8, o9, rfl, K1, P1⟩
    obtain ⟨hlt, rfl⟩ := rangeL_at hd
    rw [Int.zero_add]
    and_intros
    refine (one P1 (by simp) (by simp)).mono ?_
    rintro d st2 ⟨hd, K2, P2⟩
    have hh : ∃ s : Int, d = .int s ∧ 1 ≤ s ∧ s ≤ 99 := by
      simp only [List.mem_cons, List.not_mem_nil, or_false] at hd
      rcases hd with rfl | rfl | rfl <;> exact ⟨_, rfl, by omega, by omega⟩
    obtain ⟨high, rfl, h0, h1⟩ := hh
    and_intros
    refine (below P2 (by omega)).mono ?_
    rintro _ st3 ⟨r, rfl, r0, r1, K3, P3⟩
    and_intros
    refine (bucket P3 h0 h1 (by omega) (by omega)).mono ?_
    rintro _ st4 ⟨c, rfl, ok, K4, P4⟩
    and_intros
    refine (one P4 (by simp) (by simp)).mono ?_
    rintro d st5 ⟨hd, K5, P5⟩
    have hh : ∃ s : Int, d = .int s ∧ 1 ≤ s ∧ s ≤ 40 := by
      simp only [List.mem_cons, List.not_mem_nil, or_false] at hd
      rcases hd with rfl | rfl | rfl | rfl | rfl <;> exact ⟨_, rfl, by omega, by omega⟩
    obtain ⟨many, rfl, m0, m1⟩ := hh
    and_intros
    refine (spends_ok P5 ok ⟨by omega, by omega⟩).mono ?_
    rintro _ st6 ⟨row, rfl, hl, hx, K6, P6⟩
    have hrow : RowOk row := ⟨by omega, fun x h => by have := hx x h; omega⟩
    have hri := len_int row
    and_intros
    refine (below P6 (by omega)).mono ?_
    rintro _ st7 ⟨a, rfl, a0, a1, K7, P7⟩
    obtain ⟨a, rfl⟩ : ∃ m : Nat, a = (m : Int) := ⟨a.toNat, by omega⟩
    have ha : a < row.length := by omega
    have K7 : Kp l st st7 := by nofun
    clear K1 K2 K3 K4 K5 K6 P1 P2 P3 P4 P5 P6
    have hv : 0 ≤ (row[a]?).getD 0 ∧ (row[a]?).getD 0 ≤ 198 := by
      rw [List.getElem?_eq_getElem ha]
      exact hx _ (List.getElem_mem ha)
    refine w_nm ?_
    refine ss_cut (fun env st8 => ∃ o5 o6 o7 o8 o9 : Option D, env = [some (.ref l), some (.int i), some c.d, some (.tup (row.map D.int)), some (.int a), o5, o6, o7, o8, o9] ∧ Kp l st st8 ∧ Pok l st8) ?_ ?_
    · and_intros
      refine for_wp (fun i1 env st8 => ∃ o5 o6 o7 o8 o9 : Option D, env = [some (.ref l), some (.int i), some c.d, some (.tup (row.map D.int)), some (.int a), o5, o6, o7, o8, o9] ∧ Kp l st st8 ∧ Pok l st8) ⟨_, _, _, _, _, rfl, K7, P7⟩ (fun _ _ _ _ => still_nil) ?_ (fun _ _ h => h)
      rintro j d _ st8 hd ⟨o5, o6, o7, o8, o9, rfl, K8, P8⟩
      have hm : ∃ m : Int, d = .int m ∧ m ≤ 30 := by
        have hd := List.mem_of_getElem? hd
        simp only [List.mem_cons, List.not_mem_nil, or_false] at hd
        rcases hd with rfl | rfl | rfl | rfl | rfl <;> exact ⟨_, rfl, by omega⟩
      obtain ⟨m, rfl, hm⟩ := hm
      and_intros
      refine o_subT (row_at ha) ?_
      and_intros
      have c1 := cut_le (row.map D.int) none (some (a : Int))
      have c2 := cut_le (row.map D.int) (some ((a : Int) + 1)) none
      rw [List.length_map] at c1 c2
      refine o_addT (by simp only [List.length_cons, List.length_nil, sizeLine]; omega) ?_
      and_intros
      refine o_addT (by simp only [List.length_append, List.length_cons, List.length_nil, sizeLine]; omega) ?_
      and_intros
      rw [cut_row _ ha]
      have hbent := bent_ok hrow ha (y := if (row[a]?).getD 0 + m > 0 then (row[a]?).getD 0 + m else 0) (by split <;> omega)
      refine (keeps_ok ok hbent).mono ?_
      rintro _ st9 ⟨rfl, X9⟩
      and_intros
      refine (within_ok ok hbent.1).mono ?_
      rintro _ _ ⟨rfl, rfl⟩
      and_intros
      refine same_bl.mono ?_
      rintro _ _ ⟨rfl, rfl⟩
      and_intros
      refine (within_ok ok hbent.1).mono ?_
      rintro _ _ ⟨rfl, rfl⟩
      and_intros
      refine (law_keeps_ok ok hbent).mono ?_
      rintro _ st11 ⟨rfl, X11⟩
      and_intros
      · exact ⟨_, _, _, _, _, rfl, by nofun, (P8.mono X9).mono X11⟩
      · rename_i hne
        exact absurd rfl hne
    · clear K7 P7
      rintro _ st8 ⟨o5, o6, o7, o8, o9, rfl, K8, P8⟩
      refine ss_cut (fun env st8 => ∃ o5 o6 o7 o8 o9 : Option D, env = [some (.ref l), some (.int i), some c.d, some (.tup (row.map D.int)), some (.int a), o5, o6, o7, o8, o9] ∧ Kp l st st8 ∧ Pok l st8) ?_ ?_
      · and_intros
        refine for_wp (fun i1 env st8 => ∃ o5 o6 o7 o8 o9 : Option D, env = [some (.ref l), some (.int i), some c.d, some (.tup (row.map D.int)), some (.int a), o5, o6, o7, o8, o9] ∧ Kp l st st8 ∧ Pok l st8) ⟨_, _, _, _, _, rfl, K8, P8⟩ (fun _ _ _ _ => still_nil) ?_ (fun _ _ h => h)
        rintro lo d _ st9 hd ⟨o5, o6, o7, o8, o9, rfl, K9, P9⟩
        obtain ⟨hlt, rfl⟩ := rangeL_at hd
        have hlo : lo < row.length := by
          revert hlt
          split <;> omega
        rw [Int.zero_add]
        and_intros
        refine for_wp (fun i1 env st8 => ∃ o5 o6 o7 o9 : Option D, env = [some (.ref l), some (.int i), some c.d, some (.tup (row.map D.int)), some (.int a), o5, o6, o7, some (.int lo), o9] ∧ Kp l st st8 ∧ Pok l st8) ⟨_, _, _, _, rfl, K9, P9⟩ (fun _ _ _ _ => still_nil) ?_ ?_
        · rintro n d _ st10 hd ⟨o5, o6, o7, o9, rfl, K10, P10⟩
          obtain ⟨hlt, rfl⟩ := rangeL_at hd
          have hn : lo + n ≤ 2499 := by
            have := hrow.1
            revert hlt
            split <;> omega
          rw [show (lo : Int) + (n : Int) = ((lo + n : Nat) : Int) from by omega]
          and_intros
          refine (bound_ok ok hn).mono ?_
          rintro _ st11 ⟨rfl, X11⟩
          and_intros
          refine (law_bound_ok ok hn).mono ?_
          rintro _ _ ⟨rfl, rfl⟩
          and_intros
          refine same_int.mono ?_
          rintro _ _ ⟨rfl, rfl⟩
          and_intros
          exact ⟨_, _, _, _, rfl, by nofun, P10.mono X11⟩
        · rintro _ st10 ⟨o5, o6, o7, o9, rfl, K10, P10⟩
          exact ⟨_, _, _, _, _, rfl, K10, P10⟩
      · rintro _ st9 ⟨o5, o6, o7, o8, o9, rfl, K9, P9⟩
        and_intros
        refine (span_ok P9 ok).mono ?_
        rintro _ st10 ⟨rfl, K10, P10⟩
        and_intros
        exact ⟨_, _, _, _, _, _, _, _, _, rfl, by nofun, P10⟩
  · rintro _ st1 ⟨o1, o2, o3, o4, o5, o6, o7, o8, o9, rfl, K1, P1⟩
    and_intros
    exact ⟨rfl, K1⟩
theorem law_true : ∀ ns : List Int, ns.length ≤ 63 → ∃ st', callF T G 200 "law" [.ref 0] [.lst true (ns.map D.int)] = .ok (.bl true) st' := by
  intro ns hns
  have h : (callF T G (190 + 10) "law" [.ref 0] [.lst true (ns.map D.int)]).wp fun d st' => d = .bl true := by
    refine w_law ?_
    unfold b_law
    have e0 : ([.lst true (ns.map D.int)] : Sto)[0]? = some (.lst true (ns.map D.int)) := rfl
    and_intros
    refine lc_true (S := fun st => st[0]? = some (.lst true (ns.map D.int))) (by rw [rangeL_len]; simp only [sizeLine, List.length_map]; split <;> split <;> omega) e0 (fun _ _ => still_nil) ?_ ?_
    · rintro i d st hd e
      obtain ⟨hlt, rfl⟩ := rangeL_at hd
      rw [Int.zero_add]
      have hi : i < 2 := by
        rw [List.length_map] at hlt
        revert hlt
        split <;> split <;> omega
      and_intros
      refine (pool_ok e (by omega)).mono ?_
      rintro _ st1 ⟨l, rfl, hl, P1, X1⟩
      and_intros
      refine (right_ok P1).mono ?_
      rintro _ st2 ⟨rfl, K2⟩
      exact ⟨rfl, K2 _ _ (fun q => hl q.symm) (X1 _ _ e)⟩
    · intro n st e
      and_intros
      refine o_all (by assumption) ?_
      rw [all_rep]
  obtain ⟨d, st', e, hd⟩ := h.eq
  subst hd
  exact ⟨st', e⟩

end Z
set_option maxHeartbeats 0
set_option autoImplicit true
namespace Z
open Ab PySem PySem.Spec PyProof.Rows L2

theorem s_is_number : FnScope d_is_number.N d_is_number.ps (defScope r_is_number.st) := ⟨rfl, rfl, rfl, by decide +kernel, rfl, by decide +kernel, by decide +kernel⟩
theorem c_is_number : chkSs d_is_number.N KW (defScope r_is_number.st) d_is_number.body (defBody r_is_number.st) = true := by decide +kernel
theorem o_is_number : r_is_number.Ok KW where
  S := s_is_number
  c := c_is_number
  b := fun _ _ _ _ _ _ us hl => match us, hl with | [_], _ => rfl
  kw := fun n ks hm => absurd hm (no_kw (by kernel_rfl))
theorem s_is_up_to : FnScope d_is_up_to.N d_is_up_to.ps (defScope r_is_up_to.st) := ⟨rfl, rfl, rfl, by decide +kernel, rfl, by decide +kernel, by decide +kernel⟩
theorem c_is_up_to : chkSs d_is_up_to.N KW (defScope r_is_up_to.st) d_is_up_to.body (defBody r_is_up_to.st) = true := by decide +kernel
theorem o_is_up_to : r_is_up_to.Ok KW where
  S := s_is_up_to
  c := c_is_up_to
  b := fun _ _ _ _ _ _ us hl => match us, hl with | [_, _], _ => rfl
  kw := fun n ks hm => absurd hm (no_kw (by kernel_rfl))
theorem s_is_between : FnScope d_is_between.N d_is_between.ps (defScope r_is_between.st) := ⟨rfl, rfl, rfl, by decide +kernel, rfl, by decide +kernel, by decide +kernel⟩
theorem c_is_between : chkSs d_is_between.N KW (defScope r_is_between.st) d_is_between.body (defBody r_is_between.st) = true := by decide +kernel
theorem o_is_between : r_is_between.Ok KW where
  S := s_is_between
  c := c_is_between
  b := fun _ _ _ _ _ _ us hl => match us, hl with | [_, _, _], _ => rfl
  kw := fun n ks hm => absurd hm (no_kw (by kernel_rfl))
theorem s_are_refills : FnScope d_are_refills.N d_are_refills.ps (defScope r_are_refills.st) := ⟨rfl, rfl, rfl, by decide +kernel, rfl, by decide +kernel, by decide +kernel⟩
theorem c_are_refills : chkSs d_are_refills.N KW (defScope r_are_refills.st) d_are_refills.body (defBody r_are_refills.st) = true := by decide +kernel
theorem o_are_refills : r_are_refills.Ok KW where
  S := s_are_refills
  c := c_are_refills
  b := fun _ _ _ _ _ _ us hl => match us, hl with | [_, _], _ => rfl
  kw := fun n ks hm => absurd hm (no_kw (by kernel_rfl))
theorem s_is_bucket_by : FnScope d_is_bucket_by.N d_is_bucket_by.ps (defScope r_is_bucket_by.st) := ⟨rfl, rfl, rfl, by decide +kernel, rfl, by decide +kernel, by decide +kernel⟩
theorem c_is_bucket_by : chkSs d_is_bucket_by.N KW (defScope r_is_bucket_by.st) d_is_bucket_by.body (defBody r_is_bucket_by.st) = true := by decide +kernel
theorem o_is_bucket_by : r_is_bucket_by.Ok KW where
  S := s_is_bucket_by
  c := c_is_bucket_by
  b := fun _ _ _ _ _ _ us hl => match us, hl with | [_], _ => rfl
  kw := fun n ks hm => absurd hm (no_kw (by kernel_rfl))
theorem s_wrong_in_row : FnScope d_wrong_in_row.N d_wrong_in_row.ps (defScope r_wrong_in_row.st) := ⟨rfl, rfl, rfl, by decide +kernel, rfl, by decide +kernel, by decide +kernel⟩
theorem c_wrong_in_row : chkSs d_wrong_in_row.N KW (defScope r_wrong_in_row.st) d_wrong_in_row.body (defBody r_wrong_in_row.st) = true := by decide +kernel
theorem o_wrong_in_row : r_wrong_in_row.Ok KW where
  S := s_wrong_in_row
  c := c_wrong_in_row
  b := fun _ _ _ _ _ _ us hl => match us, hl with | [_], _ => rfl
  kw := fun n ks hm => absurd hm (no_kw (by kernel_rfl))
theorem s_lefts_by : FnScope d_lefts_by.N d_lefts_by.ps (defScope r_lefts_by.st) := ⟨rfl, rfl, rfl, by decide +kernel, rfl, by decide +kernel, by decide +kernel⟩
theorem c_lefts_by : chkSs d_lefts_by.N KW (defScope r_lefts_by.st) d_lefts_by.body (defBody r_lefts_by.st) = true := by decide +kernel
theorem o_lefts_by : r_lefts_by.Ok KW where
  S := s_lefts_by
  c := c_lefts_by
  b := fun _ _ _ _ _ _ us hl => match us, hl with | [_, _], _ => rfl
  kw := fun n ks hm => absurd hm (no_kw (by kernel_rfl))
theorem s_keeps_by : FnScope d_keeps_by.N d_keeps_by.ps (defScope r_keeps_by.st) := ⟨rfl, rfl, rfl, by decide +kernel, rfl, by decide +kernel, by decide +kernel⟩
theorem c_keeps_by : chkSs d_keeps_by.N KW (defScope r_keeps_by.st) d_keeps_by.body (defBody r_keeps_by.st) = true := by decide +kernel
theorem o_keeps_by : r_keeps_by.Ok KW where
  S := s_keeps_by
  c := c_keeps_by
  b := fun _ _ _ _ _ _ us hl => match us, hl with | [_, _], _ => rfl
  kw := fun n ks hm => absurd hm (no_kw (by kernel_rfl))
theorem s_most_at_once : FnScope d_most_at_once.N d_most_at_once.ps (defScope r_most_at_once.st) := ⟨rfl, rfl, rfl, by decide +kernel, rfl, by decide +kernel, by decide +kernel⟩
theorem c_most_at_once : chkSs d_most_at_once.N KW (defScope r_most_at_once.st) d_most_at_once.body (defBody r_most_at_once.st) = true := by decide +kernel
theorem o_most_at_once : r_most_at_once.Ok KW where
  S := s_most_at_once
  c := c_most_at_once
  b := fun _ _ _ _ _ _ us hl => match us, hl with | [_], _ => rfl
  kw := fun n ks hm => absurd hm (no_kw (by kernel_rfl))
theorem s_step_at : FnScope d_step_at.N d_step_at.ps (defScope r_step_at.st) := ⟨rfl, rfl, rfl, by decide +kernel, rfl, by decide +kernel, by decide +kernel⟩
theorem c_step_at : chkSs d_step_at.N KW (defScope r_step_at.st) d_step_at.body (defBody r_step_at.st) = true := by decide +kernel
theorem o_step_at : r_step_at.Ok KW where
  S := s_step_at
  c := c_step_at
  b := fun _ _ _ _ _ _ us hl => match us, hl with | [_, _], _ => rfl
  kw := fun n ks hm => absurd hm (no_kw (by kernel_rfl))
theorem s_bound_by : FnScope d_bound_by.N d_bound_by.ps (defScope r_bound_by.st) := ⟨rfl, rfl, rfl, by decide +kernel, rfl, by decide +kernel, by decide +kernel⟩
theorem c_bound_by : chkSs d_bound_by.N KW (defScope r_bound_by.st) d_bound_by.body (defBody r_bound_by.st) = true := by decide +kernel
theorem o_bound_by : r_bound_by.Ok KW where
  S := s_bound_by
  c := c_bound_by
  b := fun _ _ _ _ _ _ us hl => match us, hl with | [_, _, _], _ => rfl
  kw := fun n ks hm => absurd hm (no_kw (by kernel_rfl))
theorem s_check_bucket : FnScope d_check_bucket.N d_check_bucket.ps (defScope r_check_bucket.st) := ⟨rfl, rfl, rfl, by decide +kernel, rfl, by decide +kernel, by decide +kernel⟩
theorem c_check_bucket : chkSs d_check_bucket.N KW (defScope r_check_bucket.st) d_check_bucket.body (defBody r_check_bucket.st) = true := by decide +kernel
theorem o_check_bucket : r_check_bucket.Ok KW where
  S := s_check_bucket
  c := c_check_bucket
  b := fun _ _ _ _ _ _ us hl => match us, hl with | [_], _ => rfl
  kw := fun n ks hm => absurd hm (no_kw (by kernel_rfl))
theorem s_check_row : FnScope d_check_row.N d_check_row.ps (defScope r_check_row.st) := ⟨rfl, rfl, rfl, by decide +kernel, rfl, by decide +kernel, by decide +kernel⟩
theorem c_check_row : chkSs d_check_row.N KW (defScope r_check_row.st) d_check_row.body (defBody r_check_row.st) = true := by decide +kernel
theorem o_check_row : r_check_row.Ok KW where
  S := s_check_row
  c := c_check_row
  b := fun _ _ _ _ _ _ us hl => match us, hl with | [_], _ => rfl
  kw := fun n ks hm => absurd hm (no_kw (by kernel_rfl))
theorem s_check_tick : FnScope d_check_tick.N d_check_tick.ps (defScope r_check_tick.st) := ⟨rfl, rfl, rfl, by decide +kernel, rfl, by decide +kernel, by decide +kernel⟩
theorem c_check_tick : chkSs d_check_tick.N KW (defScope r_check_tick.st) d_check_tick.body (defBody r_check_tick.st) = true := by decide +kernel
theorem o_check_tick : r_check_tick.Ok KW where
  S := s_check_tick
  c := c_check_tick
  b := fun _ _ _ _ _ _ us hl => match us, hl with | [_, _], _ => rfl
  kw := fun n ks hm => absurd hm (no_kw (by kernel_rfl))
theorem s_keeps : FnScope d_keeps.N d_keeps.ps (defScope r_keeps.st) := ⟨rfl, rfl, rfl, by decide +kernel, rfl, by decide +kernel, by decide +kernel⟩
theorem c_keeps : chkSs d_keeps.N KW (defScope r_keeps.st) d_keeps.body (defBody r_keeps.st) = true := by decide +kernel
theorem o_keeps : r_keeps.Ok KW where
  S := s_keeps
  c := c_keeps
  b := fun _ _ _ _ _ _ us hl => match us, hl with | [_, _], _ => rfl
  kw := fun n ks hm => absurd hm (no_kw (by kernel_rfl))
theorem s_bound : FnScope d_bound.N d_bound.ps (defScope r_bound.st) := ⟨rfl, rfl, rfl, by decide +kernel, rfl, by decide +kernel, by decide +kernel⟩
theorem c_bound : chkSs d_bound.N KW (defScope r_bound.st) d_bound.body (defBody r_bound.st) = true := by decide +kernel
theorem o_bound : r_bound.Ok KW where
  S := s_bound
  c := c_bound
  b := fun _ _ _ _ _ _ us hl => match us, hl with | [_, _, _], _ => rfl
  kw := by
    intro n ks hm
    have hm := kw_mem hm
    rw [kw_bound] at hm
    simp only [List.mem_cons, List.not_mem_nil, or_false] at hm
    cases hm
    intro kV doc pm an cdv ct us ws as hu hw hz
    · match us, ws, hu, hw with
      | [], [w0, w1, w2], _, _ =>
        have hz : some [w2, w1, w0] = some as := hz
        cases hz
        rfl
theorem s__law_pool : FnScope d__law_pool.N d__law_pool.ps (defScope r__law_pool.st) := ⟨rfl, rfl, rfl, by decide +kernel, rfl, by decide +kernel, by decide +kernel⟩
theorem c__law_pool : chkSs d__law_pool.N KW (defScope r__law_pool.st) d__law_pool.body (defBody r__law_pool.st) = true := by decide +kernel
theorem o__law_pool : r__law_pool.Ok KW where
  S := s__law_pool
  c := c__law_pool
  b := fun _ _ _ _ _ _ us hl => match us, hl with | [_, _], _ => rfl
  kw := fun n ks hm => absurd hm (no_kw (by kernel_rfl))
theorem s__law_below : FnScope d__law_below.N d__law_below.ps (defScope r__law_below.st) := ⟨rfl, rfl, rfl, by decide +kernel, rfl, by decide +kernel, by decide +kernel⟩
theorem c__law_below : chkSs d__law_below.N KW (defScope r__law_below.st) d__law_below.body (defBody r__law_below.st) = true := by decide +kernel
theorem o__law_below : r__law_below.Ok KW where
  S := s__law_below
  c := c__law_below
  b := fun _ _ _ _ _ _ us hl => match us, hl with | [_, _], _ => rfl
  kw := fun n ks hm => absurd hm (no_kw (by kernel_rfl))
theorem s__law_one : FnScope d__law_one.N d__law_one.ps (defScope r__law_one.st) := ⟨rfl, rfl, rfl, by decide +kernel, rfl, by decide +kernel, by decide +kernel⟩
theorem c__law_one : chkSs d__law_one.N KW (defScope r__law_one.st) d__law_one.body (defBody r__law_one.st) = true := by decide +kernel
theorem o__law_one : r__law_one.Ok KW where
  S := s__law_one
  c := c__law_one
  b := fun _ _ _ _ _ _ us hl => match us, hl with | [_, _], _ => rfl
  kw := fun n ks hm => absurd hm (no_kw (by kernel_rfl))
theorem s__law_num : FnScope d__law_num.N d__law_num.ps (defScope r__law_num.st) := ⟨rfl, rfl, rfl, by decide +kernel, rfl, by decide +kernel, by decide +kernel⟩
theorem c__law_num : chkSs d__law_num.N KW (defScope r__law_num.st) d__law_num.body (defBody r__law_num.st) = true := by decide +kernel
theorem o__law_num : r__law_num.Ok KW where
  S := s__law_num
  c := c__law_num
  b := fun _ _ _ _ _ _ us hl => match us, hl with | [_, _], _ => rfl
  kw := fun n ks hm => absurd hm (no_kw (by kernel_rfl))
theorem s__law_bucket : FnScope d__law_bucket.N d__law_bucket.ps (defScope r__law_bucket.st) := ⟨rfl, rfl, rfl, by decide +kernel, rfl, by decide +kernel, by decide +kernel⟩
theorem c__law_bucket : chkSs d__law_bucket.N KW (defScope r__law_bucket.st) d__law_bucket.body (defBody r__law_bucket.st) = true := by decide +kernel
theorem o__law_bucket : r__law_bucket.Ok KW where
  S := s__law_bucket
  c := c__law_bucket
  b := fun _ _ _ _ _ _ us hl => match us, hl with | [_, _, _], _ => rfl
  kw := fun n ks hm => absurd hm (no_kw (by kernel_rfl))
theorem s__law_same : FnScope d__law_same.N d__law_same.ps (defScope r__law_same.st) := ⟨rfl, rfl, rfl, by decide +kernel, rfl, by decide +kernel, by decide +kernel⟩
theorem c__law_same : chkSs d__law_same.N KW (defScope r__law_same.st) d__law_same.body (defBody r__law_same.st) = true := by decide +kernel
theorem o__law_same : r__law_same.Ok KW where
  S := s__law_same
  c := c__law_same
  b := fun _ _ _ _ _ _ us hl => match us, hl with | [_, _], _ => rfl
  kw := fun n ks hm => absurd hm (no_kw (by kernel_rfl))
theorem s__law_left : FnScope d__law_left.N d__law_left.ps (defScope r__law_left.st) := ⟨rfl, rfl, rfl, by decide +kernel, rfl, by decide +kernel, by decide +kernel⟩
theorem c__law_left : chkSs d__law_left.N KW (defScope r__law_left.st) d__law_left.body (defBody r__law_left.st) = true := by decide +kernel
theorem o__law_left : r__law_left.Ok KW where
  S := s__law_left
  c := c__law_left
  b := fun _ _ _ _ _ _ us hl => match us, hl with | [_, _], _ => rfl
  kw := fun n ks hm => absurd hm (no_kw (by kernel_rfl))
theorem s__law_keeps : FnScope d__law_keeps.N d__law_keeps.ps (defScope r__law_keeps.st) := ⟨rfl, rfl, rfl, by decide +kernel, rfl, by decide +kernel, by decide +kernel⟩
theorem c__law_keeps : chkSs d__law_keeps.N KW (defScope r__law_keeps.st) d__law_keeps.body (defBody r__law_keeps.st) = true := by decide +kernel
theorem o__law_keeps : r__law_keeps.Ok KW where
  S := s__law_keeps
  c := c__law_keeps
  b := fun _ _ _ _ _ _ us hl => match us, hl with | [_, _], _ => rfl
  kw := fun n ks hm => absurd hm (no_kw (by kernel_rfl))
theorem s__law_spends : FnScope d__law_spends.N d__law_spends.ps (defScope r__law_spends.st) := ⟨rfl, rfl, rfl, by decide +kernel, rfl, by decide +kernel, by decide +kernel⟩
theorem c__law_spends : chkSs d__law_spends.N KW (defScope r__law_spends.st) d__law_spends.body (defBody r__law_spends.st) = true := by decide +kernel
theorem o__law_spends : r__law_spends.Ok KW where
  S := s__law_spends
  c := c__law_spends
  b := fun _ _ _ _ _ _ us hl => match us, hl with | [_, _, _], _ => rfl
  kw := fun n ks hm => absurd hm (no_kw (by kernel_rfl))
theorem s__law_bound : FnScope d__law_bound.N d__law_bound.ps (defScope r__law_bound.st) := ⟨rfl, rfl, rfl, by decide +kernel, rfl, by decide +kernel, by decide +kernel⟩
theorem c__law_bound : chkSs d__law_bound.N KW (defScope r__law_bound.st) d__law_bound.body (defBody r__law_bound.st) = true := by decide +kernel
theorem o__law_bound : r__law_bound.Ok KW where
  S := s__law_bound
  c := c__law_bound
  b := fun _ _ _ _ _ _ us hl => match us, hl with | [_, _, _], _ => rfl
  kw := fun n ks hm => absurd hm (no_kw (by kernel_rfl))
theorem s__law_is_within : FnScope d__law_is_within.N d__law_is_within.ps (defScope r__law_is_within.st) := ⟨rfl, rfl, rfl, by decide +kernel, rfl, by decide +kernel, by decide +kernel⟩
theorem c__law_is_within : chkSs d__law_is_within.N KW (defScope r__law_is_within.st) d__law_is_within.body (defBody r__law_is_within.st) = true := by decide +kernel
theorem o__law_is_within : r__law_is_within.Ok KW where
  S := s__law_is_within
  c := c__law_is_within
  b := fun _ _ _ _ _ _ us hl => match us, hl with | [_, _], _ => rfl
  kw := fun n ks hm => absurd hm (no_kw (by kernel_rfl))
theorem s__law_full : FnScope d__law_full.N d__law_full.ps (defScope r__law_full.st) := ⟨rfl, rfl, rfl, by decide +kernel, rfl, by decide +kernel, by decide +kernel⟩
theorem c__law_full : chkSs d__law_full.N KW (defScope r__law_full.st) d__law_full.body (defBody r__law_full.st) = true := by decide +kernel
theorem o__law_full : r__law_full.Ok KW where
  S := s__law_full
  c := c__law_full
  b := fun _ _ _ _ _ _ us hl => match us, hl with | [_, _, _], _ => rfl
  kw := fun n ks hm => absurd hm (no_kw (by kernel_rfl))
theorem s__law_is_span_right : FnScope d__law_is_span_right.N d__law_is_span_right.ps (defScope r__law_is_span_right.st) := ⟨rfl, rfl, rfl, by decide +kernel, rfl, by decide +kernel, by decide +kernel⟩
theorem c__law_is_span_right : chkSs d__law_is_span_right.N KW (defScope r__law_is_span_right.st) d__law_is_span_right.body (defBody r__law_is_span_right.st) = true := by decide +kernel
theorem o__law_is_span_right : r__law_is_span_right.Ok KW where
  S := s__law_is_span_right
  c := c__law_is_span_right
  b := fun _ _ _ _ _ _ us hl => match us, hl with | [_, _], _ => rfl
  kw := fun n ks hm => absurd hm (no_kw (by kernel_rfl))
theorem s__law_right : FnScope d__law_right.N d__law_right.ps (defScope r__law_right.st) := ⟨rfl, rfl, rfl, by decide +kernel, rfl, by decide +kernel, by decide +kernel⟩
theorem c__law_right : chkSs d__law_right.N KW (defScope r__law_right.st) d__law_right.body (defBody r__law_right.st) = true := by decide +kernel
theorem o__law_right : r__law_right.Ok KW where
  S := s__law_right
  c := c__law_right
  b := fun _ _ _ _ _ _ us hl => match us, hl with | [_], _ => rfl
  kw := fun n ks hm => absurd hm (no_kw (by kernel_rfl))
theorem s_law : FnScope d_law.N d_law.ps (defScope r_law.st) := ⟨rfl, rfl, rfl, by decide +kernel, rfl, by decide +kernel, by decide +kernel⟩
theorem c_law : chkSs d_law.N KW (defScope r_law.st) d_law.body (defBody r_law.st) = true := by decide +kernel
theorem o_law : r_law.Ok KW where
  S := s_law
  c := c_law
  b := fun _ _ _ _ _ _ us hl => match us, hl with | [_], _ => rfl
  kw := fun n ks hm => absurd hm (no_kw (by kernel_rfl))
theorem all_ok : ∀ r ∈ rows, r.Ok KW := by
  intro r hr
  simp only [rows, List.mem_cons, List.not_mem_nil, or_false] at hr
  rcases hr with rfl | rfl | rfl | rfl | rfl | rfl | rfl | rfl | rfl | rfl | rfl | rfl | rfl | rfl | rfl | rfl | rfl | rfl | rfl | rfl | rfl | rfl | rfl | rfl | rfl | rfl | rfl | rfl | rfl | rfl | rfl
  · exact o_is_number
  · exact o_is_up_to
  · exact o_is_between
  · exact o_are_refills
  · exact o_is_bucket_by
  · exact o_wrong_in_row
  · exact o_lefts_by
  · exact o_keeps_by
  · exact o_most_at_once
  · exact o_step_at
  · exact o_bound_by
  · exact o_check_bucket
  · exact o_check_row
  · exact o_check_tick
  · exact o_keeps
  · exact o_bound
  · exact o__law_pool
  · exact o__law_below
  · exact o__law_one
  · exact o__law_num
  · exact o__law_bucket
  · exact o__law_same
  · exact o__law_left
  · exact o__law_keeps
  · exact o__law_spends
  · exact o__law_bound
  · exact o__law_is_within
  · exact o__law_full
  · exact o__law_is_span_right
  · exact o__law_right
  · exact o_law
theorem all_fs : ∀ x ∈ KW.fs, ∃ F, T x = some F := fs_ok (by decide +kernel)
abbrev R : PySem.W.OpenRow := PySem.W.OpenLaw.row PySem.Challenge.rw_lentlimits_k05_whole_kept_exactly_within
abbrev qv : Program := PySem.W.view R.prog [43]
abbrev hk : PySem.W.Hook := He.hookD 4 (fasOf rows cs) (rows.map DRow.dd)
def loose : List Str := [("is_number" : Str), ("is_up_to" : Str), ("is_between" : Str), ("MOST" : Str), ("MOST_PERIOD" : Str), ("MOST_SPEND" : Str), ("MOST_ROW" : Str), ("are_refills" : Str), ("is_bucket_by" : Str), ("wrong_in_row" : Str), ("lefts_by" : Str), ("keeps_by" : Str), ("most_at_once" : Str), ("step_at" : Str), ("bound_by" : Str), ("LimitError" : Str), ("InvalidBucket" : Str), ("InvalidNumber" : Str), ("InvalidRow" : Str), ("check_bucket" : Str), ("check_row" : Str), ("check_tick" : Str), ("keeps" : Str), ("bound" : Str), ("_law_pool" : Str), ("_law_below" : Str), ("_law_one" : Str), ("_law_num" : Str), ("_law_bucket" : Str), ("_law_same" : Str), ("_law_left" : Str), ("_law_keeps" : Str), ("_law_spends" : Str), ("_law_bound" : Str), ("_law_is_within" : Str), ("_law_full" : Str), ("_law_is_span_right" : Str), ("_law_right" : Str)]
def ob (s : PySem.W.SharedT) : He.AlD := He.obsDG 4 (fasOf rows cs) (rows.map DRow.dd) (HandSHeadRun.getT s)
theorem ob_eq (s : PySem.W.SharedT) : ob s = hk.obs s.abs := He.obsDG_eq (HandSHeadRun.getT_eq s)
theorem run (w : World) : HandSHeadRun.RunEq R qv hk ob 40000 loose w := by
  intro os
  kernel_rfl
end Z

open PySem PySem.W PySem.Calls PyProof.Rows
theorem PySem.Challenge.cw_lentlimits_k05_whole_kept_exactly_within_holds : PySem.Challenge.rw_lentlimits_k05_whole_kept_exactly_within.Holds := by
  w_on; o_law
  refine HandSHeadRun.head_any (r := OpenLaw.row PySem.Challenge.rw_lentlimits_k05_whole_kept_exactly_within) (q := view (OpenLaw.row PySem.Challenge.rw_lentlimits_k05_whole_kept_exactly_within).prog [43]) (H := Z.hk) (ob := Z.ob) (M := 40000) (loose := Z.loose) (d := HandSHeadRun.topDef (OpenLaw.row PySem.Challenge.rw_lentlimits_k05_whole_kept_exactly_within).prog 43) (kwd := []) Z.ob_eq
    (by kernel_rfl) (fun s => by kernel_rfl) Z.run (by kernel_rfl) (by kernel_rfl) (by kernel_rfl) (by rfl) (by first | assumption | decide +kernel) (by decide +kernel) ⟨rfl, rfl, rfl, rfl, rfl, by decide +kernel⟩ ?hw ?hc
  case hw => w_witness2
  case hc =>
    exact Ab.law_of (l := PySem.Challenge.rw_lentlimits_k05_whole_kept_exactly_within) (rows := Z.rows) (cs := Z.cs) (KW := Z.KW) (x := "script") (n := 63) (k := 199) (N := 4) Z.r_law rfl (by decide) (by kernel_rfl) ⟨rfl, by decide, by decide⟩ (by kernel_rfl) (by simp [Z.rows]) (by kernel_rfl) Z.t_law Z.all_ok Z.all_fs (by kernel_rfl) Z.law_true
