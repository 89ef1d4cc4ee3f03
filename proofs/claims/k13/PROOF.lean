import PyProof.Rows.All
import Wide.All
import OpenK.AllK
import Wide.FinOn
import HandS.ForMost
import KE.LtData
import HandS.ForExc
import HandS.Flow
import HandS.TupAny
import HandS.TupMul
import HandS.IsInst
import HandS.Zip
import HandS.Star
import HandS.Deep
import HandS.TupLe
import HandS.Style
import HandS.Walk
import PyProof.Rows.IntBool
import HandS.Wide
import HandS.List
import KE.KEqNest
import PyProof.NeKinds
import PyProof.P3In
import PyProof.FString5
import HandS.RaiseMore
import HandS.Text
import PyProof.ReprRoads
import PyProof.SliceStr2
import KE.KRevSl
import KE.GoesNew
import HandS.Set
import HandS.TupSets
import HandS.SortOrd
import PyProof.Rows.SortShellAny
import KE.SortData
import HandS.SetBool
import HandS.More
import HandS.StrMore
import HandS.Dict
import HandS.WordsDict
import HandS.Defaults
import HandS.Codes
import PyProof.Rows.RegStrFacts
import PyProof.ReprLen
import PySem.Challenge.RW_sureallow_k13_whole_outcomes
set_option Elab.async false
set_option linter.all false
set_option maxRecDepth 100000
set_option maxHeartbeats 4000000
/-! MP, part a: values, the store, results, the text of a def without places, the evaluator. -/
namespace MP
open PySem L2

/-- a value: a text is its codes; lst is a list that nobody writes; loc is a place of the store -/
inductive PV where
  | non
  | bl (b : Bool)
  | int (i : Int)
  | str (s : List Nat)
  | tup (xs : List PV)
  | lst (xs : List PV)
  | dct (xs : List PV)
  | loc (n : Nat)
  deriving Inhabited

/-- an object of the store -/
inductive PO where
  | lst (xs : List PV)
  deriving Inhabited
abbrev Sto := List PO

/-- an exception that flies: the class' number, its fields -/
structure PX where
  cls : Nat
  fs : List PV

inductive Res (A : Type) where
  | ok (a : A) (st : Sto)
  | exc (x : PX) (st : Sto)
  | bad

def Res.bnd {A B : Type} (r : Res A) (f : A → Sto → Res B) : Res B := match r with
  | .ok a st => f a st
  | .exc x st => .exc x st
  | .bad => .bad
@[simp] theorem Res.bnd_ok {A B : Type} (a : A) (st : Sto) (f : A → Sto → Res B) : (Res.ok a st).bnd f = f a st := id rfl
@[simp] theorem Res.bnd_exc {A B : Type} (x : PX) (st : Sto) (f : A → Sto → Res B) : (Res.exc x st : Res A).bnd f = .exc x st := id rfl
@[simp] theorem Res.bnd_bad {A B : Type} (f : A → Sto → Res B) : (Res.bad : Res A).bnd f = .bad := id rfl
theorem Res.bnd_assoc {A B D : Type} (r : Res A) (f : A → Sto → Res B) (g : B → Sto → Res D) : (r.bnd f).bnd g = r.bnd fun a st => (f a st).bnd g := by cases r <;> rfl

/-- what is wanted of a result -/
def Res.sat {A : Type} (r : Res A) (Q : A → Sto → Prop) (E : PX → Sto → Prop) : Prop := match r with
  | .ok a st => Q a st
  | .exc x st => E x st
  | .bad => False
theorem Res.sat_bnd {A B : Type} (r : Res A) (f : A → Sto → Res B) (Q : B → Sto → Prop) (E : PX → Sto → Prop) :
    (r.bnd f).sat Q E ↔ r.sat (fun a st => (f a st).sat Q E) E := by cases r <;> exact Iff.rfl
theorem Res.sat_mono {A : Type} {r : Res A} {Q Q' : A → Sto → Prop} {E E' : PX → Sto → Prop} (h : r.sat Q E) (hq : ∀ a st, Q a st → Q' a st) (he : ∀ x st, E x st → E' x st) : r.sat Q' E' := by
  cases r with
  | ok a st => exact hq a st h
  | exc x st => exact he x st h
  | bad => exact h

/-! ### data -/
mutual
/-- the data of a value in which no place of the store stands -/
def PV.data : PV → Option PyData
  | .non => some .none
  | .bl b => some (.bool b)
  | .int i => some (.int i)
  | .str s => some (.str ⟨s.toArray⟩)
  | .tup xs => (PV.datas xs).map .tuple
  | .lst xs => (PV.datas xs).map .list
  | .dct _ => none
  | .loc _ => none
def PV.datas : List PV → Option (List PyData)
  | [] => some []
  | x :: xs => match PV.data x, PV.datas xs with
    | some d, some ds => some (d :: ds)
    | _, _ => none
end

/-- a sequence: is it a list, its items -/
def seqOf (st : Sto) : PV → Option (Bool × List PV)
  | .tup xs => some (false, xs)
  | .lst xs => some (true, xs)
  | .loc n => match st[n]? with
    | some (.lst xs) => some (true, xs)
    | none => none
  | _ => none
/-- the value with its own place read -/
def deref (st : Sto) : PV → Option PV
  | .loc n => match st[n]? with
    | some (.lst xs) => some (.lst xs)
    | none => none
  | v => some v
def dataAt (st : Sto) (v : PV) : Option PyData := (deref st v).bind PV.data
def asInt : PV → Option Int
  | .int i => some i
  | .bl b => some (if b then 1 else 0)
  | _ => none
def okData (d : PyData) : Bool := d.canLay0 && decide (d.depth ≤ 64)

/-- a thing that is no object -/
def kAtom : PV → Option V
  | .non => some .non
  | .bl b => some (.bl b)
  | .int i => some (.int i)
  | .str s => some (.str ⟨s.toArray⟩)
  | _ => none
/-- a dict that nobody writes: its pairs of a text and such a thing -/
def dKs : List PV → Option (List (L2.Key × V))
  | [] => some []
  | .tup [.str k, v] :: xs => (kAtom v).bind fun u => (dKs xs).map ((.inr ⟨k.toArray⟩, u) :: ·)
  | _ => none
def dlook (z : List Nat) : List PV → Option PV
  | .tup [.str k, v] :: xs => if k = z then some v else dlook z xs
  | _ => none
/-- truth -/
def truP (st : Sto) (v : PV) : Option Bool := match v with
  | .non => some false
  | .bl b => some b
  | .int i => some (i != 0)
  | .str s => if s.length ≤ sizeLine then some (!s.isEmpty) else none
  | v => (seqOf st v).map fun p => !p.2.isEmpty

def cutP {A : Type} (xs : List A) (lo hi : Option Int) : List A := (xs.drop (HT.sIx xs.length 0 lo)).take (HT.sIx xs.length xs.length hi - HT.sIx xs.length 0 lo)

/-- two-place operators -/
def binP (op : Operator) (x y : PV) (st : Sto) : Option PV := match op with
  | .Add => match asInt x, asInt y with
    | some i, some j => some (.int (i + j))
    | _, _ => match x, y with
      | .str a, .str b => if a.length + b.length ≤ sizeLine then some (.str (a ++ b)) else none
      | x, y => match seqOf st x, seqOf st y with
        | some (true, a), some (true, b) => if a.length + b.length ≤ sizeLine then some (.lst (a ++ b)) else none
        | some (false, a), some (false, b) => if a.length + b.length ≤ sizeLine then some (.tup (a ++ b)) else none
        | _, _ => none
  | .Sub => match asInt x, asInt y with
    | some i, some j => some (.int (i - j))
    | _, _ => none
  | .Mult => match x, y with
    | .int i, .int j => if ((-(2 ^ 64) < i ∧ i < 2 ^ 64) ∨ (-(2 ^ 64) < j ∧ j < 2 ^ 64)) ∨ (i.natAbs.log2 < 100000 ∧ j.natAbs.log2 < 100000) then some (.int (i * j)) else none
    | .str z, .int k => if 0 ≤ k ∧ k ≤ 100000 ∧ z.length * k.toNat ≤ 1000000 then some (.str (List.replicate k.toNat z).flatten) else none
    | x, .int k => match seqOf st x with
      | some (true, xs) => if 0 ≤ k ∧ k ≤ 100000 ∧ xs.length * k.toNat ≤ sizeLine then some (.lst (List.replicate k.toNat xs).flatten) else none
      | _ => none
    | _, _ => none
  | .Mod => match x, y with
    | .int i, .int j => if 0 < j then some (.int (i % j)) else none
    | _, _ => none
  | .FloorDiv => match x, y with
    | .int i, .int j => if 0 < j ∧ j < 10 ^ 1000 then some (.int (i / j)) else none
    | _, _ => none
  | .Pow => match x, y with
    | .int i, .int j => if 0 ≤ j ∧ j ≤ 1000000 ∧ i.natAbs < 2 ^ 64 then some (.int (i ^ j.toNat)) else none
    | _, _ => none
  | _ => none

/-- a text within a text -/
def inStr (a b : List Nat) : Bool := !(Builtin.Str.occurrences ⟨b.toArray⟩ ⟨a.toArray⟩ 0 b.length 1).isEmpty
def isNonB : PV → Bool
  | .non => true
  | _ => false
/-- comparisons -/
def eqP (x y : PV) (st : Sto) : Option Bool := match x, y with
  | .str a, .str b => some (decide (a = b))
  | x, y => match seqOf st x, seqOf st y with
    | some (false, xs), some (false, []) => some xs.isEmpty
    | some (true, xs), some (true, []) => some xs.isEmpty
    | _, _ => match dataAt st x, dataAt st y with
      | some a, some b => if okData a && okData b then some (PyData.eqv a b) else none
      | _, _ => none
def cmpP (op : CmpOp) (x y : PV) (st : Sto) : Option Bool := match op with
  | .Eq => eqP x y st
  | .NotEq => (eqP x y st).map (!·)
  | .Lt => match x, y with
    | .int i, .int j => some (decide (i < j))
    | .str a, .str b => some (decide (a < b))
    | x, y => match dataAt st x, dataAt st y with
      | some (.tuple a), some (.tuple b) => if okData (.tuple a) && okData (.tuple b) && PySem.W.alike (.tuple a) (.tuple b) then some (PySem.W.dataLt (.tuple a) (.tuple b)) else none
      | _, _ => none
  | .LtE => match x, y with
    | .int i, .int j => some (decide (i ≤ j))
    | .str a, .str b => some (decide (¬ b < a))
    | _, _ => none
  | .Gt => match x, y with
    | .int i, .int j => some (decide (j < i))
    | .str a, .str b => some (decide (b < a))
    | _, _ => none
  | .GtE => match x, y with
    | .int i, .int j => some (decide (j ≤ i))
    | .str a, .str b => some (decide (¬ a < b))
    | _, _ => none
  | .Is => match y with
    | .non => some (isNonB x)
    | _ => none
  | .IsNot => match y with
    | .non => some (!isNonB x)
    | _ => none
  | .In => inP x y st
  | .NotIn => (inP x y st).map (!·)
where
  inP (x y : PV) (st : Sto) : Option Bool := match x, y with
    | .str a, .str b => some (inStr a b)
    | x, y => match dataAt st x, seqOf st y with
      | some d, some (_, ys) => match PV.datas ys with
        | some ds => if okData d && okData (.list ds) then some (ds.any fun z => PyData.eqv z d) else none
        | none => none
      | _, _ => none

def unP (op : UnaryOp) (x : PV) (st : Sto) : Option PV := match op with
  | .USub => (asInt x).map fun i => .int (-i)
  | .Not => (truP st x).map fun b => .bl (!b)
  | _ => none

/-- x[i] -/
def subP (x i : PV) (st : Sto) : Option PV := match i with
  | .int k => match x with
    | .str s => if s.length ≤ sizeLine then (atI s k).map fun c => .str [c] else none
    | x => match seqOf st x with
      | some (_, xs) => atI xs k
      | none => none
  | _ => none
/-- x[lo:hi] -/
def sliceP (x : PV) (lo hi : Option Int) (st : Sto) : Option PV := match x with
  | .str s => if s.length ≤ sizeLine then some (.str (cutP s lo hi)) else none
  | x => match seqOf st x with
    | some (true, xs) => some (.lst (cutP xs lo hi))
    | some (false, xs) => some (.tup (cutP xs lo hi))
    | none => none
/-- x[::-1] -/
def revP (x : PV) (st : Sto) : Option PV := match x with
  | .str s => if s.length ≤ sizeLine then some (.str s.reverse) else none
  | x => match seqOf st x with
    | some (true, xs) => some (.lst xs.reverse)
    | some (false, xs) => some (.tup xs.reverse)
    | none => none
end MP

/-! MP, part b: the text of a def, and what it gives. -/
namespace MP
open PySem L2

/-- built-in functions by name -/
inductive BI where
  | len | abs | int | str | bool | list | tuple | all | any | sum | max | min | repr | sorted | sortset
  deriving DecidableEq, Repr
/-- methods of built-in things -/
inductive MI where
  | append | upper | index | pop | join | extend | find | rstrip | get
  deriving DecidableEq, Repr
/-- built-in classes for isinstance -/
inductive TY where
  | int | bool | str | tuple | list | dict
  deriving DecidableEq, Repr

/-- what is bound by a for or a comprehension -/
inductive RT where
  | name (i : Nat)
  | pair (a b : RT)
  | trip (a b c : RT)
  deriving DecidableEq, Repr

mutual
inductive RE where
  | var (i : Nat)
  | cst (v : PV)
  | glo (x : String) (v : PV)
  | bin (op : Operator) (a b : RE)
  | un (op : UnaryOp) (a : RE)
  | and (a b : RE)
  | or (a b : RE)
  | cmp (op : CmpOp) (a b : RE)
  | chn (o1 o2 : CmpOp) (a b c : RE)
  | ifx (c a b : RE)
  | sub (a i : RE)
  | slc (a : RE) (lo hi : RO)
  | rev (a : RE)
  | tup (es : RL)
  | lst (es : RL)
  | new (es : RL)
  | dct
  | call (f : Nat) (es : RL)
  | bi (b : BI) (es : RL)
  | mth (m : MI) (o : RE) (es : RL)
  | isi (e : RE) (t : TY)
  | isi2 (e : RE) (t u : TY)
  | srt (e : RE)
  | srtN (e : RE)
  | slcN (a : RE) (lo hi : RO)
  | calld (f : Nat) (es : RL) (ds : List PV)
  | dlit (kvs : List (List Nat × PV))
  | lc (e : RE) (t : RT) (own : List Nat) (it : RI) (c : RO)
  | lc2 (e : RE) (t t1 : RT) (own own1 : List Nat) (it it1 : RI)
  | ssc (e : RE) (t : RT) (own : List Nat) (it : RI) (c : RO)
  | ssc2 (e : RE) (t t1 : RT) (own own1 : List Nat) (it it1 : RI)
  | dsub (x : String) (kvs : List (List Nat × PV)) (a : RE)
  | din (neg : Bool) (x : String) (kvs : List (List Nat × PV)) (a : RE)
  | nev
inductive RL where
  | nil
  | cons (e : RE) (es : RL)
  | star (e : RE) (es : RL)
inductive RO where
  | no
  | yes (e : RE)
inductive RI where
  | seq (e : RE)
  | rng (a : RE)
  | rng2 (a b : RE)
  | rng3 (a b c : RE)
  | enum (e : RE)
  | zip (a b : RE)
end

inductive Fl where
  | nx (v : List (Option PV))
  | rt (v : PV)
  | bk (v : List (Option PV))
  | ct (v : List (Option PV))

mutual
inductive RS where
  | set (i : Nat) (e : RE)
  | unp (t : RT) (e : RE)
  | par (i j : Nat) (a b : RE)
  | put (o i e : RE)
  | exp (e : RE)
  | ret (e : RE)
  | retN
  | ite (c : RE) (a b : RB)
  | for (t : RT) (it : RI) (b : RB)
  | whl (c : RE) (b : RB)
  | brk
  | cnt
  | pas
  | nev
inductive RB where
  | nil
  | cons (s : RS) (r : RB)
end

abbrev Env := List (Option PV)
/-- the table of the text's own defs -/
abbrev Tab := Nat → List PV → Sto → Res PV

def optR {A : Type} (o : Option A) (st : Sto) : Res A := match o with
  | some a => .ok a st
  | none => .bad
@[simp] theorem optR_some {A : Type} (a : A) (st : Sto) : optR (some a) st = .ok a st := id rfl
@[simp] theorem optR_none {A : Type} (st : Sto) : optR (none : Option A) st = .bad := id rfl

def slotsT : RT → List Nat
  | .name i => [i]
  | .pair a b => slotsT a ++ slotsT b
  | .trip a b c => slotsT a ++ (slotsT b ++ slotsT c)
/-- a target's store -/
def bindT (st : Sto) : RT → PV → Env → Option Env
  | .name i, v, s => some (s.set i (some v))
  | .pair a b, v, s => match v with
    | .tup [x, y] => (bindT st a x s).bind fun s1 => bindT st b y s1
    | _ => none
  | .trip a b c, v, s => match v with
    | .tup [x, y, z] => (bindT st a x s).bind fun s1 => (bindT st b y s1).bind fun s2 => bindT st c z s2
    | _ => none

def boolsOf : List PV → Option (List Bool)
  | [] => some []
  | .bl i :: xs => (boolsOf xs).map (i :: ·)
  | _ :: _ => none
def intsOf : List PV → Option (List Int)
  | [] => some []
  | .int i :: xs => (intsOf xs).map (i :: ·)
  | _ :: _ => none
def strsOf : List PV → Option (List (List Nat))
  | [] => some []
  | .str i :: xs => (strsOf xs).map (i :: ·)
  | _ :: _ => none
/-- x put into an ordered list of unlike texts -/
def insS (x : List Nat) : List (List Nat) → List (List Nat)
  | [] => [x]
  | y :: ys => if x < y then x :: y :: ys else if x = y then y :: ys else y :: insS x ys
def srtS (xs : List (List Nat)) : List (List Nat) := xs.foldr insS []
/-- x put into a list in order, each once -/
def insO {A : Type} [DecidableEq A] (lt : A → A → Bool) (x : A) : List A → List A
  | [] => [x]
  | y :: ys => if lt x y then x :: y :: ys else if x = y then y :: ys else y :: insO lt x ys
def srtO {A : Type} [DecidableEq A] (lt : A → A → Bool) (xs : List A) : List A := xs.foldr (insO lt) []
def ltI (a b : Int) : Bool := decide (a < b)
/-- a number and a text -/
def ltPr (p q : Int × List Nat) : Bool := decide (p.1 < q.1) || (decide (p.1 = q.1) && decide (p.2 < q.2))
def prV (p : Int × List Nat) : PV := .tup [.int p.1, .str p.2]
def prsOf : List PV → Option (List (Int × List Nat))
  | [] => some []
  | .tup [.int i, .str s] :: xs => (prsOf xs).map ((i, s) :: ·)
  | _ :: _ => none
/-- sorted(set(x)) -/
def srtP (x : PV) (st : Sto) : Option PV := (seqOf st x).bind fun p => if p.1 then (match strsOf p.2, intsOf p.2, prsOf p.2 with
    | some xs, _, _ => if xs.length < 4000 then some (.lst ((srtS xs).map .str)) else none
    | _, some xs, _ => if xs.length < 4000 then some (.lst ((srtO ltI xs).map .int)) else none
    | _, _, some xs => if xs.length < 4000 ∧ (srtO ltPr xs).length < 63 then some (.lst ((srtO ltPr xs).map prV)) else none
    | _, _, _ => none) else none
/-- the greatest of some numbers, the least -/
def maxI : List Int → Option Int
  | [] => none
  | x :: xs => some (xs.foldl (fun a b => if a < b then b else a) x)
def minI : List Int → Option Int
  | [] => none
  | x :: xs => some (xs.foldl (fun a b => if b < a then b else a) x)
def insW (x : List Nat) : List (List Nat) → List (List Nat)
  | [] => [x]
  | y :: ys => if x < y then x :: y :: ys else y :: insW x ys
/-- a list that is made, as a place of its own -/
def newR (o : Option PV) (st : Sto) : Res PV := match o with
  | some (.lst ys) => .ok (.loc st.length) (st ++ [.lst ys])
  | _ => .bad
def biP (b : BI) (vs : List PV) (st : Sto) : Option PV := match b, vs with
  | .len, [.str s] => if s.length ≤ sizeLine then some (.int s.length) else none
  | .len, [v] => (seqOf st v).map fun p => .int p.2.length
  | .abs, [.int i] => some (.int (if i < 0 then -i else i))
  | .int, [.int i] => some (.int i)
  | .int, [.bl b] => some (.int (if b then 1 else 0))
  | .str, [.int i] => if i.natAbs.log2 < 12900 then some (.str ((toString i).toList.map Char.toNat)) else none
  | .str, [.bl b] => some (.str (if b then [84, 114, 117, 101] else [70, 97, 108, 115, 101]))
  | .str, [.str s] => some (.str s)
  | .list, [v] => (seqOf st v).map fun p => .lst p.2
  | .tuple, [v] => (seqOf st v).map fun p => .tup p.2
  | .all, [v] => (seqOf st v).bind fun p => if p.1 then (boolsOf p.2).map fun bs => .bl (bs.all id) else none
  | .any, [v] => (seqOf st v).bind fun p => if p.1 then (boolsOf p.2).map fun bs => .bl (bs.any id) else none
  | .repr, [v] => (dataAt st v).bind fun d => if d.showable && decide (d.depth ≤ 64) && decide (d.shown.length ≤ sizeLine) then some (.str d.shown.cps.toList) else none
  | .sum, [v] => (seqOf st v).bind fun p => if p.1 then (intsOf p.2).map fun is => .int is.sum else none
  | .max, [v] => (seqOf st v).bind fun p => if p.1 then (intsOf p.2).bind fun is => (maxI is).map .int else none
  | .min, [v] => (seqOf st v).bind fun p => if p.1 then (intsOf p.2).bind fun is => (minI is).map .int else none
  | .min, [.int i, .int j] => some (.int (if j < i then j else i))
  | .max, [.int i, .int j] => some (.int (if j > i then j else i))
  | .sortset, [v] => (seqOf st v).bind fun p => if p.1 then (strsOf p.2).bind fun xs => if xs.length < 64 then some (.lst ((xs.foldr insS []).map .str)) else none else none
  | _, _ => none
def mthP (m : MI) (o : PV) (vs : List PV) (st : Sto) : Res PV := match m, o, vs with
  | .append, .loc n, [v] => match st[n]? with
    | some (.lst xs) => if xs.length < sizeLine then .ok .non (st.set n (.lst (xs ++ [v]))) else .bad
    | none => .bad
  | .extend, .loc n, [v] => match st[n]?, seqOf st v with
    | some (.lst xs), some (_, ys) => if xs.length + ys.length ≤ sizeLine then .ok .non (st.set n (.lst (xs ++ ys))) else .bad
    | _, _ => .bad
  | .upper, .str s, [] => if s.length ≤ 5592405 then .ok (.str (Txt.upper ⟨s.toArray⟩).cps.toList) st else .bad
  | .index, o, [v] => match seqOf st o, dataAt st v with
    | some (true, ys), some d => match PV.datas ys with
      | some ds => if okData d && okData (.list ds) then (match ds.findIdx? (fun z => PyData.eqv z d) with
        | some j => .ok (.int (j : Nat)) st
        | none => .bad) else .bad
      | none => .bad
    | _, _ => .bad
  | .find, .str a, [.str b] => .ok (.int (Txt.find ⟨a.toArray⟩ ⟨b.toArray⟩)) st
  | .rstrip, .str a, [.str b] => if a.length ≤ sizeLine then .ok (.str (Txt.rstripChars ⟨a.toArray⟩ ⟨b.toArray⟩).cps.toList) st else .bad
  | .get, .dct xs, [.str z, y] => .ok ((dlook z xs).getD y) st
  | .join, .str a, [v] => match seqOf st v with
    | some (_, ys) => match strsOf ys with
      | some ws => if (ws.map List.length).sum + ws.length * a.length ≤ 16777216 then .ok (.str (Txt.join ⟨a.toArray⟩ (ws.map fun w => ⟨w.toArray⟩)).cps.toList) st else .bad
      | none => .bad
    | none => .bad
  | .pop, .loc n, [.int i] => match st[n]? with
    | some (.lst xs) => if 0 ≤ i ∧ i < 1000000 then (match xs[i.toNat]? with
      | some x => .ok x (st.set n (.lst (xs.eraseIdx i.toNat)))
      | none => .bad) else .bad
    | none => .bad
  | _, _, _ => .bad
/-- the receiver has the method -/
def mOk (m : MI) (o : PV) (st : Sto) : Bool := match m, o with
  | .append, .loc n => match st[n]? with
    | some (.lst _) => true
    | none => false
  | .upper, .str _ => true
  | .index, o => match seqOf st o with
    | some (true, _) => true
    | _ => false
  | .pop, .loc n => match st[n]? with
    | some (.lst _) => true
    | none => false
  | .join, .str _ => true
  | .find, .str _ => true
  | .get, .dct _ => true
  | .rstrip, .str _ => true
  | .extend, .loc n => match st[n]? with
    | some (.lst _) => true
    | none => false
  | _, _ => false
def isiP (t : TY) (v : PV) (st : Sto) : Option Bool := match v with
  | .non => some false
  | .bl _ => some (t == .int || t == .bool)
  | .int _ => some (t == .int)
  | .str _ => some (t == .str)
  | .tup _ => some (t == .tuple)
  | .lst _ => some (t == .list)
  | .dct _ => some (t == .dict)
  | .loc n => match st[n]? with
    | some (.lst _) => some (t == .list)
    | none => none

/-- what is walked: values, or the list at a place as it stands at each turn -/
inductive Src where
  | its (xs : List PV)
  | at (n len : Nat) (e : Bool)
/-- a turn's thing; e: with its number -/
def itA (e : Bool) (i : Nat) (x : PV) : PV := match e with
  | true => .tup [.int i, x]
  | false => x
def srcOf (st : Sto) : PV → Option Src
  | .tup xs => some (.its xs)
  | .lst xs => some (.its xs)
  | .str s => some (.its (s.map fun c => .str [c]))
  | .loc n => match st[n]? with
    | some (.lst xs) => some (.at n xs.length false)
    | none => none
  | _ => none
def rngL (lo : Int) : Nat → List PV
  | 0 => []
  | n + 1 => .int lo :: rngL (lo + 1) n
/-- lo, lo + c, .. -/
def rngC (lo c : Int) : Nat → List PV
  | 0 => []
  | n + 1 => .int lo :: rngC (lo + c) c n
def enumL (k : Int) : List PV → List PV
  | [] => []
  | x :: xs => .tup [.int k, x] :: enumL (k + 1) xs
def zipL : List PV → List PV → List PV
  | x :: xs, y :: ys => .tup [x, y] :: zipL xs ys
  | _, _ => []

/-- a comprehension's turns over values -/
def compL (f : PV → Sto → Res (List PV)) : List PV → Sto → Res (List PV)
  | [], st => .ok [] st
  | x :: xs, st => (f x st).bnd fun a st1 => (compL f xs st1).bnd fun r st2 => .ok (a ++ r) st2
/-- .. over the list at a place -/
def compA (f : PV → Sto → Res (List PV)) (n : Nat) (e : Bool) : Nat → Nat → Sto → Res (List PV)
  | i, 0, st => match st[n]? with
    | some (.lst xs) => if xs.length ≤ i then .ok [] st else .bad
    | none => .bad
  | i, k + 1, st => match st[n]? with
    | some (.lst xs) => match xs[i]? with
      | some x => (f (itA e i x) st).bnd fun a st1 => (compA f n e (i + 1) k st1).bnd fun r st2 => .ok (a ++ r) st2
      | none => .bad
    | none => .bad
def comp (f : PV → Sto → Res (List PV)) (s : Src) (st : Sto) : Res (List PV) := match s with
  | .its xs => compL f xs st
  | .at n k e => compA f n e 0 k st
/-- a block's exceptions do not leave it -/
def calmR {A : Type} (r : Res A) : Res A := match r with
  | .ok a st => .ok a st
  | _ => .bad
def wipeE (s : Env) : List Nat → Env
  | [] => s
  | v :: vs => (wipeE s vs).set v none

mutual
def evE (T : Tab) : RE → Env → Sto → Res PV
  | .var i, s, st => match s[i]? with
    | some (some v) => .ok v st
    | _ => .bad
  | .cst v, _, st => .ok v st
  | .glo _ v, _, st => .ok v st
  | .bin op a b, s, st => (evE T a s st).bnd fun x st1 => (evE T b s st1).bnd fun y st2 => optR (binP op x y st2) st2
  | .un op a, s, st => (evE T a s st).bnd fun x st1 => optR (unP op x st1) st1
  | .and a b, s, st => (evE T a s st).bnd fun x st1 => match truP st1 x with
    | some true => evE T b s st1
    | some false => .ok x st1
    | none => .bad
  | .or a b, s, st => (evE T a s st).bnd fun x st1 => match truP st1 x with
    | some true => .ok x st1
    | some false => evE T b s st1
    | none => .bad
  | .cmp op a b, s, st => (evE T a s st).bnd fun x st1 => (evE T b s st1).bnd fun y st2 => optR ((cmpP op x y st2).map .bl) st2
  | .chn o1 o2 a b c, s, st => (evE T a s st).bnd fun x st1 => (evE T b s st1).bnd fun y st2 => match cmpP o1 x y st2 with
    | some true => (evE T c s st2).bnd fun z st3 => optR ((cmpP o2 y z st3).map .bl) st3
    | some false => .ok (.bl false) st2
    | none => .bad
  | .ifx c a b, s, st => (evE T c s st).bnd fun x st1 => match truP st1 x with
    | some true => evE T a s st1
    | some false => evE T b s st1
    | none => .bad
  | .sub a i, s, st => (evE T a s st).bnd fun x st1 => (evE T i s st1).bnd fun k st2 => optR (subP x k st2) st2
  | .slc a lo hi, s, st => (evE T a s st).bnd fun x st1 => (evP T lo s st1).bnd fun l st2 => (evP T hi s st2).bnd fun h st3 => optR (sliceP x l h st3) st3
  | .rev a, s, st => (evE T a s st).bnd fun x st1 => optR (revP x st1) st1
  | .tup es, s, st => (evL T es s st).bnd fun xs st1 => if xs.length ≤ sizeLine then .ok (.tup xs) st1 else .bad
  | .lst es, s, st => (evL T es s st).bnd fun xs st1 => if xs.length ≤ sizeLine then .ok (.lst xs) st1 else .bad
  | .new es, s, st => (evL T es s st).bnd fun xs st1 => if xs.length ≤ sizeLine then .ok (.loc st1.length) (st1 ++ [.lst xs]) else .bad
  | .dct, _, st => .ok (.dct []) st
  | .call f es, s, st => (evL T es s st).bnd fun xs st1 => T f xs st1
  | .bi b es, s, st => (evL T es s st).bnd fun xs st1 => optR (biP b xs st1) st1
  | .mth m o es, s, st => (evE T o s st).bnd fun x st1 => if mOk m x st1 then (evL T es s st1).bnd fun xs st2 => mthP m x xs st2 else .bad
  | .isi e t, s, st => (evE T e s st).bnd fun x st1 => optR ((isiP t x st1).map .bl) st1
  | .isi2 e t u, s, st => (evE T e s st).bnd fun x st1 => optR ((isiP t x st1).bind fun a => (isiP u x st1).map fun b => .bl (a || b)) st1
  | .srt e, s, st => (evE T e s st).bnd fun x st1 => optR (srtP x st1) st1
  | .srtN e, s, st => (evE T e s st).bnd fun x st1 => newR (srtP x st1) st1
  | .slcN a lo hi, s, st => (evE T a s st).bnd fun x st1 => (evP T lo s st1).bnd fun l st2 => (evP T hi s st2).bnd fun h st3 => newR (sliceP x l h st3) st3
  | .calld f es ds, s, st => (evL T es s st).bnd fun xs st1 => T f (xs ++ ds) st1
  | .dlit kvs, _, st => .ok (.dct (kvs.map fun p => .tup [.str p.1, p.2])) st
  | .lc e t own it c, s, st => (evI T it s st).bnd fun src st1 => (calmR (comp (fun x st2 => match bindT st2 t x (wipeE s own) with
      | some s1 => (evO T c s1 st2).bnd fun b st3 => match b with
        | none => (evE T e s1 st3).bnd fun y st4 => .ok [y] st4
        | some v => match truP st3 v with
          | some true => (evE T e s1 st3).bnd fun y st4 => .ok [y] st4
          | some false => .ok [] st3
          | none => .bad
      | none => .bad) src st1)).bnd fun ys st2 => if ys.length ≤ sizeLine then .ok (.lst ys) st2 else .bad
  | .lc2 e t t1 own own1 it it1, s, st => (evI T it s st).bnd fun src st1 => (calmR (comp (fun x st2 => match bindT st2 t x (wipeE s own) with
      | some s1 => (evI T it1 s1 st2).bnd fun src1 st3 => comp (fun y st4 => match bindT st4 t1 y (wipeE s1 own1) with
        | some s2 => (evE T e s2 st4).bnd fun v st5 => .ok [v] st5
        | none => .bad) src1 st3
      | none => .bad) src st1)).bnd fun ys st2 => if ys.length ≤ sizeLine then .ok (.lst ys) st2 else .bad
  | .ssc e t own it c, s, st => (evI T it s st).bnd fun src st1 => (calmR (comp (fun x st2 => match bindT st2 t x (wipeE s own) with
      | some s1 => (evO T c s1 st2).bnd fun b st3 => match b with
        | none => (evE T e s1 st3).bnd fun y st4 => .ok [y] st4
        | some v => match truP st3 v with
          | some true => (evE T e s1 st3).bnd fun y st4 => .ok [y] st4
          | some false => .ok [] st3
          | none => .bad
      | none => .bad) src st1)).bnd fun ys st2 => optR (srtP (.lst ys) st2) st2
  | .ssc2 e t t1 own own1 it it1, s, st => (evI T it s st).bnd fun src st1 => (calmR (comp (fun x st2 => match bindT st2 t x (wipeE s own) with
      | some s1 => (evI T it1 s1 st2).bnd fun src1 st3 => comp (fun y st4 => match bindT st4 t1 y (wipeE s1 own1) with
        | some s2 => (evE T e s2 st4).bnd fun v st5 => .ok [v] st5
        | none => .bad) src1 st3
      | none => .bad) src st1)).bnd fun ys st2 => optR (srtP (.lst ys) st2) st2
  | .dsub _ kvs a, s, st => (evE T a s st).bnd fun x st1 => match x with
    | .str z => optR (kvs.lookup z) st1
    | _ => .bad
  | .din neg _ kvs a, s, st => (evE T a s st).bnd fun x st1 => match x with
    | .str z => .ok (.bl (neg != (kvs.lookup z).isSome)) st1
    | _ => .bad
  | .nev, _, _ => .bad
def evL (T : Tab) : RL → Env → Sto → Res (List PV)
  | .nil, _, st => .ok [] st
  | .cons e es, s, st => (evE T e s st).bnd fun x st1 => (evL T es s st1).bnd fun xs st2 => .ok (x :: xs) st2
  | .star e es, s, st => (evE T e s st).bnd fun x st1 => match seqOf st1 x with
    | some (_, ys) => (evL T es s st1).bnd fun xs st2 => .ok (ys ++ xs) st2
    | none => .bad
def evO (T : Tab) : RO → Env → Sto → Res (Option PV)
  | .no, _, st => .ok none st
  | .yes e, s, st => (evE T e s st).bnd fun x st1 => .ok (some x) st1
def evP (T : Tab) : RO → Env → Sto → Res (Option Int)
  | .no, _, st => .ok none st
  | .yes e, s, st => (evE T e s st).bnd fun x st1 => match x with
    | .int n => .ok (some n) st1
    | _ => .bad
def evI (T : Tab) : RI → Env → Sto → Res Src
  | .seq e, s, st => (evE T e s st).bnd fun x st1 => optR (srcOf st1 x) st1
  | .rng a, s, st => (evE T a s st).bnd fun x st1 => match x with
    | .int n => if -(2 ^ 62) ≤ n ∧ n < 2 ^ 62 then .ok (.its (rngL 0 n.toNat)) st1 else .bad
    | _ => .bad
  | .rng2 a b, s, st => (evE T a s st).bnd fun x st1 => (evE T b s st1).bnd fun y st2 => match x, y with
    | .int m, .int n => if -(2 ^ 62) ≤ m ∧ m < 2 ^ 62 ∧ -(2 ^ 62) ≤ n ∧ n < 2 ^ 62 then .ok (.its (rngL m (n - m).toNat)) st2 else .bad
    | _, _ => .bad
  | .rng3 a b c, s, st => (evE T a s st).bnd fun x st1 => (evE T b s st1).bnd fun y st2 => (evE T c s st2).bnd fun z st3 => match x, y, z with
    | .int m, .int n, .int k => if -(2 ^ 61) ≤ m ∧ m < 2 ^ 61 ∧ -(2 ^ 61) ≤ n ∧ n < 2 ^ 61 ∧ 0 < k ∧ k < 1073741824 then .ok (.its (rngC m k (if m < n then (n - m - 1) / k + 1 else 0).toNat)) st3 else .bad
    | _, _, _ => .bad
  | .enum e, s, st => (evE T e s st).bnd fun x st1 => match x with
    | .tup xs => .ok (.its (enumL 0 xs)) st1
    | .lst xs => .ok (.its (enumL 0 xs)) st1
    | .loc n => match st1[n]? with
      | some (.lst xs) => .ok (.at n xs.length true) st1
      | none => .bad
    | _ => .bad
  | .zip a b, s, st => (evE T a s st).bnd fun x st1 => (evE T b s st1).bnd fun y st2 => match x, y with
    | .tup xs, .tup ys => .ok (.its (zipL xs ys)) st2
    | .lst xs, .lst ys => .ok (.its (zipL xs ys)) st2
    | _, _ => .bad
end

/-- a for over values -/
def forL (f : PV → Env → Sto → Res Fl) : List PV → Env → Sto → Res Fl
  | [], s, st => .ok (.nx s) st
  | x :: xs, s, st => (f x s st).bnd fun r st1 => match r with
    | .nx s1 => forL f xs s1 st1
    | .ct s1 => forL f xs s1 st1
    | .bk s1 => .ok (.nx s1) st1
    | .rt v => .ok (.rt v) st1
/-- .. over the list at a place -/
def forA (f : PV → Env → Sto → Res Fl) (n : Nat) (e : Bool) : Nat → Nat → Env → Sto → Res Fl
  | i, 0, s, st => match st[n]? with
    | some (.lst xs) => if xs.length ≤ i then .ok (.nx s) st else .bad
    | none => .bad
  | i, k + 1, s, st => match st[n]? with
    | some (.lst xs) => match xs[i]? with
      | some x => (f (itA e i x) s st).bnd fun r st1 => match r with
        | .nx s1 => forA f n e (i + 1) k s1 st1
        | .ct s1 => forA f n e (i + 1) k s1 st1
        | .bk s1 => .ok (.nx s1) st1
        | .rt v => .ok (.rt v) st1
      | none => .bad
    | none => .bad
def forS (f : PV → Env → Sto → Res Fl) (src : Src) (s : Env) (st : Sto) : Res Fl := match src with
  | .its xs => forL f xs s st
  | .at n k e => forA f n e 0 k s st
def whlL (c : Env → Sto → Res Bool) (f : Env → Sto → Res Fl) : Nat → Env → Sto → Res Fl
  | 0, _, _ => .bad
  | k + 1, s, st => (c s st).bnd fun b st1 => if b then (f s st1).bnd fun r st2 => match r with
      | .nx s1 => whlL c f k s1 st2
      | .ct s1 => whlL c f k s1 st2
      | .bk s1 => .ok (.nx s1) st2
      | .rt v => .ok (.rt v) st2
    else .ok (.nx s) st1
def putP (o i v : PV) (st : Sto) : Res Unit := match o, i with
  | .loc n, .int k => match st[n]? with
    | some (.lst xs) => match ixN xs.length k with
      | some j => .ok () (st.set n (.lst (xs.set j v)))
      | none => .bad
    | none => .bad
  | _, _ => .bad

def evT (T : Tab) (e : RE) (s : Env) (st : Sto) : Res Bool := (evE T e s st).bnd fun x st1 => optR (truP st1 x) st1

mutual
def evS (T : Tab) (fu : Nat) : RS → Env → Sto → Res Fl
  | .set i e, s, st => (evE T e s st).bnd fun x st1 => .ok (.nx (s.set i (some x))) st1
  | .unp t e, s, st => (evE T e s st).bnd fun x st1 => match bindT st1 t x s with
    | some s1 => .ok (.nx s1) st1
    | none => .bad
  | .par i j a b, s, st => (evE T a s st).bnd fun x st1 => (evE T b s st1).bnd fun y st2 => .ok (.nx ((s.set i (some x)).set j (some y))) st2
  | .put o i e, s, st => (evE T e s st).bnd fun v st1 => (evE T o s st1).bnd fun x st2 => (evE T i s st2).bnd fun k st3 => (putP x k v st3).bnd fun _ st4 => .ok (.nx s) st4
  | .exp e, s, st => (evE T e s st).bnd fun _ st1 => .ok (.nx s) st1
  | .ret e, s, st => (evE T e s st).bnd fun x st1 => .ok (.rt x) st1
  | .retN, _, st => .ok (.rt .non) st
  | .ite c a b, s, st => (evT T c s st).bnd fun k st1 => if k then evB T fu a s st1 else evB T fu b s st1
  | .for t it b, s, st => (evI T it s st).bnd fun src st1 => forS (fun x s1 st2 => match bindT st2 t x s1 with
      | some s2 => evB T fu b s2 st2
      | none => .bad) src s st1
  | .whl c b, s, st => whlL (evT T c) (evB T fu b) fu s st
  | .brk, s, st => .ok (.bk s) st
  | .cnt, s, st => .ok (.ct s) st
  | .pas, s, st => .ok (.nx s) st
  | .nev, _, _ => .bad
def evB (T : Tab) (fu : Nat) : RB → Env → Sto → Res Fl
  | .nil, s, st => .ok (.nx s) st
  | .cons x r, s, st => (evS T fu x s st).bnd fun f st1 => match f with
    | .nx s1 => evB T fu r s1 st1
    | f => .ok f st1
end
/-! places put in their things' stead -/
mutual
def mapLoc (f : Nat → Option PV) : PV → Option PV
  | .loc m => f m
  | .tup xs => (mapLocs f xs).map .tup
  | .lst xs => (mapLocs f xs).map .lst
  | v => some v
def mapLocs (f : Nat → Option PV) : List PV → Option (List PV)
  | [] => some []
  | x :: xs => (mapLoc f x).bind fun y => (mapLocs f xs).map (y :: ·)
end
/-- what stands for the place m, when the places from k on go -/
def resAt (k : Nat) (st : Sto) : Nat → Nat → Option PV
  | 0, m => if m < k then some (.loc m) else none
  | n + 1, m => if m < k then some (.loc m) else match st[m]? with
    | some (.lst xs) => (mapLocs (resAt k st n) xs).map .lst
    | none => none
def dropO (f : Nat → Option PV) : Sto → Option Sto
  | [] => some []
  | .lst xs :: os => (mapLocs f xs).bind fun ys => (dropO f os).map (.lst ys :: ·)
def dropRes (k : Nat) : Res PV → Res PV
  | .ok v st => match mapLoc (resAt k st 8) v, dropO (resAt k st 8) (st.take k) with
    | some u, some st1 => .ok u st1
    | _, _ => .bad
  | .exc x st => match mapLocs (resAt k st 8) x.fs, dropO (resAt k st 8) (st.take k) with
    | some u, some st1 => .exc { x with fs := u } st1
    | _, _ => .bad
  | .bad => .bad
/-- a def's body at its arguments; n: how many names; p: how many parameters; kp: what it made may be written later -/
def run (T : Tab) (fu n p : Nat) (kp : Bool) (b : RB) (vs : List PV) (st : Sto) : Res PV :=
  if vs.length = p then
    let r := (evB T fu b (vs.map some ++ List.replicate (n - vs.length) none) st).bnd fun f st1 => match f with
      | .rt v => .ok v st1
      | .nx _ => .ok .non st1
      | _ => .bad
    if kp then r else dropRes st.length r
  else .bad
end MP

/-! MP, part c: how values lie in the abstract heap; the readings that are the weakest ones. -/
namespace MP
open PySem PySem.Spec PyProof.Rows L2

/-- the store's places; other objects that code under way may not name -/
structure Rg where
  pl : List Addr
  hid : List Addr
instance : Membership Addr Rg := ⟨fun r a => a ∈ r.pl ∨ a ∈ r.hid⟩
theorem Rg.mem_iff {r : Rg} {a : Addr} : a ∈ r ↔ a ∈ r.pl ∨ a ∈ r.hid := Iff.rfl
theorem Rg.in_pl {r : Rg} {a : Addr} (h : a ∈ r.pl) : a ∈ r := .inl h
theorem Rg.in_hid {r : Rg} {a : Addr} (h : a ∈ r.hid) : a ∈ r := .inr h
def Rg.put (r : Rg) (p : Addr) : Rg := ⟨r.pl ++ [p], r.hid⟩
def Rg.hide (r : Rg) (p : Addr) : Rg := ⟨r.pl, p :: r.hid⟩
def Rg.cut (r : Rg) (h : List Addr) : Rg := ⟨r.pl, h⟩

def KT (K : PySem.W.Frag) (a : Addr) (xs : List V) : Prop := ∃ (o : Obj) (its : Array Value) (n : Nat), K.lookup a = some o ∧ o.cls = .type "tuple" ∧ o.data = .seq its n ∧ its.size ≤ sizeLine ∧ Vals xs its.toList
def KL (K : PySem.W.Frag) (a : Addr) (xs : List V) : Prop := ∃ (its : Array Value) (n : Nat), K.lookup a = some { cls := .type "list", data := .seq its n } ∧ its.size ≤ sizeLine ∧ Vals xs its.toList
def ImT (K : PySem.W.Frag) (r : Rg) (H : Hp) (a : Addr) (xs : List V) : Prop := (Rd H a (.tup xs) ∧ a ∉ r) ∨ KT K a xs
def ImL (K : PySem.W.Frag) (r : Rg) (H : Hp) (a : Addr) (xs : List V) : Prop := (Rd H a (.lst xs) ∧ a ∉ r) ∨ KL K a xs
theorem ImT.sq {K r H a xs} (h : ImT K r H a xs) : SqT K H a xs := h.imp (fun q => q.1) id
theorem ImL.sq {K r H a xs} (h : ImL K r H a xs) : SqL K H a xs := h.imp (fun q => q.1) fun ⟨its, n, h1, h2, h3⟩ => ⟨_, its, n, h1, rfl, rfl, rfl, h2, h3⟩
/-- the list's object -/
theorem ImL.obj {X : Cx} {pins : List (Addr × Obj)} {σ : L2.St} {H : Hp} {s : Shared} {r : Rg} {a : Addr} {xs : List V} (I : Inv X pins σ H s) (h : ImL X.K r H a xs) : ∃ (its : List Value) (n : Nat), Vals xs its ∧ xs.length ≤ sizeLine ∧ s.heap.get? a = some { cls := .type "list", data := .seq its.toArray n } := by
  rcases h with ⟨h, _⟩ | ⟨its, n, h1, h2, h3⟩
  · obtain ⟨z, its, n, rr, e⟩ := h.ok I.hok
    exact ⟨its, n, rr, z, e⟩
  · refine ⟨its.toList, n, h3, ?_, by simpa using I.kIn a _ h1⟩
    have e : xs.length = its.toList.length := h3.length
    have e2 : its.toList.length = its.size := Array.length_toList
    omega

mutual
inductive Rep (K : PySem.W.Frag) (r : Rg) (H : Hp) : PV → V → Prop
  | non : Rep K r H .non .non
  | bl (b : Bool) : Rep K r H (.bl b) (.bl b)
  | int (i : Int) : Rep K r H (.int i) (.int i)
  | str (s : List Nat) : Rep K r H (.str s) (.str ⟨s.toArray⟩)
  | tup {a : Addr} {vs : List V} {xs : List PV} : ImT K r H a vs → Reps K r H xs vs → Rep K r H (.tup xs) (.ref a)
  | lst {a : Addr} {vs : List V} {xs : List PV} : ImL K r H a vs → Reps K r H xs vs → Rep K r H (.lst xs) (.ref a)
  | dct {a : Addr} {xs : List PV} {ks : List (L2.Key × V)} : dKs xs = some ks → Rd H a (.dK ks) → a ∉ r → Rep K r H (.dct xs) (.ref a)
  | loc {a : Addr} {n : Nat} : r.pl[n]? = some a → Rep K r H (.loc n) (.ref a)
inductive Reps (K : PySem.W.Frag) (r : Rg) (H : Hp) : List PV → List V → Prop
  | nil : Reps K r H [] []
  | cons {x : PV} {v : V} {xs : List PV} {vs : List V} : Rep K r H x v → Reps K r H xs vs → Reps K r H (x :: xs) (v :: vs)
end

structure Grow (r : Rg) (H : Hp) (r' : Rg) (H' : Hp) : Prop where
  ext : ∃ new, r'.pl = r.pl ++ new ∧ ∀ a ∈ new, H a = none
  hid : r'.hid = r.hid
  keep : ∀ a o, H a = some o → a ∉ r → H' a = some o
  same : ∀ a ∈ r.hid, H' a = H a
  there : ∀ a, H a ≠ none → H' a ≠ none

theorem Grow.refl (r : Rg) (H : Hp) : Grow r H r H := ⟨⟨[], by simp, fun a h => by cases h⟩, rfl, fun _ _ h _ => h, fun _ _ => rfl, fun _ h => h⟩
theorem Grow.notin {r r' : Rg} {H H'} (g : Grow r H r' H') {a : Addr} {o : HO} (h : H a = some o) (n : a ∉ r) : a ∉ r' := by
  obtain ⟨new, e, hn⟩ := g.ext
  intro m
  rcases m with m | m
  · rw [e] at m
    rcases List.mem_append.mp m with m | m
    · exact n (.inl m)
    · rw [hn a m] at h; cases h
  · rw [g.hid] at m; exact n (.inr m)
theorem Grow.get {r r' : Rg} {H H'} (g : Grow r H r' H') {n : Nat} {a : Addr} (h : r.pl[n]? = some a) : r'.pl[n]? = some a := by
  obtain ⟨new, e, _⟩ := g.ext
  rw [e, List.getElem?_append_left (List.getElem?_eq_some_iff.mp h).1]
  exact h
theorem Grow.trans {r r1 r2 : Rg} {H H1 H2} (g : Grow r H r1 H1) (g2 : Grow r1 H1 r2 H2) : Grow r H r2 H2 := by
  obtain ⟨n1, e1, f1⟩ := g.ext
  obtain ⟨n2, e2, f2⟩ := g2.ext
  refine ⟨⟨n1 ++ n2, by rw [e2, e1, List.append_assoc], fun a m => ?_⟩, g2.hid.trans g.hid, fun a o h n => g2.keep a o (g.keep a o h n) (g.notin h n), fun a m => (g2.same a (by rw [g.hid]; exact m)).trans (g.same a m), fun a h => g2.there a (g.there a h)⟩
  rcases List.mem_append.mp m with m | m
  · exact f1 a m
  · cases q : H a with
    | none => rfl
    | some o => exact absurd (f2 a m) (g.there a (by rw [q]; simp))
theorem Grow.rd {r r' H H'} (g : Grow r H r' H') {a : Addr} {u : HO} (h : Rd H a u) (n : a ∉ r) : Rd H' a u ∧ a ∉ r' := by
  rcases h with h | ⟨o, h⟩
  · exact ⟨.inl (g.keep _ _ h n), g.notin h n⟩
  · exact ⟨.inr ⟨o, g.keep _ _ h n⟩, g.notin h n⟩
theorem Grow.imT {K r r' H H'} (g : Grow r H r' H') {a : Addr} {xs : List V} (h : ImT K r H a xs) : ImT K r' H' a xs := by
  rcases h with ⟨h, n⟩ | h
  · exact .inl (g.rd h n)
  · exact .inr h
theorem Grow.imL {K r r' H H'} (g : Grow r H r' H') {a : Addr} {xs : List V} (h : ImL K r H a xs) : ImL K r' H' a xs := by
  rcases h with ⟨h, n⟩ | h
  · exact .inl (g.rd h n)
  · exact .inr h
/-- how facts about values are carried over -/
structure Carry (r : Rg) (H : Hp) (r' : Rg) (H' : Hp) : Prop where
  rd : ∀ a o, H a = some o → a ∉ r → H' a = some o ∧ a ∉ r'
  get : ∀ (n : Nat) (a : Addr), r.pl[n]? = some a → r'.pl[n]? = some a
theorem Grow.carry {r r' H H'} (g : Grow r H r' H') : Carry r H r' H' := ⟨fun a o h n => ⟨g.keep a o h n, g.notin h n⟩, fun _ _ h => g.get h⟩
theorem Carry.trans {r r1 r2 : Rg} {H H1 H2} (g : Carry r H r1 H1) (g2 : Carry r1 H1 r2 H2) : Carry r H r2 H2 :=
  ⟨fun a o h n => g2.rd a o (g.rd a o h n).1 (g.rd a o h n).2, fun n a h => g2.get n a (g.get n a h)⟩
theorem Carry.rdq {r r' H H'} (g : Carry r H r' H') {a : Addr} {u : HO} (h : Rd H a u) (n : a ∉ r) : Rd H' a u ∧ a ∉ r' := by
  rcases h with h | ⟨o, h⟩
  · exact ⟨.inl (g.rd _ _ h n).1, (g.rd _ _ h n).2⟩
  · exact ⟨.inr ⟨o, (g.rd _ _ h n).1⟩, (g.rd _ _ h n).2⟩
mutual
theorem Rep.carry {K r r' H H'} (g : Carry r H r' H') : ∀ {v : PV} {u : V}, Rep K r H v u → Rep K r' H' v u
  | _, _, .non => .non
  | _, _, .bl b => .bl b
  | _, _, .int i => .int i
  | _, _, .str s => .str s
  | _, _, .tup h q => .tup (h.imp (fun z => g.rdq z.1 z.2) id) (Reps.carry g q)
  | _, _, .lst h q => .lst (h.imp (fun z => g.rdq z.1 z.2) id) (Reps.carry g q)
  | _, _, .dct e h n => .dct e (g.rdq h n).1 (g.rdq h n).2
  | _, _, .loc h => .loc (g.get _ _ h)
theorem Reps.carry {K r r' H H'} (g : Carry r H r' H') : ∀ {v : List PV} {u : List V}, Reps K r H v u → Reps K r' H' v u
  | _, _, .nil => .nil
  | _, _, .cons h q => .cons (Rep.carry g h) (Reps.carry g q)
end
theorem Rep.grow {K r r' H H'} (g : Grow r H r' H') {v : PV} {u : V} (h : Rep K r H v u) : Rep K r' H' v u := h.carry g.carry
theorem Reps.grow {K r r' H H'} (g : Grow r H r' H') {v : List PV} {u : List V} (h : Reps K r H v u) : Reps K r' H' v u := h.carry g.carry
theorem Reps.length {K r H} : ∀ {xs : List PV} {vs : List V}, Reps K r H xs vs → xs.length = vs.length
  | _, _, .nil => rfl
  | _, _, .cons _ q => by simp [Reps.length q]
theorem Reps.get {K r H} : ∀ {xs : List PV} {vs : List V} {i : Nat} {x : PV}, Reps K r H xs vs → xs[i]? = some x → ∃ v, vs[i]? = some v ∧ Rep K r H x v
  | _, _, _, _, .nil, e => by simp at e
  | _, _, 0, _, .cons h _, e => by simp at e; subst e; exact ⟨_, rfl, h⟩
  | _, _, i + 1, x, .cons _ q, e => by
    obtain ⟨v, h1, h2⟩ := Reps.get (i := i) (x := x) q (by simpa using e)
    exact ⟨v, by simpa using h1, h2⟩
theorem Reps.append {K r H} : ∀ {xs ys : List PV} {vs ws : List V}, Reps K r H xs vs → Reps K r H ys ws → Reps K r H (xs ++ ys) (vs ++ ws)
  | _, _, _, _, .nil, s => s
  | _, _, _, _, .cons h q, s => .cons h (Reps.append q s)
theorem Reps.take {K r H} : ∀ {xs : List PV} {vs : List V} (n : Nat), Reps K r H xs vs → Reps K r H (xs.take n) (vs.take n)
  | _, _, 0, _ => .nil
  | _, _, _ + 1, .nil => .nil
  | _, _, n + 1, .cons h q => .cons h (Reps.take n q)
theorem Reps.drop {K r H} : ∀ {xs : List PV} {vs : List V} (n : Nat), Reps K r H xs vs → Reps K r H (xs.drop n) (vs.drop n)
  | _, _, 0, h => h
  | _, _, _ + 1, .nil => .nil
  | _, _, n + 1, .cons _ q => Reps.drop n q
theorem Reps.set {K r H} {x : PV} {v : V} (h : Rep K r H x v) : ∀ {xs : List PV} {vs : List V} (i : Nat), Reps K r H xs vs → Reps K r H (xs.set i x) (vs.set i v)
  | _, _, _, .nil => .nil
  | _, _, 0, .cons _ q => .cons h q
  | _, _, i + 1, .cons p q => .cons p (Reps.set h i q)
theorem Reps.erase {K r H} : ∀ {xs : List PV} {vs : List V} (i : Nat), Reps K r H xs vs → Reps K r H (xs.eraseIdx i) (vs.eraseIdx i)
  | _, _, _, .nil => .nil
  | _, _, 0, .cons _ q => q
  | _, _, i + 1, .cons p q => .cons p (Reps.erase i q)
theorem Reps.reverse {K r H} : ∀ {xs : List PV} {vs : List V}, Reps K r H xs vs → Reps K r H xs.reverse vs.reverse
  | _, _, .nil => .nil
  | _, _, .cons h q => by
    rw [List.reverse_cons, List.reverse_cons]
    exact (Reps.reverse q).append (.cons h .nil)
theorem Reps.cut {K r H} {xs : List PV} {vs : List V} (h : Reps K r H xs vs) (lo hi : Option Int) : Reps K r H (cutP xs lo hi) (cutV vs lo hi) := by
  unfold cutP cutV
  rw [h.length]
  exact (h.drop _).take _
theorem Reps.atI {K r H} {xs : List PV} {vs : List V} (h : Reps K r H xs vs) {i : Int} {x : PV} (e : L2.atI xs i = some x) : ∃ v, L2.atI vs i = some v ∧ Rep K r H x v := by
  unfold L2.atI at e ⊢
  rw [← h.length]
  cases q : ixN xs.length i with
  | none => rw [q] at e; cases e
  | some j => rw [q] at e; exact h.get e

def RepO (K : PySem.W.Frag) (r : Rg) (H : Hp) (a : Addr) : PO → Prop
  | .lst xs => ∃ vs, H a = some (.lst vs) ∧ Reps K r H xs vs
structure RepS (K : PySem.W.Frag) (r : Rg) (H : Hp) (st : Sto) : Prop where
  len : r.pl.length = st.length
  nd : r.pl.Nodup
  obj : ∀ (n : Nat) (a : Addr) (o : PO), r.pl[n]? = some a → st[n]? = some o → RepO K r H a o
  hid : ∀ a ∈ r.hid, a ∉ r.pl ∧ H a ≠ none
structure RepE (K : PySem.W.Frag) (r : Rg) (H : Hp) (s : Env) (σ : L2.St) : Prop where
  len : s.length = σ.length
  get : ∀ (i : Nat) (v : PV), s[i]? = some (some v) → ∃ u, σ[i]? = some (some u) ∧ Rep K r H v u
theorem RepE.carry {K r r' H H' s σ} (g : Carry r H r' H') (h : RepE K r H s σ) : RepE K r' H' s σ :=
  ⟨h.len, fun i v e => let ⟨u, a, b⟩ := h.get i v e; ⟨u, a, b.carry g⟩⟩
theorem RepE.grow {K r r' H H' s σ} (g : Grow r H r' H') (h : RepE K r H s σ) : RepE K r' H' s σ :=
  ⟨h.len, fun i v e => let ⟨u, a, b⟩ := h.get i v e; ⟨u, a, b.grow g⟩⟩
theorem RepE.set {K r H s σ} (h : RepE K r H s σ) (i : Nat) {v : PV} {u : V} (q : Rep K r H v u) : RepE K r H (s.set i (some v)) (σ.set i (some u)) := by
  refine ⟨by simp [h.len], fun j w e => ?_⟩
  by_cases hj : i = j
  · subst hj
    by_cases hl : i < s.length
    · rw [List.getElem?_set_self hl] at e
      cases e
      exact ⟨u, List.getElem?_set_self (by rw [← h.len]; exact hl), q⟩
    · rw [List.getElem?_eq_none (by simpa using hl)] at e; cases e
  · rw [List.getElem?_set_ne hj] at e
    obtain ⟨u', a, b⟩ := h.get j w e
    exact ⟨u', by rw [List.getElem?_set_ne hj]; exact a, b⟩
theorem RepE.unset {K r H s σ} (h : RepE K r H s σ) (i : Nat) (x : Option V) : RepE K r H (s.set i none) (σ.set i x) := by
  refine ⟨by simp [h.len], fun j w e => ?_⟩
  by_cases hj : i = j
  · subst hj
    by_cases hl : i < s.length
    · rw [List.getElem?_set_self hl] at e; cases e
    · rw [List.getElem?_eq_none (by simpa using hl)] at e; cases e
  · rw [List.getElem?_set_ne hj] at e
    obtain ⟨u', a, b⟩ := h.get j w e
    exact ⟨u', by rw [List.getElem?_set_ne hj]; exact a, b⟩
theorem RepE.wipe {K r H s σ} (h : RepE K r H s σ) : ∀ vs : List Nat, RepE K r H (wipeE s vs) (wipe σ vs)
  | [] => h
  | v :: vs => (RepE.wipe h vs).unset v none

/-- a new object that is not the store's -/
theorem RepS.mem {K} {r : Rg} {H st} (h : RepS K r H st) {a : Addr} (m : a ∈ r) : H a ≠ none := by
  rcases m with m | m
  · obtain ⟨n, e⟩ := List.mem_iff_getElem?.mp m
    have hl : n < st.length := by rw [← h.len]; exact (List.getElem?_eq_some_iff.mp e).1
    have q := h.obj n a _ e (List.getElem?_eq_getElem hl)
    cases o : st[n] with
    | lst xs =>
      rw [o] at q
      obtain ⟨vs, e2, _⟩ := q
      rw [e2]; simp
  · exact (h.hid a m).2
theorem RepS.notin {K} {r : Rg} {H st} (h : RepS K r H st) {p : Addr} (e : H p = none) : p ∉ r := fun m => h.mem m e
theorem Grow.fresh {K} {r : Rg} {H : Hp} {st} (hs : RepS K r H st) {p : Addr} {o : HO} (h : H p = none) : Grow r H r (upd H p o) := by
  refine ⟨⟨[], by simp, fun a m => by cases m⟩, rfl, fun a u e n => ?_, fun a m => upd_ne fun q => hs.notin h (.inr (q ▸ m)), fun a e => ?_⟩
  · rw [upd_ne (ne_of_none e h)]; exact e
  · by_cases q : a = p
    · subst q; exact absurd h e
    · rw [upd_ne q]; exact e
theorem RepO.carry {K r r' H H' a} {o : PO} (g : Carry r H r' H') (e : H' a = H a) (h : RepO K r H a o) : RepO K r' H' a o := by
  cases o with
  | lst xs =>
    obtain ⟨vs, e1, q⟩ := h
    exact ⟨vs, by rw [e]; exact e1, q.carry g⟩
theorem RepO.grow {K r r' H H' a} {o : PO} (g : Grow r H r' H') (e : H' a = H a) (h : RepO K r H a o) : RepO K r' H' a o := h.carry g.carry e
theorem RepS.fresh {K r H st} (h : RepS K r H st) {p : Addr} {o : HO} (e : H p = none) : RepS K r (upd H p o) st :=
  ⟨h.len, h.nd, fun n a u h1 h2 => (h.obj n a u h1 h2).grow (Grow.fresh h e) (upd_ne fun q => h.notin e (q ▸ .inl (List.mem_of_getElem? h1))), fun a m => ⟨(h.hid a m).1, (Grow.fresh h e).there a (h.hid a m).2⟩⟩
/-- a new object of the store -/
theorem Grow.store {K} {r : Rg} {H : Hp} {st} (hs : RepS K r H st) {p : Addr} {o : HO} (h : H p = none) : Grow r H (r.put p) (upd H p o) := by
  refine ⟨⟨[p], rfl, fun a m => by rw [List.mem_singleton.mp m]; exact h⟩, rfl, fun a u e n => ?_, fun a m => upd_ne fun q => hs.notin h (.inr (q ▸ m)), fun a e => ?_⟩
  · rw [upd_ne (ne_of_none e h)]; exact e
  · by_cases q : a = p
    · subst q; exact absurd h e
    · rw [upd_ne q]; exact e
theorem RepS.store {K r H st} (h : RepS K r H st) {p : Addr} {vs : List V} {xs : List PV} (e : H p = none) (q : Reps K r H xs vs) : RepS K (r.put p) (upd H p (.lst vs)) (st ++ [.lst xs]) := by
  have g : Grow r H (r.put p) (upd H p (.lst vs)) := Grow.store h e
  refine ⟨by simp [Rg.put, h.len], ?_, fun n a u h1 h2 => ?_, fun a m => ⟨fun z => ?_, g.there a (h.hid a m).2⟩⟩
  · show (r.pl ++ [p]).Nodup
    rw [List.nodup_append]
    exact ⟨h.nd, by simp, fun a m b m2 => by rw [List.mem_singleton.mp m2]; rintro rfl; exact h.notin e (.inl m)⟩
  · have h1 : (r.pl ++ [p])[n]? = some a := h1
    by_cases hl : n < r.pl.length
    · rw [List.getElem?_append_left hl] at h1
      rw [List.getElem?_append_left (by rw [← h.len]; exact hl)] at h2
      exact (h.obj n a u h1 h2).grow g (upd_ne fun z => h.notin e (z ▸ .inl (List.mem_of_getElem? h1)))
    · have hn : n = r.pl.length := by
        have := (List.getElem?_eq_some_iff.mp h1).1
        simp at this; omega
      subst hn
      rw [List.getElem?_append_right (Nat.le_refl _)] at h1
      rw [h.len, List.getElem?_append_right (Nat.le_refl _)] at h2
      simp at h1 h2
      subst h1 h2
      exact ⟨vs, upd_same, q.grow g⟩
  · rcases List.mem_append.mp (show a ∈ r.pl ++ [p] from z) with z | z
    · exact (h.hid a m).1 z
    · rw [List.mem_singleton.mp z] at m; exact h.notin e (.inr m)
/-- an object of the store is written -/
theorem Grow.write {K} {r : Rg} {H st} (h : RepS K r H st) {n : Nat} {a : Addr} {o : HO} (e : r.pl[n]? = some a) : Grow r H r (upd H a o) := by
  refine ⟨⟨[], by simp, fun a m => by cases m⟩, rfl, fun b u q nb => ?_, fun b m => upd_ne fun z => (h.hid b m).1 (by rw [z]; exact List.mem_of_getElem? e), fun b q => ?_⟩
  · rw [upd_ne (fun z => nb (by rw [z]; exact .inl (List.mem_of_getElem? e)))]; exact q
  · by_cases z : b = a
    · subst z; rw [upd_same]; simp
    · rw [upd_ne z]; exact q
theorem nodup_get {r : List Addr} (h : r.Nodup) {i j : Nat} {x : Addr} (a : r[i]? = some x) (b : r[j]? = some x) : i = j := by
  obtain ⟨h1, e1⟩ := List.getElem?_eq_some_iff.mp a
  obtain ⟨h2, e2⟩ := List.getElem?_eq_some_iff.mp b
  exact (List.getElem_inj h).mp (e1.trans e2.symm)
theorem RepS.write {K} {r : Rg} {H st} (h : RepS K r H st) {n : Nat} {a : Addr} {vs : List V} {xs : List PV} (e : r.pl[n]? = some a) (q : Reps K r H xs vs) : RepS K r (upd H a (.lst vs)) (st.set n (.lst xs)) := by
  have g : Grow r H r (upd H a (.lst vs)) := Grow.write h e
  refine ⟨by simp [h.len], h.nd, fun m b u h1 h2 => ?_, fun b m => ⟨(h.hid b m).1, g.there b (h.hid b m).2⟩⟩
  by_cases hm : n = m
  · subst hm
    rw [e] at h1; cases h1
    rw [List.getElem?_set_self (by rw [← h.len]; exact (List.getElem?_eq_some_iff.mp e).1)] at h2
    cases h2
    exact ⟨vs, upd_same, q.grow g⟩
  · rw [List.getElem?_set_ne hm] at h2
    exact (h.obj m b u h1 h2).grow g (upd_ne fun z => hm (nodup_get h.nd e (z ▸ h1)))

/-! ### an object out of sight -/
/-- the object is laid out of sight -/
theorem Carry.hide {K} {r : Rg} {H : Hp} {st} (hs : RepS K r H st) {p : Addr} {o : HO} (h : H p = none) : Carry r H (r.hide p) (upd H p o) :=
  ⟨fun a u e n => ⟨by rw [upd_ne (ne_of_none e h)]; exact e, fun m => m.elim (fun z => n (.inl z)) fun z => (List.mem_cons.mp z).elim (fun z => by rw [z, h] at e; cases e) fun z => n (.inr z)⟩, fun _ _ q => q⟩
theorem RepS.hide {K} {r : Rg} {H : Hp} {st} (hs : RepS K r H st) {p : Addr} {o : HO} (h : H p = none) : RepS K (r.hide p) (upd H p o) st := by
  refine ⟨hs.len, hs.nd, fun n a u h1 h2 => (hs.obj n a u h1 h2).carry (Carry.hide hs h) (upd_ne fun q => hs.notin h (q ▸ .inl (List.mem_of_getElem? h1))), fun a m => ?_⟩
  rcases List.mem_cons.mp m with z | z
  · subst z
    exact ⟨fun z => hs.notin h (.inl z), by rw [upd_same]; simp⟩
  · exact ⟨(hs.hid a z).1, by rw [upd_ne (show a ≠ p from fun q => hs.notin h (by rw [← q]; exact .inr z))]; exact (hs.hid a z).2⟩
/-- .. written there -/
theorem Carry.poke {r : Rg} {H : Hp} {p : Addr} {o : HO} (h : p ∈ r.hid) : Carry r H r (upd H p o) :=
  ⟨fun a u e n => ⟨by rw [upd_ne (show a ≠ p from fun q => n (by rw [q]; exact .inr h))]; exact e, n⟩, fun _ _ q => q⟩
theorem RepS.poke {K} {r : Rg} {H : Hp} {st} (hs : RepS K r H st) {p : Addr} {o : HO} (h : p ∈ r.hid) : RepS K r (upd H p o) st := by
  refine ⟨hs.len, hs.nd, fun n a u h1 h2 => (hs.obj n a u h1 h2).carry (Carry.poke h) (upd_ne fun q => (hs.hid p h).1 (q ▸ List.mem_of_getElem? h1)), fun a m => ⟨(hs.hid a m).1, ?_⟩⟩
  by_cases z : a = p
  · subst z; rw [upd_same]; simp
  · rw [upd_ne z]; exact (hs.hid a m).2
/-- .. and brought to sight -/
theorem Carry.show {r : Rg} {H : Hp} {h : List Addr} (hh : ∀ a ∈ h, a ∈ r.hid) : Carry r H (r.cut h) H :=
  ⟨fun a u e n => ⟨e, fun m => n (m.elim .inl fun z => .inr (hh a z))⟩, fun _ _ q => q⟩
theorem RepS.show {K} {r : Rg} {H : Hp} {st} (hs : RepS K r H st) {h : List Addr} (hh : ∀ a ∈ h, a ∈ r.hid) : RepS K (r.cut h) H st :=
  ⟨hs.len, hs.nd, fun n a u h1 h2 => (hs.obj n a u h1 h2).carry (Carry.show hh) rfl, fun a m => hs.hid a (hh a m)⟩
/-- a turn's growth, seen from ahead of the hidden object -/
theorem Grow.under {K} {r r1 r2 : Rg} {H H1 H2 : Hp} {st} (hs : RepS K r H st) {p : Addr} {o : HO} (h : H p = none) (g : Grow r H (r1.cut r.hid) H1) (e1 : r1.hid = p :: r.hid) (g2 : Grow r1 H1 r2 H2) : Grow r H (r2.cut r.hid) (upd H2 p o) := by
  obtain ⟨n1, f1, f2⟩ := g.ext
  obtain ⟨n2, f3, f4⟩ := g2.ext
  have f1 : r1.pl = r.pl ++ n1 := f1
  refine ⟨⟨n1 ++ n2, by show r2.pl = _; rw [f3, f1, List.append_assoc], fun a m => ?_⟩, rfl, fun a u e n => ?_, fun a m => ?_, fun a e => ?_⟩
  · rcases List.mem_append.mp m with m | m
    · exact f2 a m
    · cases q : H a with
      | none => rfl
      | some o => exact absurd (f4 a m) (g.there a (by rw [q]; simp))
  · have hp : a ≠ p := ne_of_none e h
    rw [upd_ne hp]
    refine g2.keep a u (g.keep a u e n) fun m => ?_
    rcases m with m | m
    · exact g.notin e n (.inl m)
    · rw [e1] at m
      exact (List.mem_cons.mp m).elim hp fun z => n (.inr z)
  · rw [upd_ne (show a ≠ p from fun q => hs.notin h (by rw [← q]; exact .inr m)), g2.same a (by rw [e1]; exact List.mem_cons_of_mem _ m), g.same a m]
  · by_cases q : a = p
    · subst q; rw [upd_same]; simp
    · rw [upd_ne q]; exact g2.there a (g.there a e)

/-- what seqOf tells, in the heap -/
theorem seqOf_rep {K r H st} {v : PV} {u : V} {b : Bool} {xs : List PV} (hs : RepS K r H st) (h : Rep K r H v u) (e : seqOf st v = some (b, xs)) :
    ∃ a vs, u = .ref a ∧ Reps K r H xs vs ∧ (if b = true then SqL K H a vs else SqT K H a vs) := by
  cases h with
  | tup i q => cases e; exact ⟨_, _, rfl, q, i.sq⟩
  | lst i q => cases e; exact ⟨_, _, rfl, q, i.sq⟩
  | loc i =>
    simp only [seqOf] at e
    split at e
    · rename_i ys h2
      cases e
      obtain ⟨vs, h3, h4⟩ := hs.obj _ _ _ i h2
      exact ⟨_, vs, rfl, h4, SqL.of h3⟩
    · cases e
  | _ => cases e

/-- .. with its object, for a list -/
theorem lstOf_rep {X : Cx} {pins : List (Addr × Obj)} {σ : L2.St} {H : Hp} {sh : Shared} {r : Rg} {st : Sto} {v : PV} {u : V} {xs : List PV} (I : Inv X pins σ H sh) (hs : RepS X.K r H st) (h : Rep X.K r H v u) (e : seqOf st v = some (true, xs)) :
    ∃ a vs its n, u = .ref a ∧ Reps X.K r H xs vs ∧ Vals vs its ∧ vs.length ≤ sizeLine ∧ sh.heap.get? a = some { cls := .type "list", data := .seq its.toArray n } := by
  cases h with
  | lst i q =>
    cases e
    obtain ⟨its, n, h1, h2, h3⟩ := i.obj I
    exact ⟨_, _, its, n, rfl, q, h1, h2, h3⟩
  | loc i =>
    simp only [seqOf] at e
    split at e
    · rename_i ys h2
      cases e
      obtain ⟨vs, h3, h4⟩ := hs.obj _ _ _ i h2
      obtain ⟨z, its, n, r1, r2, r3⟩ := I.lstM h3
      exact ⟨_, vs, its, n, rfl, h4, r1, z, r3⟩
    · cases e
  | _ => cases e

/-! ### exceptions by numbers -/
structure CT where
  val : Nat → Value
  flds : Nat → List Str
def RepX (C : CT) (K : PySem.W.Frag) (r : Rg) (H : Hp) (x : PX) (cls : Value) (d : Option Addr) : Prop :=
  cls = C.val x.cls ∧ (match d with
    | none => x.fs = []
    | some d => ∃ vs, H d = some (.xd ((C.flds x.cls).zip vs)) ∧ d ∉ r ∧ Reps K r H x.fs vs)

/-! ### the weakest readings -/
section
variable (X : Cx)
def wE (e : Expr) : TE := fun σ H Q => ∀ pins s, Inv X pins σ H s → wpAny (model X.prog X.w) X.A (eval e X.env) (EP X pins σ Q) X.xe s
def wT (e : Expr) : TT := fun σ H Q => ∀ pins s, Inv X pins σ H s → wpAny (model X.prog X.w) X.A (isTrue e X.env (eval e X.env)) (TP X pins σ Q) X.xe s
def wA (es : List Expr) : TA := fun σ H Q => ∀ pos pins s, Inv X pins σ H s → wpAny (model X.prog X.w) X.A (spliced (backTo pos (starEach es X.env))) (AP X pins σ Q) X.xe s
def wS (st : Stmt) : TS := fun D σ H => ∀ pins s, Inv X pins σ H s → wpAny (model X.prog X.w) X.A (exec st X.env) (SP X pins D) X.xe s
def wB (st : List Stmt) : TS := fun D σ H => ∀ pins s, Inv X pins σ H s → wpAny (model X.prog X.w) X.A (execs st X.env) (SP X pins D) X.xe s
def wG (tg : Expr) : TG := fun v σ H Q => ∀ pins s u, Inv X pins σ H s → RelV v u → wpAny (model X.prog X.w) X.A (assign tg X.env u) (fun _ s' => ∃ σ' H', Inv X pins σ' H' s' ∧ Q σ' H') X.xe s
def wI (tg it : Expr) : TI := fun σ H R => ∀ pins s, Inv X pins σ H s → wpAny (model X.prog X.w) X.A (eval it X.env) (fun v s1 => wpAny (model X.prog X.w) X.A (pyIter v) (PIE X pins σ tg R) X.xe s1) X.xe s
end
section
variable {X : Cx} {e : Expr} {σ : L2.St} {H : Hp}
theorem pe_w : PE X e (wE X e) := ⟨fun pins s _ _ _ I h => h pins s I⟩
theorem pt_w : PT X e (wT X e) := ⟨fun pins s _ _ _ I h => h pins s I⟩
theorem pa_w {es : List Expr} : PA X es (wA X es) := ⟨fun pos pins s _ _ _ I h => h pos pins s I⟩
theorem ps_w {st : Stmt} : PS X st (wS X st) := ⟨fun pins s _ _ _ I h => h pins s I⟩
theorem pss_w {st : List Stmt} : PSs X st (wB X st) := ⟨fun pins s _ _ _ I h => h pins s I⟩
theorem pg_w {tg : Expr} : PG X tg (wG X tg) := ⟨fun pins s _ _ _ u _ I r h => h pins s u I r⟩
theorem pi_w {tg it : Expr} : PI X tg it (wI X tg it) := ⟨fun pins s _ _ _ I h => h pins s I⟩
theorem w_pe {t : TE} (h : PE X e t) {Q : VK} (q : t σ H Q) : wE X e σ H Q := fun pins s I => h.run pins s σ H Q I q
theorem w_pt {t : TT} (h : PT X e t) {Q : Bool → Hp → Prop} (q : t σ H Q) : wT X e σ H Q := fun pins s I => h.run pins s σ H Q I q
theorem w_pa {es : List Expr} {t : TA} (h : PA X es t) {Q : List V → Hp → Prop} (q : t σ H Q) : wA X es σ H Q := fun pos pins s I => h.run pos pins s σ H Q I q
theorem w_ps {st : Stmt} {t : TS} (h : PS X st t) {D : Ends} (q : t D σ H) : wS X st D σ H := fun pins s I => h.run pins s σ H D I q
theorem w_pss {st : List Stmt} {t : TS} (h : PSs X st t) {D : Ends} (q : t D σ H) : wB X st D σ H := fun pins s I => h.run pins s σ H D I q
theorem w_pg {tg : Expr} {t : TG} (h : PG X tg t) {v : V} {Q : L2.St → Hp → Prop} (q : t v σ H Q) : wG X tg v σ H Q := fun pins s u I r => h.run pins s σ H v u Q I r q
theorem w_pi {tg it : Expr} {t : TI} (h : PI X tg it t) {R : It → Hp → Prop} (q : t σ H R) : wI X tg it σ H R := fun pins s I => h.run pins s σ H R I q
end

/-! ### what is asked behind a result -/
section
variable (C : CT) (K : PySem.W.Frag) (W : WX) (σ : L2.St) (r : Rg) (H : Hp)
def PostE (Q : VK) : PV → Sto → Prop := fun v st => ∀ r' H' u, Grow r H r' H' → RepS K r' H' st → Rep K r' H' v u → Q u H'
def PostL (Q : List V → Hp → Prop) : List PV → Sto → Prop := fun v st => ∀ r' H' u, Grow r H r' H' → RepS K r' H' st → Reps K r' H' v u → Q u H'
def PostT (Q : Bool → Hp → Prop) : Bool → Sto → Prop := fun b st => ∀ r' H', Grow r H r' H' → RepS K r' H' st → Q b H'
def PostX : PX → Sto → Prop := fun x st => ∀ r' H' cls d, Grow r H r' H' → RepS K r' H' st → RepX C K r' H' x cls d → W cls d σ H'
end
section
variable {C : CT} {K : PySem.W.Frag} {W : WX} {σ : L2.St} {r r1 : Rg} {H H1 : Hp}
theorem PostE.grow {Q : VK} {v st} (g : Grow r H r1 H1) (h : PostE K r H Q v st) : PostE K r1 H1 Q v st := fun r' H' u g2 => h r' H' u (g.trans g2)
theorem PostL.grow {Q : List V → Hp → Prop} {v st} (g : Grow r H r1 H1) (h : PostL K r H Q v st) : PostL K r1 H1 Q v st := fun r' H' u g2 => h r' H' u (g.trans g2)
theorem PostT.grow {Q : Bool → Hp → Prop} {v st} (g : Grow r H r1 H1) (h : PostT K r H Q v st) : PostT K r1 H1 Q v st := fun r' H' g2 => h r' H' (g.trans g2)
theorem PostX.grow {x st} (g : Grow r H r1 H1) (h : PostX C K W σ r H x st) : PostX C K W σ r1 H1 x st := fun r' H' cls d g2 => h r' H' cls d (g.trans g2)
end

/-! ### the judgements -/
def GoodE (C : CT) (X : Cx) (W : WX) (e : Expr) (f : Env → Sto → Res PV) : Prop :=
  ∀ r s σ st H, RepE X.K r H s σ → RepS X.K r H st → ∀ Q, (f s st).sat (PostE X.K r H Q) (PostX C X.K W σ r H) → wE X e σ H Q
def GoodT (C : CT) (X : Cx) (W : WX) (e : Expr) (f : Env → Sto → Res Bool) : Prop :=
  ∀ r s σ st H, RepE X.K r H s σ → RepS X.K r H st → ∀ Q, (f s st).sat (PostT X.K r H Q) (PostX C X.K W σ r H) → wT X e σ H Q
def GoodL (C : CT) (X : Cx) (W : WX) (es : List Expr) (f : Env → Sto → Res (List PV)) : Prop :=
  ∀ r s σ st H, RepE X.K r H s σ → RepS X.K r H st → ∀ Q, (f s st).sat (PostL X.K r H Q) (PostX C X.K W σ r H) → wA X es σ H Q

section
variable {C : CT} {X : Cx} {W : WX} {e : Expr}
/-- one expression, then the rest -/
theorem GoodE.use {f : Env → Sto → Res PV} (g : GoodE C X W e f) {r s σ st H} (he : RepE X.K r H s σ) (hs : RepS X.K r H st) {B : Type} {k : PV → Sto → Res B} {QB : Rg → Hp → B → Sto → Prop} {Q : VK}
    (h : ((f s st).bnd k).sat (QB r H) (PostX C X.K W σ r H)) (hQB : ∀ {r1 H1 b st1}, Grow r H r1 H1 → QB r H b st1 → QB r1 H1 b st1)
    (go : ∀ r1 H1 x u st1, Grow r H r1 H1 → RepE X.K r1 H1 s σ → RepS X.K r1 H1 st1 → Rep X.K r1 H1 x u → (k x st1).sat (QB r1 H1) (PostX C X.K W σ r1 H1) → Q u H1) : wE X e σ H Q := by
  refine g r s σ st H he hs Q (Res.sat_mono ((Res.sat_bnd _ _ _ _).mp h) (fun x st1 hx r1 H1 u g1 hs1 hu => ?_) fun _ _ q => q)
  exact go r1 H1 x u st1 g1 (he.grow g1) hs1 hu (Res.sat_mono hx (fun _ _ q => hQB g1 q) fun _ _ q => q.grow g1)
theorem GoodL.use {es : List Expr} {f : Env → Sto → Res (List PV)} (g : GoodL C X W es f) {r s σ st H} (he : RepE X.K r H s σ) (hs : RepS X.K r H st) {B : Type} {k : List PV → Sto → Res B} {QB : Rg → Hp → B → Sto → Prop} {Q : List V → Hp → Prop}
    (h : ((f s st).bnd k).sat (QB r H) (PostX C X.K W σ r H)) (hQB : ∀ {r1 H1 b st1}, Grow r H r1 H1 → QB r H b st1 → QB r1 H1 b st1)
    (go : ∀ r1 H1 x u st1, Grow r H r1 H1 → RepE X.K r1 H1 s σ → RepS X.K r1 H1 st1 → Reps X.K r1 H1 x u → (k x st1).sat (QB r1 H1) (PostX C X.K W σ r1 H1) → Q u H1) : wA X es σ H Q := by
  refine g r s σ st H he hs Q (Res.sat_mono ((Res.sat_bnd _ _ _ _).mp h) (fun x st1 hx r1 H1 u g1 hs1 hu => ?_) fun _ _ q => q)
  exact go r1 H1 x u st1 g1 (he.grow g1) hs1 hu (Res.sat_mono hx (fun _ _ q => hQB g1 q) fun _ _ q => q.grow g1)
theorem GoodT.use {f : Env → Sto → Res Bool} (g : GoodT C X W e f) {r s σ st H} (he : RepE X.K r H s σ) (hs : RepS X.K r H st) {B : Type} {k : Bool → Sto → Res B} {QB : Rg → Hp → B → Sto → Prop} {Q : Bool → Hp → Prop}
    (h : ((f s st).bnd k).sat (QB r H) (PostX C X.K W σ r H)) (hQB : ∀ {r1 H1 b st1}, Grow r H r1 H1 → QB r H b st1 → QB r1 H1 b st1)
    (go : ∀ r1 H1 x st1, Grow r H r1 H1 → RepE X.K r1 H1 s σ → RepS X.K r1 H1 st1 → (k x st1).sat (QB r1 H1) (PostX C X.K W σ r1 H1) → Q x H1) : wT X e σ H Q := by
  refine g r s σ st H he hs Q (Res.sat_mono ((Res.sat_bnd _ _ _ _).mp h) (fun x st1 hx r1 H1 g1 hs1 => ?_) fun _ _ q => q)
  exact go r1 H1 x st1 g1 (he.grow g1) hs1 (Res.sat_mono hx (fun _ _ q => hQB g1 q) fun _ _ q => q.grow g1)
end
end MP

/-! MP, part d: the operations by values. -/
namespace MP
open PySem PySem.Spec PyProof.Rows L2

section
variable {K : PySem.W.Frag} {r : Rg} {H : Hp} {Q : VK} {st : Sto}
theorem PostE.val {v : PV} {u : V} (q : PostE K r H Q v st) (hs : RepS K r H st) (h : Rep K r H v u) : Q u H := q r H u (Grow.refl r H) hs h
theorem PostE.tup {xs : List PV} {vs : List V} {p : Addr} (q : PostE K r H Q (.tup xs) st) (hs : RepS K r H st) (h : Reps K r H xs vs) (e : H p = none) : Q (.ref p) (upd H p (.tup vs)) :=
  q r _ _ (Grow.fresh hs e) (hs.fresh e) (.tup (.inl ⟨.inl upd_same, hs.notin e⟩) (h.grow (Grow.fresh hs e)))
theorem PostE.lst {xs : List PV} {vs : List V} {p : Addr} (q : PostE K r H Q (.lst xs) st) (hs : RepS K r H st) (h : Reps K r H xs vs) (e : H p = none) : Q (.ref p) (upd H p (.lst vs)) :=
  q r _ _ (Grow.fresh hs e) (hs.fresh e) (.lst (.inl ⟨.inl upd_same, hs.notin e⟩) (h.grow (Grow.fresh hs e)))
end

/-- a value without parts is as it is -/
theorem Rep.int_inv {K r H i u} (h : Rep K r H (.int i) u) : u = .int i := by cases h; rfl
theorem Rep.bl_inv {K r H i u} (h : Rep K r H (.bl i) u) : u = .bl i := by cases h; rfl
theorem Rep.str_inv {K r H i u} (h : Rep K r H (.str i) u) : u = .str ⟨i.toArray⟩ := by cases h; rfl
theorem Rep.non_inv {K r H u} (h : Rep K r H .non u) : u = .non := by cases h; rfl

theorem appStr (a b : List Nat) : (⟨a.toArray⟩ : Str) ++ (⟨b.toArray⟩ : Str) = ⟨(a ++ b).toArray⟩ := by
  show Str.mk (a.toArray ++ b.toArray) = _
  simp
theorem lenStr (a : List Nat) : (⟨a.toArray⟩ : Str).length = a.length := by simp [Str.length]

/-! ### data in the heap -/
mutual
theorem Rep.dp {K r H} : ∀ {v : PV} {u : V} {d : PyData}, Rep K r H v u → v.data = some d → Dp K H u d
  | _, _, _, .non, e => by simp [PV.data] at e; subst e; exact .non
  | _, _, _, .bl b, e => by simp [PV.data] at e; subst e; exact .bl b
  | _, _, _, .int i, e => by simp [PV.data] at e; subst e; exact .int i
  | _, _, _, .str s, e => by simp [PV.data] at e; subst e; exact .str _
  | _, _, _, .tup (xs := xs) h q, e => by
    simp only [PV.data, Option.map_eq_some_iff] at e
    obtain ⟨ds, e1, rfl⟩ := e
    exact .tup h.sq (Reps.dp q e1)
  | _, _, _, .lst (xs := xs) h q, e => by
    simp only [PV.data, Option.map_eq_some_iff] at e
    obtain ⟨ds, e1, rfl⟩ := e
    exact .lst h.sq (Reps.dp q e1)
  | _, _, _, .dct _ _ _, e => by simp [PV.data] at e
  | _, _, _, .loc _, e => by simp [PV.data] at e
theorem Reps.dp {K r H} : ∀ {v : List PV} {u : List V} {d : List PyData}, Reps K r H v u → PV.datas v = some d → DpAll K H u d
  | _, _, _, .nil, e => by simp [PV.datas] at e; subst e; exact .nil
  | _, _, _, .cons (x := x) (xs := xs) h q, e => by
    simp only [PV.datas] at e
    cases e1 : x.data with
    | none => rw [e1] at e; simp at e
    | some d =>
      cases e2 : PV.datas xs with
      | none => rw [e1, e2] at e; simp at e
      | some ds =>
        rw [e1, e2] at e
        simp at e
        subst e
        exact .cons (Rep.dp h e1) (Reps.dp q e2)
end
theorem dataAt_dp {K r H st} {v : PV} {u : V} {d : PyData} (hs : RepS K r H st) (h : Rep K r H v u) (e : dataAt st v = some d) : Dp K H u d := by
  cases h with
  | loc i =>
    simp only [dataAt, deref] at e
    split at e
    · rename_i ys h2
      obtain ⟨vs, h3, h4⟩ := hs.obj _ _ _ i h2
      simp only [Option.bind_some, PV.data, Option.map_eq_some_iff] at e
      obtain ⟨ds, e1, rfl⟩ := e
      exact .lst (SqL.of h3) (h4.dp e1)
    · cases e
  | non => exact Rep.dp (r := r) .non e
  | bl b => exact Rep.dp (r := r) (.bl b) e
  | int i => exact Rep.dp (r := r) (.int i) e
  | str s => exact Rep.dp (r := r) (.str s) e
  | tup a b => exact Rep.dp (.tup a b) e
  | lst a b => exact Rep.dp (.lst a b) e
  | dct a b d => exact Rep.dp (.dct a b d) e

/-! ### truth -/
theorem truP_rep {K r H st} {v : PV} {u : V} {b : Bool} (hs : RepS K r H st) (h : Rep K r H v u) (e : truP st v = some b) : TruV K u H b := by
  have sq : ∀ {v : PV} {u : V}, Rep K r H v u → (∃ p, u = V.ref p) → (seqOf st v).map (fun p => !p.2.isEmpty) = some b → TruV K u H b := fun {v u} h hu e => by
    obtain ⟨⟨k, xs⟩, e1, e2⟩ := Option.map_eq_some_iff.mp e
    obtain ⟨a, vs, rfl, hx, hq⟩ := seqOf_rep hs h e1
    have hb : b = !vs.isEmpty := by
      rw [← e2]
      show (!xs.isEmpty) = _
      cases hx <;> rfl
    cases k with
    | true => exact .inl ⟨vs, by simpa using hq, hb⟩
    | false => exact .inr (.inl ⟨vs, by simpa using hq, hb⟩)
  cases h with
  | non => simp [truP] at e; exact (show b = false from e)
  | bl b => simp [truP] at e; exact (show _ = _ from e.symm)
  | int i => simp only [truP, Option.some.injEq] at e; exact (show _ = _ from e.symm)
  | str s =>
    simp only [truP] at e
    split at e
    · rename_i hl
      have e' : (!s.isEmpty) = b := by simpa using e
      refine ⟨by rw [lenStr]; exact hl, ?_⟩
      rw [lenStr, ← e']
      cases s with
      | nil => rfl
      | cons c t => simp; omega
    · cases e
  | tup a b => exact sq (.tup a b) ⟨_, rfl⟩ e
  | lst a b => exact sq (.lst a b) ⟨_, rfl⟩ e
  | dct a b => simp [truP, seqOf] at e
  | loc a => exact sq (.loc a) ⟨_, rfl⟩ e

/-! ### two-place operators -/
def rBin (K : PySem.W.Frag) (f : PV → PV → Sto → Option PV) : R2 := fun x y H Q => ∃ r px py st v, RepS K r H st ∧ Rep K r H px x ∧ Rep K r H py y ∧ f px py st = some v ∧ PostE K r H Q v st
section
variable {X : Cx}
theorem iadd_any {pins : List (Addr × Obj)} {s : Shared} {σ : L2.St} {H : Hp} {x y : PV} {v u : Value} {Q : VK} {i j : Int} {r} {xv yv : V} (I : Inv X pins σ H s) (hx : Rep X.K r H x xv) (hy : Rep X.K r H y yv) (rx : RelV xv v) (ry : RelV yv u)
    (ei : asInt x = some i) (ej : asInt y = some j) (q : Q (.int (i + j)) H) : wpAny (model X.prog X.w) X.A (binaryOp .Add v u) (EP X pins σ Q) X.xe s := by
  cases hx with
  | int a =>
    cases ei
    obtain ⟨t, rfl⟩ := rx
    cases hy with
    | int b => cases ej; obtain ⟨t', rfl⟩ := ry; exact add_int ⟨.int _, H, I.tok _, ⟨_, rfl⟩, q⟩
    | bl b => cases ej; cases ry; exact add_int_bool ⟨.int _, H, I.tok _, ⟨_, rfl⟩, q⟩
    | _ => cases ej
  | bl a =>
    cases ei
    cases rx
    cases hy with
    | int b => cases ej; obtain ⟨t', rfl⟩ := ry; exact PySem.IntBool.add_bool_int ⟨.int _, H, I.tok _, ⟨_, rfl⟩, q⟩
    | bl b => cases ej; cases ry; exact add_bool ⟨.int _, H, I.tok _, ⟨_, rfl⟩, q⟩
    | _ => cases ej
  | _ => cases ei
theorem isub_any {pins : List (Addr × Obj)} {s : Shared} {σ : L2.St} {H : Hp} {x y : PV} {v u : Value} {Q : VK} {i j : Int} {r} {xv yv : V} (I : Inv X pins σ H s) (hx : Rep X.K r H x xv) (hy : Rep X.K r H y yv) (rx : RelV xv v) (ry : RelV yv u)
    (ei : asInt x = some i) (ej : asInt y = some j) (q : Q (.int (i - j)) H) : wpAny (model X.prog X.w) X.A (binaryOp .Sub v u) (EP X pins σ Q) X.xe s := by
  cases hx with
  | int a =>
    cases ei
    obtain ⟨t, rfl⟩ := rx
    cases hy with
    | int b => cases ej; obtain ⟨t', rfl⟩ := ry; exact sub_int ⟨.int _, H, I.tok _, ⟨_, rfl⟩, q⟩
    | bl b => cases ej; cases ry; exact PySem.IntBool.sub_int_bool ⟨.int _, H, I.tok _, ⟨_, rfl⟩, q⟩
    | _ => cases ej
  | bl a =>
    cases ei
    cases rx
    cases hy with
    | int b => cases ej; obtain ⟨t', rfl⟩ := ry; exact PySem.IntBool.sub_bool_int ⟨.int _, H, I.tok _, ⟨_, rfl⟩, q⟩
    | bl b => cases ej; cases ry; exact sub_bool ⟨.int _, H, I.tok _, ⟨_, rfl⟩, q⟩
    | _ => cases ej
  | _ => cases ei
/-- lists that are read, one behind the other -/
theorem cat_lists {pins : List (Addr × Obj)} {s : Shared} {σ : L2.St} {H : Hp} {a b : Addr} {xs zs : List V} {Q : VK} (I : Inv X pins σ H s) (ha : SqL X.K H a xs) (hb : SqL X.K H b zs) (hz : xs.length + zs.length ≤ sizeLine)
    (q : ∀ p, H p = none → Q (.ref p) (upd H p (.lst (xs ++ zs)))) : wpAny (model X.prog X.w) X.A (binaryOp .Add (.ref a) (.ref b)) (EP X pins σ Q) X.xe s := by
  obtain ⟨its, r, pl, h1⟩ := I.list ha
  obtain ⟨its2, r2, pl2, h2⟩ := I.list hb
  obtain ⟨o, n, e, c, dd, d⟩ := pl
  obtain ⟨o2, n2, e2, c2, dd2, d2⟩ := pl2
  obtain ⟨oc, od, dt, sl⟩ := o
  obtain ⟨oc2, od2, dt2, sl2⟩ := o2
  simp only at c dd d c2 dd2 d2
  subst c dd d c2 dd2 d2
  have l1 := r.length
  have l2 := r2.length
  refine concat_meets ⟨_, e, rfl⟩ ⟨_, e2, rfl⟩ noFill_list_add seq_list_add PySem.F.slot_list_add PySem.F.entry_list_add (PySem.F.args_list_add_2 _ _) (list_addW a b its.toArray its2.toArray n n2 none none sl sl2 (by rw [List.size_toArray, List.size_toArray]; omega)) ⟨e, e2, ?_⟩
  have ea : its.toArray ++ its2.toArray = (its ++ its2).toArray := by simp
  rw [ea]
  exact ⟨.ref _, _, I.lnew (t' := s.toks) (r.append r2) (by rw [List.length_append]; omega), rfl, q _ I.fresh⟩
theorem add_seqs {pins : List (Addr × Obj)} {s : Shared} {σ : L2.St} {H : Hp} {x y : PV} {v u : Value} {Q : VK} {r} {st : Sto} {xv yv : V} {b : Bool} {xs ys : List PV} (I : Inv X pins σ H s) (hs : RepS X.K r H st) (hx : Rep X.K r H x xv) (hy : Rep X.K r H y yv) (rx : RelV xv v) (ry : RelV yv u)
    (ex : seqOf st x = some (b, xs)) (ey : seqOf st y = some (b, ys)) (hz : xs.length + ys.length ≤ sizeLine) (q : PostE X.K r H Q (if b = true then .lst (xs ++ ys) else .tup (xs ++ ys)) st) :
    wpAny (model X.prog X.w) X.A (binaryOp .Add v u) (EP X pins σ Q) X.xe s := by
  obtain ⟨a, vs, rfl, hxs, hq⟩ := seqOf_rep hs hx ex
  obtain ⟨a2, vs2, rfl, hys, hq2⟩ := seqOf_rep hs hy ey
  cases rx
  cases ry
  have l1 := hxs.length
  have l2 := hys.length
  cases b with
  | true => exact cat_lists I (by simpa using hq) (by simpa using hq2) (by omega) fun p hp => PostE.lst (by simpa using q) hs (hxs.append hys) hp
  | false =>
    have hq : SqT X.K H a vs := by simpa using hq
    have hq2 : SqT X.K H a2 vs2 := by simpa using hq2
    have q : PostE X.K r H Q (.tup (xs ++ ys)) st := by simpa using q
    refine op_catA pins s σ H (.ref a) (.ref a2) _ _ Q I rfl rfl ⟨a, a2, vs, vs2, rfl, rfl, hq, hq2, by omega, fun e => ?_, fun _ e => ?_, fun _ _ p hp => q.tup hs (hxs.append hys) hp⟩
    · subst e
      cases hxs
      exact q.val hs (by
        cases hy with
        | tup i2 z => cases ey; exact .tup i2 z
        | lst i2 z => cases ey
        | loc i2 => simp only [seqOf] at ey; split at ey <;> cases ey
        | _ => cases ey)
    · subst e
      cases hys
      rw [List.append_nil] at q
      exact q.val hs (by
        cases hx with
        | tup i2 z => cases ex; exact .tup i2 z
        | lst i2 z => cases ex
        | loc i2 => simp only [seqOf] at ex; split at ex <;> cases ex
        | _ => cases ex)
theorem reps_flat {K r H} {xs : List PV} {vs : List V} (h : Reps K r H xs vs) : ∀ n, Reps K r H (List.replicate n xs).flatten (List.replicate n vs).flatten
  | 0 => .nil
  | n + 1 => by
    rw [List.replicate_succ, List.replicate_succ, List.flatten_cons, List.flatten_cons]
    exact h.append (reps_flat h n)
/-- a list, so many times -/
theorem rep_list {pins : List (Addr × Obj)} {s : Shared} {σ : L2.St} {H : Hp} {a : Addr} {vs : List V} {its : List Value} {n : Nat} {k : Int} {t : Tok} {Q : VK} (I : Inv X pins σ H s) (e : s.heap.get? a = some { cls := .type "list", data := .seq its.toArray n }) (rv : Vals vs its)
    (h0 : 0 ≤ k) (h1 : k ≤ 100000) (hz : vs.length * k.toNat ≤ sizeLine) (q : ∀ p, H p = none → Q (.ref p) (upd H p (.lst (List.replicate k.toNat vs).flatten))) : wpAny (model X.prog X.w) X.A (binaryOp .Mult (.ref a) (.int k t)) (EP X pins σ Q) X.xe s := by
  have zz := sizeLine_eq
  have lv := rv.length
  have sz : its.toArray.size * k.toNat ≤ sizeLine := by rw [List.size_toArray, ← lv]; exact hz
  have fits : ¬ (!Builtin.List.listFitsIndex k) = true := by rw [fitsIndex_both (by omega) (by omega)]; exact Bool.false_ne_true
  have long : ¬ Builtin.List.listTooLong (its.toArray.size * k.toNat) = true := by rw [notLongL sz]; exact Bool.false_ne_true
  have made : List.foldl (fun x1 x2 => x1 ++ x2) #[] (List.replicate (if its.toArray.isEmpty = true then 0 else k.toNat) its.toArray) = (List.replicate k.toNat its).flatten.toArray := by
    have f0 : ∀ m : Nat, List.foldl (fun x1 x2 => x1 ++ x2) #[] (List.replicate m its.toArray) = (List.replicate m its).flatten.toArray := fun m => by
      have := foldl_rep its m []
      rwa [List.nil_append] at this
    rw [f0]
    cases its <;> simp
  refine wpAny_binaryOp_repeat_ref (T := "list") (U := "int") (by decide) ⟨_, e, rfl⟩ (fun s' => typeIs_int s' k t) noFill_list_mul PySem.F.fills_int_mul PySem.F.slot_int_rmul repeat_list PySem.F.slot_int_index.lookup
    (call_meets PySem.F.slot_int_rmul (typeIs_int s k t) PySem.F.entry_int_rmul (PySem.F.args_int_rmul_2 _ _) (int___rmul___int_list k t a its.toArray n)
      ⟨e, rfl, ⟨_, e, rfl⟩, call_meets PySem.F.slot_list_mul ⟨_, e, rfl⟩ PySem.F.entry_list_mul (PySem.F.args_list_mul_2 _ _) (AutoListH.list___mul___list_int_3 a its.toArray n k t fits (by omega) long) ⟨e, ?_⟩⟩)
  rw [made]
  exact ⟨.ref _, _, I.lnew (t' := s.toks) (rv.rep k.toNat) (by rw [PyProof.Rows.lm_len_rep_flat, Nat.mul_comm]; exact hz), rfl, q _ I.fresh⟩
theorem mul_okP {z : List Nat} {k : Int} (h1 : 0 ≤ k) (h2 : k ≤ 100000) (h3 : z.length * k.toNat ≤ 1000000) : MulOk ⟨z.toArray⟩ k := by
  have hl : (⟨z.toArray⟩ : Str).length = z.length := lenStr z
  refine ⟨?_, fun h _ => ?_, fun h _ => ?_⟩
  · simp only [Bool.or_eq_false_iff, decide_eq_false_iff_not]; omega
  · rw [hl]
    have hp : 0 < k := by omega
    have hm : (z.length : Int) * k ≤ 1000000 := by
      have e : (k.toNat : Int) = k := Int.toNat_of_nonneg h1
      have h4 : ((z.length * k.toNat : Nat) : Int) ≤ ((1000000 : Nat) : Int) := Int.ofNat_le.mpr h3
      rw [Int.natCast_mul, e] at h4
      exact h4
    have : (z.length : Int) ≤ (2 ^ 63 - 1) / k := (Int.le_ediv_iff_mul_le hp).mpr (by omega)
    omega
  · rw [hl]
    exact decide_eq_false (by rw [sizeLine_eq]; omega)
theorem foldl_arr (z : List Nat) : ∀ (n : Nat) (acc : Array Nat), (List.replicate n z.toArray).foldl (· ++ ·) acc = (acc.toList ++ (List.replicate n z).flatten).toArray
  | 0, acc => by simp
  | n + 1, acc => by
    rw [List.replicate_succ, List.foldl_cons, foldl_arr z n]
    simp [List.replicate_succ]
theorem mul_txt {z : List Nat} {k : Int} (h1 : 0 ≤ k) : Txt.mul ⟨z.toArray⟩ k = ⟨(List.replicate k.toNat z).flatten.toArray⟩ := by
  have hl : (⟨z.toArray⟩ : Str).length = z.length := lenStr z
  unfold Txt.mul
  split
  · have : k.toNat = 0 := by omega
    rw [this]; rfl
  · split
    · rename_i h2 h3
      rw [Bool.or_eq_true, beq_iff_eq, beq_iff_eq, hl] at h3
      rcases h3 with h3 | h3
      · subst h3; simp
      · have : z = [] := List.length_eq_zero_iff.mp h3
        subst this; simp
    · rw [foldl_arr]; simp
theorem op_bin (op : Operator) : OpR X (binaryOp op) (rBin X.K (binP op)) := by
  intro pins s σ H x y v u Q I rx ry h
  obtain ⟨r, px, py, st, pv, hs, hx, hy, e, q⟩ := h
  cases op with
  | Add =>
    simp only [binP] at e
    split at e
    · rename_i i j ei ej
      cases e
      exact iadd_any I hx hy rx ry ei ej (q.val hs (.int _))
    · split at e
      · rename_i a b _
        split at e
        · rename_i hl
          cases e
          cases hx
          cases hy
          refine op_add_str pins s σ H _ _ v u Q I rx ry ⟨_, _, rfl, rfl, by rw [lenStr, lenStr]; exact hl, ?_⟩
          rw [appStr]
          exact q.val hs (.str _)
        · cases e
      · split at e
        · rename_i a b h1 h2
          split at e
          · rename_i hl; cases e; exact add_seqs (b := true) I hs hx hy rx ry h1 h2 hl (by simpa using q)
          · cases e
        · rename_i a b h1 h2
          split at e
          · rename_i hl; cases e; exact add_seqs (b := false) I hs hx hy rx ry h1 h2 hl (by simpa using q)
          · cases e
        · cases e
  | Sub =>
    simp only [binP] at e
    split at e
    · rename_i i j ei ej
      cases e
      exact isub_any I hx hy rx ry ei ej (q.val hs (.int _))
    · cases e
  | Mult =>
    simp only [binP] at e
    split at e
    · split at e
      · rename_i i j hl
        cases e; cases hx; cases hy
        rcases hl with hl | hl
        · exact op_mul pins s σ H _ _ v u Q I rx ry ⟨i, j, rfl, rfl, hl, q.val hs (.int _)⟩
        · obtain ⟨t, rfl⟩ := rx
          obtain ⟨t', rfl⟩ := ry
          refine PyProof.Rows.mul_int ⟨.int _, H, I.tok _, ⟨_, rfl⟩, q.val hs (.int _)⟩ ?_
          have b1 : Builtin.Int.intBits i ≤ 100000 := by unfold Builtin.Int.intBits; split <;> omega
          have b2 : Builtin.Int.intBits j ≤ 100000 := by unfold Builtin.Int.intBits; split <;> omega
          have b3 : Builtin.Int.intTooBig ((Builtin.Int.intBits i : Int) + (Builtin.Int.intBits j : Int)) = false := by
            unfold Builtin.Int.intTooBig
            have : (200000 : Int) ≤ bitsLine := by decide
            exact decide_eq_false (by omega)
          unfold IntMulOk
          rw [b3]; simp
      · cases e
    · split at e
      · rename_i z k hl
        cases e; cases hx; cases hy
        obtain ⟨t, rfl⟩ := rx
        obtain ⟨t', rfl⟩ := ry
        refine SB.mul (mul_okP hl.1 hl.2.1 hl.2.2) fun t2 k2 => ⟨.str _, H, I.tok k2, ⟨t2, rfl⟩, ?_⟩
        rw [mul_txt hl.1]
        exact q.val hs (.str _)
      · cases e
    · rename_i k _ _
      split at e
      · rename_i xs h1
        split at e
        · rename_i hl
          cases e
          cases hy
          obtain ⟨a, vs, its, n, rfl, hxs, rv, _, ho⟩ := lstOf_rep I hs hx h1
          cases rx
          obtain ⟨t, rfl⟩ := ry
          exact rep_list I ho rv hl.1 hl.2.1 (by rw [← hxs.length]; exact hl.2.2) fun p hp => PostE.lst q hs (reps_flat hxs _) hp
        · cases e
      · cases e
    · cases e
  | Mod =>
    simp only [binP] at e
    split at e
    · split at e
      · rename_i i j hl
        cases e; cases hx; cases hy
        exact op_mod pins s σ H _ _ v u Q I rx ry ⟨i, j, rfl, rfl, hl, q.val hs (.int _)⟩
      · cases e
    · cases e
  | FloorDiv =>
    simp only [binP] at e
    split at e
    · split at e
      · rename_i i j hl
        cases e; cases hx; cases hy
        exact op_fdivW pins s σ H _ _ v u Q I rx ry ⟨i, j, rfl, rfl, ⟨hl.1, by
          have h1 := hl.1
          have h2 := hl.2
          have h3 : (10 : Nat) ^ 1000 < 2 ^ 9000 := by decide +kernel
          have h4 : j.natAbs < 10 ^ 1000 := by
            have : ((10 : Nat) ^ 1000 : Nat) = ((10 : Int) ^ 1000) := by push_cast; rfl
            omega
          exact (Nat.log2_lt (by omega)).mpr (Nat.lt_trans h4 h3)⟩, q.val hs (.int _)⟩
      · cases e
    · cases e
  | Pow =>
    simp only [binP] at e
    split at e
    · split at e
      · rename_i i j hl
        cases e; cases hx; cases hy
        exact op_pow pins s σ H _ _ v u Q I rx ry ⟨i, j, rfl, rfl, hl, q.val hs (.int _)⟩
      · cases e
    · cases e
  | _ => cases e
end
end MP

/-! MP, part e: comparisons, one-place operators, items, slices. -/
namespace MP
open PySem PySem.Spec PyProof.Rows L2

def rCmp (K : PySem.W.Frag) (op : CmpOp) : R2 := fun x y H Q => ∃ r px py st b, RepS K r H st ∧ Rep K r H px x ∧ Rep K r H py y ∧ cmpP op px py st = some b ∧ PostE K r H Q (.bl b) st
section
variable {X : Cx}
theorem tup_of_seq {st : Sto} {v : PV} {xs : List PV} (e : seqOf st v = some (false, xs)) : v = .tup xs := by
  cases v with
  | tup ys => cases e; rfl
  | lst ys => cases e
  | loc n => simp only [seqOf] at e; split at e <;> cases e
  | _ => cases e
theorem okShaped {d : PyData} (h : okData d = true) : SeqAt.shaped d = true := h
/-- a tuple beside the empty one -/
theorem eq_empty {pins : List (Addr × Obj)} {s : Shared} {σ : L2.St} {H : Hp} {a b : Addr} {xs : List V} {Q : VK} (hr : Room 0 X.A) (I : Inv X pins σ H s) (ha : SqT X.K H a xs) (hb : SqT X.K H b []) (q : Q (.bl xs.isEmpty) H) :
    wpAny (model X.prog X.w) X.A (compareOp .Eq (.ref a) (.ref b)) (EP X pins σ Q) X.xe s := by
  obtain ⟨its, r1, p1, _⟩ := I.tuple ha
  obtain ⟨its2, r2, p2, _⟩ := I.tuple hb
  cases r2
  refine SeqAt.rcIn_tuples (e := fun _ => true) p1 p2 hr.units0 (fun j h1 h2 => absurd h2 (by simp)) ⟨.bl _, H, I, ?_, q⟩
  have e : xs.isEmpty = its.isEmpty := by cases r1 <;> rfl
  rw [e]
  cases its <;> rfl
theorem ne_empty {pins : List (Addr × Obj)} {s : Shared} {σ : L2.St} {H : Hp} {a b : Addr} {xs : List V} {Q : VK} (hr : Room 0 X.A) (I : Inv X pins σ H s) (ha : SqT X.K H a xs) (hb : SqT X.K H b []) (q : Q (.bl (!xs.isEmpty)) H) :
    wpAny (model X.prog X.w) X.A (compareOp .NotEq (.ref a) (.ref b)) (EP X pins σ Q) X.xe s := by
  obtain ⟨its, r1, p1, _⟩ := I.tuple ha
  obtain ⟨its2, r2, p2, _⟩ := I.tuple hb
  cases r2
  refine SeqAt.RcNeAt.tuples (e := fun _ => true) p1 p2 hr.units0 (fun j h1 h2 => absurd h2 (by simp)) _ _ _ _ ⟨.bl _, H, I, ?_, q⟩
  have e : xs.isEmpty = its.isEmpty := by cases r1 <;> rfl
  rw [e]
  cases its <;> rfl
theorem eq_emptyL {pins : List (Addr × Obj)} {s : Shared} {σ : L2.St} {H : Hp} {a b : Addr} {xs : List V} {Q : VK} (hr : Room 0 X.A) (I : Inv X pins σ H s) (ha : SqL X.K H a xs) (hb : SqL X.K H b []) (q : Q (.bl xs.isEmpty) H) :
    wpAny (model X.prog X.w) X.A (compareOp .Eq (.ref a) (.ref b)) (EP X pins σ Q) X.xe s := by
  obtain ⟨its, r1, p1, _⟩ := I.list ha
  obtain ⟨its2, r2, p2, _⟩ := I.list hb
  cases r2
  cases r1 with
  | nil => exact SeqAt.rcIn_lists (e := fun _ => true) p1.isList p2.isList rfl hr.units0 (fun j h1 h2 => absurd h2 (by simp)) ⟨.bl _, H, I, rfl, q⟩
  | cons h t => exact SeqAt.RcAt.lists_lengths p1.isList p2.isList (by simp) hr.units0 _ _ _ _ ⟨.bl _, H, I, rfl, q⟩
theorem ne_emptyL {pins : List (Addr × Obj)} {s : Shared} {σ : L2.St} {H : Hp} {a b : Addr} {xs : List V} {Q : VK} (hr : Room 0 X.A) (I : Inv X pins σ H s) (ha : SqL X.K H a xs) (hb : SqL X.K H b []) (q : Q (.bl (!xs.isEmpty)) H) :
    wpAny (model X.prog X.w) X.A (compareOp .NotEq (.ref a) (.ref b)) (EP X pins σ Q) X.xe s := by
  obtain ⟨its, r1, p1, _⟩ := I.list ha
  obtain ⟨its2, r2, p2, _⟩ := I.list hb
  cases r2
  cases r1 with
  | nil => exact SeqAt.RcNeAt.lists (e := fun _ => true) p1.isList p2.isList rfl hr.units0 (fun j h1 h2 => absurd h2 (by simp)) _ _ _ _ ⟨.bl _, H, I, rfl, q⟩
  | cons h t => exact SeqAt.RcNeAt.lists_lengths p1.isList p2.isList (by simp) hr.units0 _ _ _ _ ⟨.bl _, H, I, rfl, q⟩
theorem op_eqP {pins : List (Addr × Obj)} {s : Shared} {σ : L2.St} {H : Hp} {x y : V} {px py : PV} {v u : Value} {Q : VK} {r} {st : Sto} {b : Bool} (hr : Room 0 X.A) (I : Inv X pins σ H s) (hs : RepS X.K r H st) (hx : Rep X.K r H px x) (hy : Rep X.K r H py y) (rx : RelV x v) (ry : RelV y u)
    (e : eqP px py st = some b) : (Q (.bl b) H → wpAny (model X.prog X.w) X.A (compareOp .Eq v u) (EP X pins σ Q) X.xe s) ∧ (Q (.bl (!b)) H → wpAny (model X.prog X.w) X.A (compareOp .NotEq v u) (EP X pins σ Q) X.xe s) := by
  simp only [eqP] at e
  split at e
  · rename_i a b
    cases e
    cases hx
    cases hy
    have ee : decide (a = b) = decide (V.str (⟨a.toArray⟩ : Str) = V.str ⟨b.toArray⟩) := by
      rw [Bool.eq_iff_iff]; simp
    rw [ee]
    exact ⟨fun q => op_eq pins s σ H _ _ v u Q I rx ry ⟨rfl, q⟩, fun q => op_ne pins s σ H _ _ v u Q I rx ry ⟨rfl, q⟩⟩
  · split at e
    · rename_i xs h1 h2
      cases e
      obtain ⟨a, vs, rfl, hxs, hq⟩ := seqOf_rep hs hx h1
      obtain ⟨a2, vs2, rfl, hys, hq2⟩ := seqOf_rep hs hy h2
      cases hys
      cases rx
      cases ry
      have ee : xs.isEmpty = vs.isEmpty := by cases hxs <;> rfl
      rw [ee]
      exact ⟨fun q => eq_empty hr I (by simpa using hq) (by simpa using hq2) q, fun q => ne_empty hr I (by simpa using hq) (by simpa using hq2) q⟩
    · rename_i xs h1 h2
      cases e
      obtain ⟨a, vs, rfl, hxs, hq⟩ := seqOf_rep hs hx h1
      obtain ⟨a2, vs2, rfl, hys, hq2⟩ := seqOf_rep hs hy h2
      cases hys
      cases rx
      cases ry
      have ee : xs.isEmpty = vs.isEmpty := by cases hxs <;> rfl
      rw [ee]
      exact ⟨fun q => eq_emptyL hr I (by simpa using hq) (by simpa using hq2) q, fun q => ne_emptyL hr I (by simpa using hq) (by simpa using hq2) q⟩
    · split at e
      · rename_i d1 d2 h1 h2
        split at e
        · rename_i hk
          rw [Bool.and_eq_true] at hk
          cases e
          exact ⟨fun q => op_eqD hr.units pins s σ H x y v u Q I rx ry ⟨d1, d2, dataAt_dp hs hx h1, dataAt_dp hs hy h2, okShaped hk.1, okShaped hk.2, q⟩,
            fun q => op_neD hr.units pins s σ H x y v u Q I rx ry ⟨d1, d2, dataAt_dp hs hx h1, dataAt_dp hs hy h2, okShaped hk.1, okShaped hk.2, q⟩⟩
        · cases e
      · cases e
theorem room_in {k : Nat} {A : Around} (hr : Room k A) : A.units + 65 < cLine := by have := hr.un; omega
theorem op_inP {pins : List (Addr × Obj)} {s : Shared} {σ : L2.St} {H : Hp} {x y : V} {px py : PV} {v u : Value} {Q : VK} {r} {st : Sto} {b : Bool} (hr : Room 0 X.A) (I : Inv X pins σ H s) (hs : RepS X.K r H st) (hx : Rep X.K r H px x) (hy : Rep X.K r H py y) (rx : RelV x v) (ry : RelV y u)
    (e : cmpP.inP px py st = some b) : (Q (.bl b) H → wpAny (model X.prog X.w) X.A (compareOp .In v u) (EP X pins σ Q) X.xe s) ∧ (Q (.bl (!b)) H → wpAny (model X.prog X.w) X.A (compareOp .NotIn v u) (EP X pins σ Q) X.xe s) := by
  simp only [cmpP.inP] at e
  split at e
  · rename_i a c
    cases e
    cases hx
    cases hy
    have el : (⟨c.toArray⟩ : Str).length = c.length := lenStr c
    refine ⟨fun q => op_in_str pins s σ H _ _ v u Q I rx ry ⟨_, _, rfl, rfl, ?_⟩, fun q => op_notin_str pins s σ H _ _ v u Q I rx ry ⟨_, _, rfl, rfl, ?_⟩⟩
    · rw [el]; exact q
    · rw [el]; exact q
  · split at e
    · rename_i d k ys h1 h2
      split at e
      · rename_i ds h3
        split at e
        · rename_i hk
          rw [Bool.and_eq_true] at hk
          cases e
          obtain ⟨a, vs, rfl, hys, hq⟩ := seqOf_rep hs hy h2
          have hd := dataAt_dp hs hx h1
          have hall := hys.dp h3
          obtain ⟨as, r1⟩ := Dp.reads I d x v hd rx
          cases k with
          | true =>
            have hD : Dp X.K H (.ref a) (.list ds) := .lst (by simpa using hq) hall
            exact ⟨fun q => op_inD (room_in hr) pins s σ H _ _ v u Q I rx ry ⟨d, ds, hd, hD, okShaped hk.1, okShaped hk.2, q⟩,
              fun q => op_notInD (room_in hr) pins s σ H _ _ v u Q I rx ry ⟨d, ds, hd, hD, okShaped hk.1, okShaped hk.2, q⟩⟩
          | false =>
            have hD : Dp X.K H (.ref a) (.tuple ds) := .tup (by simpa using hq) hall
            obtain ⟨bs, r2⟩ := Dp.reads I (.tuple ds) _ u hD ry
            have sl : PyData.canLayAll0 ds = true := SeqAt.canLay_of_shaped (okShaped hk.2)
            have hroom : X.A.units + 1 + min (PyData.depthAll ds) d.depth < cLine := by
              have h1 := SeqAt.depth_of_shaped (okShaped hk.1)
              have := hr.un
              omega
            exact ⟨fun q => SeqAt.in_tuple_reads r2 r1 sl (SeqAt.canLay_of_shaped (okShaped hk.1)) hroom ⟨.bl _, H, I, rfl, q⟩,
              fun q => SeqAt.notIn_tuple_reads r2 r1 sl (SeqAt.canLay_of_shaped (okShaped hk.1)) hroom ⟨.bl _, H, I, rfl, q⟩⟩
        · cases e
      · cases e
    · cases e
theorem op_cmp (hr : Room 0 X.A) (op : CmpOp) : OpR X (compareOp op) (rCmp X.K op) := by
  intro pins s σ H x y v u Q I rx ry h
  obtain ⟨r, px, py, st, b, hs, hx, hy, e, q⟩ := h
  have q : Q (.bl b) H := q.val hs (.bl b)
  cases op with
  | Eq => exact (op_eqP hr I hs hx hy rx ry e).1 q
  | NotEq =>
    simp only [cmpP, Option.map_eq_some_iff] at e
    obtain ⟨b', e1, rfl⟩ := e
    exact (op_eqP hr I hs hx hy rx ry e1).2 q
  | Lt =>
    simp only [cmpP] at e
    split at e
    · cases e; cases hx; cases hy; exact op_lt pins s σ H _ _ v u Q I rx ry ⟨_, _, rfl, rfl, q⟩
    · cases e; cases hx; cases hy; exact op_lt_str pins s σ H _ _ v u Q I rx ry ⟨_, _, rfl, rfl, q⟩
    · split at e
      · rename_i d1 d2 h1 h2
        split at e
        · rename_i hk
          simp only [Bool.and_eq_true] at hk
          cases e
          obtain ⟨as, r1⟩ := Dp.reads I _ x v (dataAt_dp hs hx h1) rx
          obtain ⟨bs, r2⟩ := Dp.reads I _ y u (dataAt_dp hs hy h2) ry
          have hroom : X.A.units + min (PyData.tuple d1).depth (PyData.tuple d2).depth < cLine := by
            have h1 := SeqAt.depth_of_shaped (okShaped hk.1.1)
            have := hr.un
            omega
          exact PySem.W.rcLt_alike _ _ _ _ _ _ _ _ r1 r2 hk.2 (by simp) hroom _ _ _ _ ⟨.bl _, H, I, rfl, q⟩
        · cases e
      · cases e
  | LtE =>
    simp only [cmpP] at e
    split at e
    · cases e; cases hx; cases hy; exact op_le pins s σ H _ _ v u Q I rx ry ⟨_, _, rfl, rfl, q⟩
    · cases e; cases hx; cases hy
      obtain ⟨t, rfl⟩ := rx
      obtain ⟨t', rfl⟩ := ry
      exact PySem.P.le_str (fin_bl I q (by first | rw [decide_not] | simp))
    · cases e
  | Gt =>
    simp only [cmpP] at e
    split at e
    · cases e; cases hx; cases hy; exact op_gt pins s σ H _ _ v u Q I rx ry ⟨_, _, rfl, rfl, q⟩
    · cases e; cases hx; cases hy
      obtain ⟨t, rfl⟩ := rx
      obtain ⟨t', rfl⟩ := ry
      exact PySem.P.gt_str (fin_bl I q (by first | rw [decide_not] | simp))
    · cases e
  | GtE =>
    simp only [cmpP] at e
    split at e
    · cases e; cases hx; cases hy; exact op_ge pins s σ H _ _ v u Q I rx ry ⟨_, _, rfl, rfl, q⟩
    · cases e; cases hx; cases hy
      obtain ⟨t, rfl⟩ := rx
      obtain ⟨t', rfl⟩ := ry
      exact PySem.P.ge_str (fin_bl I q (by first | rw [decide_not] | simp))
    · cases e
  | Is =>
    simp only [cmpP] at e
    split at e
    · cases e; cases hy
      refine op_isN pins s σ H x _ v u Q I rx ry ⟨rfl, ?_⟩
      have ee : isNonB px = decide (x = V.non) := by cases hx <;> simp [isNonB]
      rw [← ee]; exact q
    · cases e
  | IsNot =>
    simp only [cmpP] at e
    split at e
    · cases e; cases hy
      refine op_notN pins s σ H x _ v u Q I rx ry ⟨rfl, ?_⟩
      have ee : isNonB px = decide (x = V.non) := by cases hx <;> simp [isNonB]
      rw [← ee]; exact q
    · cases e
  | In => exact (op_inP hr I hs hx hy rx ry e).1 q
  | NotIn =>
    simp only [cmpP, Option.map_eq_some_iff] at e
    obtain ⟨b', e1, rfl⟩ := e
    exact (op_inP hr I hs hx hy rx ry e1).2 q

/-! ### one place -/
def rUnP (K : PySem.W.Frag) (f : PV → Sto → Option PV) : V → Hp → VK → Prop := fun x H Q => ∃ r px st v, RepS K r H st ∧ Rep K r H px x ∧ f px st = some v ∧ PostE K r H Q v st
theorem gives_neg_bool (b : Bool) : Gives (Builtin.«int.__neg__» ⟨[.bool b], []⟩) (.int (-(if b = true then (1 : Int) else 0))) :=
  .of_wp fun M A E s Q h => by obtain ⟨hp, g, d, tk, os⟩ := s; wp_walk; exact ⟨_, rfl, h⟩
theorem neg_bool {prog : Program} {w : World} {A : Around} {E : Value → Shared → Prop} {s : Shared} {b : Bool} {Q : Value → Shared → Prop} (h : Q (.int (-(if b = true then (1 : Int) else 0)) s.toks) { s with toks := s.toks + 1 }) :
    wpAny (model prog w) A (unaryOp .USub (.bool b)) Q E s :=
  unaryOp_gives (op := .USub) (typeIs_bool' s b) rfl F.slot_bool_neg F.entry_int_neg (F.args_int_neg_1 _) (gives_neg_bool b) h
theorem un_negP : UnR X (unaryOp .USub) (rUnP X.K (unP .USub)) := by
  intro pins s σ H x v Q I rx h
  obtain ⟨r, px, st, pv, hs, hx, e, q⟩ := h
  simp only [unP, Option.map_eq_some_iff] at e
  obtain ⟨i, e1, rfl⟩ := e
  have q : Q (.int (-i)) H := q.val hs (.int _)
  cases hx with
  | int a => cases e1; exact un_neg pins s σ H _ v Q I rx ⟨_, rfl, q⟩
  | bl a => cases e1; cases rx; exact neg_bool ⟨.int _, H, I.tok _, ⟨_, rfl⟩, q⟩
  | _ => cases e1

/-! ### items and slices -/
theorem ix_P : IxR X (rBin X.K subP) := by
  intro value slice pins s σ H x y v u Q I rx ry h hsub
  obtain ⟨r, px, py, st, pv, hs, hx, hy, e, q⟩ := h
  simp only [subP] at e
  split at e
  · rename_i k
    cases hy
    split at e
    · rename_i z
      cases hx
      split at e
      · rename_i hl
        obtain ⟨c, e1, rfl⟩ := Option.map_eq_some_iff.mp e
        exact ix_str value slice pins s σ H _ _ v u Q I rx ry ⟨_, k, c, rfl, rfl, by rw [lenStr]; exact hl, by simpa using e1, q.val hs (.str [c])⟩ hsub
      · cases e
    · split at e
      · rename_i b xs h1
        obtain ⟨a, vs, rfl, hxs, hq⟩ := seqOf_rep hs hx h1
        obtain ⟨w, e2, hw⟩ := hxs.atI e
        cases b with
        | true => exact ix_list value slice pins s σ H _ _ v u Q I rx ry ⟨a, vs, k, w, rfl, rfl, by simpa using hq, e2, q.val hs hw⟩ hsub
        | false => exact ix_tup value slice pins s σ H _ _ v u Q I rx ry ⟨a, vs, k, w, rfl, rfl, by simpa using hq, e2, q.val hs hw⟩ hsub
      · cases e
  · cases e
def rSlP (K : PySem.W.Frag) : V → Option Int → Option Int → Hp → VK → Prop := fun x lo hi H Q => ∃ r px st v, RepS K r H st ∧ Rep K r H px x ∧ sliceP px lo hi st = some v ∧ PostE K r H Q v st
theorem cutWhole {A : Type} {xs : List A} {lo hi : Option Int} (h : HT.sIx xs.length 0 lo = 0 ∧ HT.sIx xs.length xs.length hi = xs.length) : cutP xs lo hi = xs := by
  unfold cutP
  rw [h.1, h.2, List.drop_zero, Nat.sub_zero, List.take_length]
theorem sl_P : SlR X (rSlP X.K) := by
  intro pins s σ H x v vl vu lo hi sl Q I rx hsl pl pu h
  obtain ⟨r, px, st, pv, hs, hx, e, q⟩ := h
  simp only [sliceP] at e
  split at e
  · rename_i z
    cases hx
    split at e
    · rename_i hl
      cases e
      refine sl_str pins s σ H _ v vl vu lo hi sl Q I rx hsl pl pu ⟨_, rfl, by rw [lenStr]; exact hl, ?_⟩
      have ee : cutS ⟨z.toArray⟩ lo hi = ⟨(cutP z lo hi).toArray⟩ := by
        unfold cutS cutP
        rw [lenStr]
      rw [ee]
      exact q.val hs (.str _)
    · cases e
  · split at e
    · rename_i xs h1
      cases e
      obtain ⟨a, vs, rfl, hxs, hq⟩ := seqOf_rep hs hx h1
      exact sl_list pins s σ H _ v vl vu lo hi sl Q I rx hsl pl pu ⟨a, vs, rfl, by simpa using hq, fun p hp => q.lst hs (hxs.cut lo hi) hp⟩
    · rename_i xs h1
      cases e
      have ev := tup_of_seq h1
      subst ev
      cases hx with
      | tup i hxs =>
        refine sl_tupA pins s σ H _ v vl vu lo hi sl Q I rx hsl pl pu ⟨_, _, rfl, i.sq, fun hw => ?_, fun hw p hp => q.tup hs (hxs.cut lo hi) hp⟩
        rw [← hxs.length] at hw
        rw [cutWhole hw] at q
        exact q.val hs (.tup i hxs)
    · cases e
end
end MP

/-! MP, part f: calls of built-ins, methods, isinstance, x[::-1]. -/
namespace MP
open PySem PySem.Spec PyProof.Rows L2
theorem foldl_max : ∀ (xs : List Int) (x : Int), (xs.foldl (fun a b => if a < b then b else a) x) ∈ x :: xs ∧ ∀ y ∈ x :: xs, y ≤ xs.foldl (fun a b => if a < b then b else a) x
  | [], x => by simp
  | z :: xs, x => by
    rw [List.foldl_cons]
    obtain ⟨h1, h2⟩ := foldl_max xs (if x < z then z else x)
    refine ⟨?_, fun y hy => ?_⟩
    · rcases List.mem_cons.mp h1 with e | e
      · rw [e]; split <;> simp
      · simp [e]
    · have h3 := h2 (if x < z then z else x) List.mem_cons_self
      rcases List.mem_cons.mp hy with rfl | hy
      · refine Int.le_trans ?_ h3; split <;> omega
      · rcases List.mem_cons.mp hy with rfl | hy
        · refine Int.le_trans ?_ h3; split <;> omega
        · exact h2 y (List.mem_cons_of_mem _ hy)
theorem foldl_min : ∀ (xs : List Int) (x : Int), (xs.foldl (fun a b => if b < a then b else a) x) ∈ x :: xs ∧ ∀ y ∈ x :: xs, xs.foldl (fun a b => if b < a then b else a) x ≤ y
  | [], x => by simp
  | z :: xs, x => by
    rw [List.foldl_cons]
    obtain ⟨h1, h2⟩ := foldl_min xs (if z < x then z else x)
    refine ⟨?_, fun y hy => ?_⟩
    · rcases List.mem_cons.mp h1 with e | e
      · rw [e]; split <;> simp
      · simp [e]
    · have h3 := h2 (if z < x then z else x) List.mem_cons_self
      rcases List.mem_cons.mp hy with rfl | hy
      · refine Int.le_trans h3 ?_; split <;> omega
      · rcases List.mem_cons.mp hy with rfl | hy
        · refine Int.le_trans h3 ?_; split <;> omega
        · exact h2 y (List.mem_cons_of_mem _ hy)
theorem maxI_uniq {is : List Int} {m m' : Int} (e : maxI is = some m) (h1 : m' ∈ is) (h2 : ∀ y ∈ is, y ≤ m') : m' = m := by
  cases is with
  | nil => cases e
  | cons x xs =>
    cases e
    obtain ⟨a, b⟩ := foldl_max xs x
    have := b m' h1
    have := h2 _ a
    omega
theorem minI_uniq {is : List Int} {m m' : Int} (e : minI is = some m) (h1 : m' ∈ is) (h2 : ∀ y ∈ is, m' ≤ y) : m' = m := by
  cases is with
  | nil => cases e
  | cons x xs =>
    cases e
    obtain ⟨a, b⟩ := foldl_min xs x
    have := b m' h1
    have := h2 _ a
    omega

/-- where code runs: nothing is handled, room for calls, no repr under way -/
structure Cxt (X : Cx) (W : WX) (k : Nat) : Prop where
  calm : X.calm = true
  room : Room k X.A
  grd : X.A.guards = some []
  nd : X.N.Nodup
  takes : Takes X W
  dig : X.base.NoDigits
theorem Cxt.r0 {X W k} (c : Cxt X W k) : Room 0 X.A := c.room.mono (Nat.zero_le _)

theorem bools_rep {K r H} : ∀ {xs : List PV} {vs : List V} {bs : List Bool}, Reps K r H xs vs → boolsOf xs = some bs → vs = bs.map V.bl
  | _, _, _, .nil, e => by cases e; rfl
  | _, _, _, .cons (x := x) h q, e => by
    cases h with
    | bl b =>
      obtain ⟨bs, e1, rfl⟩ := Option.map_eq_some_iff.mp (show (boolsOf _).map (b :: ·) = some _ from e)
      rw [List.map_cons, bools_rep q e1]
    | _ => cases e
theorem ints_rep {K r H} : ∀ {xs : List PV} {vs : List V} {bs : List Int}, Reps K r H xs vs → intsOf xs = some bs → vs = bs.map V.int
  | _, _, _, .nil, e => by cases e; rfl
  | _, _, _, .cons (x := x) h q, e => by
    cases h with
    | int b =>
      obtain ⟨bs, e1, rfl⟩ := Option.map_eq_some_iff.mp (show (intsOf _).map (b :: ·) = some _ from e)
      rw [List.map_cons, ints_rep q e1]
    | _ => cases e
theorem strs_rep {K r H} : ∀ {xs : List PV} {vs : List V} {bs : List (List Nat)}, Reps K r H xs vs → strsOf xs = some bs → vs = bs.map fun s => V.str ⟨s.toArray⟩
  | _, _, _, .nil, e => by cases e; rfl
  | _, _, _, .cons (x := x) h q, e => by
    cases h with
    | str b =>
      obtain ⟨bs, e1, rfl⟩ := Option.map_eq_some_iff.mp (show (strsOf _).map (b :: ·) = some _ from e)
      rw [List.map_cons, strs_rep q e1]
    | _ => cases e

/-- a built-in's name, and what the name holds -/
def BI.name : BI → String
  | .len => "len" | .abs => "abs" | .int => "int" | .str => "str" | .bool => "bool" | .list => "list" | .tuple => "tuple" | .all => "all" | .any => "any"
  | .sum => "sum" | .max => "max" | .min => "min" | .repr => "repr" | .sorted => "sorted" | .sortset => "sorted"
def BI.val : BI → Value
  | .int => .type "int" | .str => .type "str" | .bool => .type "bool" | .list => .type "list" | .tuple => .type "tuple"
  | b => .builtin b.name

def rBi (K : PySem.W.Frag) (b : BI) : List V → Hp → VK → Prop := fun xs H Q => ∃ r ps st v, RepS K r H st ∧ Reps K r H ps xs ∧ biP b ps st = some v ∧ PostE K r H Q v st
theorem Reps.one {K r H} {x : PV} {vs : List V} (h : Reps K r H [x] vs) : ∃ v, vs = [v] ∧ Rep K r H x v := by
  cases h with
  | cons a b => cases b; exact ⟨_, rfl, a⟩
section
variable {X : Cx} {W : WX} {k : Nat}
theorem lenV_rep {K r H st} {v : PV} {u : V} {b : Bool} {xs : List PV} (hs : RepS K r H st) (h : Rep K r H v u) (e : seqOf st v = some (b, xs)) : LenV K u H xs.length := by
  obtain ⟨a, vs, rfl, hx, hq⟩ := seqOf_rep hs h e
  rw [hx.length]
  cases b with
  | true => exact .inl ⟨vs, by simpa using hq, rfl⟩
  | false => exact .inr ⟨vs, by simpa using hq, rfl⟩
theorem strOfInt (i : Int) : (Str.ofString (toString i)) = ⟨((toString i).toList.map Char.toNat).toArray⟩ := Str.ofString_eq_toList _
theorem dp_as {pins : List (Addr × Obj)} {s : Shared} {σ : L2.St} {H : Hp} {d : PyData} {u : V} {v : Value} (I : Inv X pins σ H s) (h : Dp X.K H u d) (rv : RelV u v) (hd : isDisplay d = true) : ∃ a as, v = .ref a ∧ Reads s.heap (.ref a) d as := by
  obtain ⟨as, rr⟩ := Dp.reads I d u v h rv
  obtain ⟨a, rfl⟩ := isRef_of_reads rr hd
  exact ⟨a, as, rfl, rr⟩
theorem hasDict_dp {K H} : ∀ {d : PyData} {u : V}, Dp K H u d → d.hasDict = false := by
  have key : ∀ d : PyData, ∀ u : V, Dp K H u d → d.hasDict = false := by
    refine fun d => PyData.rec (motive_1 := fun d => ∀ u : V, Dp K H u d → d.hasDict = false) (motive_2 := fun ds => ∀ us, DpAll K H us ds → PyData.hasDictAll ds = false) (motive_3 := fun _ => True) (motive_4 := fun _ => True)
      ?_ ?_ ?_ ?_ ?_ ?_ ?_ ?_ ?_ trivial (fun _ _ _ _ => trivial) (fun _ _ _ _ => trivial) d
    · intro u h; simp [PyData.hasDict]
    · intro b u h; simp [PyData.hasDict]
    · intro b u h; simp [PyData.hasDict]
    · intro b u h; simp [PyData.hasDict]
    · intro xs ih u h
      cases h with
      | lst a b => simp only [PyData.hasDict]; exact ih _ b
    · intro xs ih u h
      cases h with
      | tup a b => simp only [PyData.hasDict]; exact ih _ b
    · intro xs _ u h; cases h
    · intro us h; simp [PyData.hasDictAll]
    · intro x xs i1 i2 us h
      cases h with
      | cons a b => simp only [PyData.hasDictAll, i1 _ a, i2 _ b, Bool.or_self]
  exact fun {d u} h => key d u h
theorem cps_str (x : Str) : (⟨x.cps.toList.toArray⟩ : Str) = x := by cases x; simp
theorem call_reprP (c : Cxt X W k) {pins : List (Addr × Obj)} {s : Shared} {σ : L2.St} {H : Hp} {d : PyData} {u : V} {v : Value} {Q : VK} (I : Inv X pins σ H s) (h : Dp X.K H u d) (rv : RelV u v) (h1 : d.showable = true) (h2 : d.depth ≤ 64) (h3 : d.shown.length ≤ sizeLine)
    (q : Q (.str d.shown) H) : wpAny (model X.prog X.w) X.A (call (.builtin "repr") [v]) (EP X pins σ Q) X.xe s := by
  have hun := c.room.un
  cases h with
  | non => cases rv; exact PySem.P.repr_of_none ⟨.str _, H, I.tok _, ⟨_, rfl⟩, q⟩
  | bl b => cases rv; exact PySem.P.repr_of_bool ⟨.str _, H, I.tok _, ⟨_, rfl⟩, q⟩
  | int i =>
    obtain ⟨t, rfl⟩ := rv
    exact PySem.P.repr_of_int (by simpa [PyData.showable] using h1) ⟨.str _, H, I.tok _, ⟨_, rfl⟩, q⟩
  | str x =>
    obtain ⟨t, rfl⟩ := rv
    exact PySem.P.repr_of_str ⟨.str _, H, I.tok _, ⟨_, rfl⟩, q⟩ h3
  | lst a b =>
    obtain ⟨a', as, rfl, rr⟩ := dp_as I (.lst a b) rv rfl
    exact repr_of_reads' rr h1 (PyData.noDict_hsm (hasDict_dp (.lst a b))) c.grd (by omega) (fun _ _ e => e) (fun h' t tk hk => ⟨.str _, H, I.kept hk, ⟨_, rfl⟩, q⟩) h3
  | tup a b =>
    obtain ⟨a', as, rfl, rr⟩ := dp_as I (.tup a b) rv rfl
    exact repr_of_reads' rr h1 (PyData.noDict_hsm (hasDict_dp (.tup a b))) c.grd (by omega) (fun _ _ e => e) (fun h' t tk hk => ⟨.str _, H, I.kept hk, ⟨_, rfl⟩, q⟩) h3
theorem call_bi (c : Cxt X W k) (b : BI) (hb : b ≠ .sortset) : CallR X b.val (rBi X.K b) := by
  intro pins s σ H xs us Q I rs h
  obtain ⟨r, ps, st, pv, hs, hps, e, q⟩ := h
  unfold biP at e
  split at e
  · -- len of a text
    rename_i z
    split at e
    · rename_i hl
      cases e
      obtain ⟨v, rfl, hv⟩ := hps.one
      cases hv
      exact call_len pins s σ H _ us Q I rs ⟨_, z.length, rfl, ⟨by rw [lenStr]; exact hl, (lenStr z).symm⟩, q.val hs (.int _)⟩
    · cases e
  · rename_i w hw
    obtain ⟨⟨k', ys⟩, e1, rfl⟩ := Option.map_eq_some_iff.mp e
    obtain ⟨v, rfl, hv⟩ := hps.one
    exact call_len pins s σ H _ us Q I rs ⟨_, _, rfl, lenV_rep hs hv e1, q.val hs (.int _)⟩
  · cases e
    obtain ⟨v, rfl, hv⟩ := hps.one
    cases hv
    exact call_abs pins s σ H _ us Q I rs ⟨_, rfl, q.val hs (.int _)⟩
  · cases e
    obtain ⟨v, rfl, hv⟩ := hps.one
    cases hv
    exact call_int1 pins s σ H _ us Q I rs (.inl ⟨_, rfl, q.val hs (.int _)⟩)
  · cases e
    obtain ⟨v, rfl, hv⟩ := hps.one
    cases hv
    exact call_int1 pins s σ H _ us Q I rs (.inr ⟨_, rfl, q.val hs (.int _)⟩)
  · rename_i i
    split at e
    · rename_i hl
      cases e
      obtain ⟨v, rfl, hv⟩ := hps.one
      cases hv
      obtain ⟨u, rfl, t, rfl⟩ := vals1 rs
      refine PyProof.Rows.str_of_int_or (I.ok.hd c.calm) (c.dig.keeps I.bk) (fun _ => ⟨.str _, H, I.tok _, ⟨_, rfl⟩, ?_⟩) fun hge => absurd (Nat.lt_of_lt_of_le (PyProof.Rows.lt_of_log2 hl) PyProof.Rows.pow_lo) (by omega)
      rw [strOfInt]
      exact q.val hs (.str _)
    · cases e
  · rename_i b
    cases e
    obtain ⟨v, rfl, hv⟩ := hps.one
    cases hv
    obtain ⟨u, rfl, rx⟩ := vals1 rs
    cases rx
    refine PySem.P.str_of_bool ⟨.str _, H, I.tok _, ⟨_, rfl⟩, ?_⟩
    have q := q.val hs (.str _)
    cases b <;> exact q
  · cases e
    obtain ⟨v, rfl, hv⟩ := hps.one
    cases hv
    obtain ⟨u, rfl, t, rfl⟩ := vals1 rs
    exact PySem.P.str_of_str ⟨.str _, H, I, ⟨t, rfl⟩, q.val hs (.str _)⟩
  · obtain ⟨⟨k', ys⟩, e1, rfl⟩ := Option.map_eq_some_iff.mp e
    obtain ⟨v, rfl, hv⟩ := hps.one
    obtain ⟨a, vs, rfl, hx, hq⟩ := seqOf_rep hs hv e1
    refine call_list_of pins s σ H _ us Q I rs ⟨a, vs, rfl, ?_, fun l hl => q.lst hs hx hl⟩
    cases k' with
    | true => exact .inl (by simpa using hq)
    | false => exact .inr (by simpa using hq)
  · obtain ⟨⟨k', ys⟩, e1, rfl⟩ := Option.map_eq_some_iff.mp e
    obtain ⟨v, rfl, hv⟩ := hps.one
    cases k' with
    | true =>
      obtain ⟨a, vs, rfl, hx, hq⟩ := seqOf_rep hs hv e1
      exact call_tuple_of pins s σ H _ us Q I rs ⟨a, vs, rfl, .inl ⟨by simpa using hq, fun l hl => q.tup hs hx hl⟩⟩
    | false =>
      have := tup_of_seq e1
      subst this
      cases hv with
      | tup i hx => exact call_tuple_of pins s σ H _ us Q I rs ⟨_, _, rfl, .inr ⟨i.sq, q.val hs (.tup i hx)⟩⟩
  · obtain ⟨⟨k', ys⟩, e1, e2⟩ := Option.bind_eq_some_iff.mp e
    obtain ⟨v, rfl, hv⟩ := hps.one
    cases k' with
    | true =>
      obtain ⟨bs, e3, rfl⟩ := Option.map_eq_some_iff.mp (show (boolsOf ys).map _ = some pv from by simpa using e2)
      obtain ⟨a, vs, rfl, hx, hq⟩ := seqOf_rep hs hv e1
      have hv2 := bools_rep hx e3
      subst hv2
      exact cr_all c.calm pins s σ H _ us Q I rs ⟨a, bs, rfl, by simpa using hq, q.val hs (.bl _)⟩
    | false => simp at e2
  · obtain ⟨⟨k', ys⟩, e1, e2⟩ := Option.bind_eq_some_iff.mp e
    obtain ⟨v, rfl, hv⟩ := hps.one
    cases k' with
    | true =>
      obtain ⟨bs, e3, rfl⟩ := Option.map_eq_some_iff.mp (show (boolsOf ys).map _ = some pv from by simpa using e2)
      obtain ⟨a, vs, rfl, hx, hq⟩ := seqOf_rep hs hv e1
      have hv2 := bools_rep hx e3
      subst hv2
      exact cr_any c.calm pins s σ H _ us Q I rs ⟨a, bs, rfl, by simpa using hq, q.val hs (.bl _)⟩
    | false => simp at e2
  · obtain ⟨d, e1, e2⟩ := Option.bind_eq_some_iff.mp e
    obtain ⟨v, rfl, hv⟩ := hps.one
    split at e2
    · rename_i hk
      cases e2
      rw [Bool.and_eq_true, Bool.and_eq_true, decide_eq_true_eq, decide_eq_true_eq] at hk
      obtain ⟨u, rfl, rx⟩ := vals1 rs
      refine call_reprP c I (dataAt_dp hs hv e1) rx hk.1.1 hk.1.2 hk.2 ?_
      have q := q.val hs (.str _)
      rw [cps_str] at q
      exact q
    · cases e2
  · obtain ⟨⟨k', ys⟩, e1, e2⟩ := Option.bind_eq_some_iff.mp e
    obtain ⟨v, rfl, hv⟩ := hps.one
    cases k' with
    | true =>
      obtain ⟨is, e3, rfl⟩ := Option.map_eq_some_iff.mp (show (intsOf ys).map _ = some pv from by simpa using e2)
      obtain ⟨a, vs, rfl, hx, hq⟩ := seqOf_rep hs hv e1
      have hv2 := ints_rep hx e3
      subst hv2
      exact cr_sum c.calm pins s σ H _ us Q I rs ⟨a, is, rfl, by simpa using hq, q.val hs (.int _)⟩
    | false => simp at e2
  · obtain ⟨⟨k', ys⟩, e1, e2⟩ := Option.bind_eq_some_iff.mp e
    obtain ⟨v, rfl, hv⟩ := hps.one
    cases k' with
    | true =>
      obtain ⟨is, e3, e4⟩ := Option.bind_eq_some_iff.mp (show (intsOf ys).bind _ = some pv from by simpa using e2)
      obtain ⟨m, e5, rfl⟩ := Option.map_eq_some_iff.mp e4
      obtain ⟨a, vs, rfl, hx, hq⟩ := seqOf_rep hs hv e1
      have hv2 := ints_rep hx e3
      subst hv2
      have hne : 0 < is.length := by cases is with | nil => cases e5 | cons _ _ => simp
      refine cr_max c.calm pins s σ H _ us Q I rs ⟨a, is, rfl, by simpa using hq, hne, fun m' hm hy => ?_⟩
      rw [maxI_uniq e5 hm hy]
      exact q.val hs (.int _)
    | false => simp at e2
  · obtain ⟨⟨k', ys⟩, e1, e2⟩ := Option.bind_eq_some_iff.mp e
    obtain ⟨v, rfl, hv⟩ := hps.one
    cases k' with
    | true =>
      obtain ⟨is, e3, e4⟩ := Option.bind_eq_some_iff.mp (show (intsOf ys).bind _ = some pv from by simpa using e2)
      obtain ⟨m, e5, rfl⟩ := Option.map_eq_some_iff.mp e4
      obtain ⟨a, vs, rfl, hx, hq⟩ := seqOf_rep hs hv e1
      have hv2 := ints_rep hx e3
      subst hv2
      have hne : 0 < is.length := by cases is with | nil => cases e5 | cons _ _ => simp
      refine cr_min c.calm pins s σ H _ us Q I rs ⟨a, is, rfl, by simpa using hq, hne, fun m' hm hy => ?_⟩
      rw [minI_uniq e5 hm hy]
      exact q.val hs (.int _)
    | false => simp at e2
  · cases e
    cases hps with
    | cons h1 t => cases t with
      | cons h2 t2 => cases t2; cases h1; cases h2; exact call_min2 c.calm pins s σ H _ us Q I rs ⟨_, _, rfl, q.val hs (.int _)⟩
  · cases e
    cases hps with
    | cons h1 t => cases t with
      | cons h2 t2 => cases t2; cases h1; cases h2; exact call_max2 c.calm pins s σ H _ us Q I rs ⟨_, _, rfl, q.val hs (.int _)⟩
  · exact absurd rfl hb
  · cases e
end
end MP

/-! MP, part g: isinstance, methods, x[::-1] by values; the check of a text against its places-free form. -/
namespace MP
open PySem PySem.Spec PyProof.Rows L2

def TY.name : TY → String
  | .int => "int" | .bool => "bool" | .str => "str" | .tuple => "tuple" | .list => "list" | .dict => "dict"
def tyName (v : PV) (st : Sto) : String := match v with
  | .non => "NoneType"
  | .bl _ => "bool"
  | .int _ => "int"
  | .str _ => "str"
  | .tup _ => "tuple"
  | .lst _ => "list"
  | .dct _ => "dict"
  | .loc _ => "list"
section
variable {X : Cx} {W : WX} {k : Nat}
theorem tyX_rep {K r H st} {v : PV} {u : V} {t : TY} {b : Bool} (hs : RepS K r H st) (h : Rep K r H v u) (e : isiP t v st = some b) : TyX K H u (.type (tyName v st)) := by
  cases h with
  | non => exact .base .non
  | bl b => exact .base (.bl b)
  | int i => exact .base (.int i)
  | str s => exact .base (.str _)
  | tup i q =>
    rcases i with ⟨i | ⟨o, i⟩, _⟩ | ⟨o, _, _, i, c, _⟩
    · exact .base (.tup i)
    · exact .fTuple i
    · exact .kTuple i c
  | lst i q =>
    rcases i with ⟨i | ⟨o, i⟩, _⟩ | ⟨its, n, i, _⟩
    · exact .base (.lst i)
    · exact .base (.frz i)
    · exact .kList i rfl
  | dct _ i _ =>
    rcases i with i | ⟨o, i⟩
    · exact .base (.dK i)
    · exact .fDict i
  | loc i =>
    simp only [isiP] at e
    split at e
    · rename_i xs h2
      obtain ⟨vs, h3, _⟩ := hs.obj _ _ _ i h2
      exact .base (.lst h3)
    · cases e
theorem kitN (t : TY) : kitB "NoneType" t.name = some false := by cases t <;> decide +kernel
theorem kitL (t : TY) : kitB "list" t.name = some (t == .list) := by cases t <;> decide +kernel
theorem kitT (t : TY) : kitB "tuple" t.name = some (t == .tuple) := by cases t <;> decide +kernel
theorem kitD (t : TY) : kitB "dict" t.name = some (t == .dict) := by cases t <;> decide +kernel
theorem kitS (t : TY) : kitB "str" t.name = some (t == .str) := by cases t <;> decide +kernel
theorem kitI (t : TY) : kitB "int" t.name = some (t == .int) := by cases t <;> decide +kernel
theorem kitBl (t : TY) : kitB "bool" t.name = some (t == .int || t == .bool) := by cases t <;> decide +kernel
theorem kit_P (K : PySem.W.Frag) {v : PV} {st : Sto} {t : TY} {b : Bool} (e : isiP t v st = some b) : PySem.W.kitOne K (.type (tyName v st)) (.type t.name) = some b := by
  cases v with
  | loc n =>
    simp only [isiP] at e
    split at e
    · cases e; exact kit_ty (kitL t)
    · cases e
  | non => cases e; exact kit_ty (kitN t)
  | bl _ => cases e; exact kit_ty (kitBl t)
  | int _ => cases e; exact kit_ty (kitI t)
  | str _ => cases e; exact kit_ty (kitS t)
  | tup _ => cases e; exact kit_ty (kitT t)
  | lst _ => cases e; exact kit_ty (kitL t)
  | dct _ => cases e; exact kit_ty (kitD t)
theorem call_isiP (t : TY) : CallR X (.builtin "isinstance") (fun xs H Q => ∃ r p st x b, xs = [x, .ty t.name] ∧ RepS X.K r H st ∧ Rep X.K r H p x ∧ isiP t p st = some b ∧ PostE X.K r H Q (.bl b) st) := by
  intro pins s σ H xs us Q I rs h
  obtain ⟨r, p, st, x, b, rfl, hs, hp, e, q⟩ := h
  exact call_isi pins s σ H _ us Q I rs ⟨x, .ty t.name, _, _, b, rfl, .ty _, tyX_rep hs hp e, kit_P X.K e, q.val hs (.bl b)⟩

/-! ### x[::-1] -/
theorem slicePart_rev {prog : Program} {w : World} {A : Around} {E : Value → Shared → Prop} {s : Shared} {sl : Addr} {u : Tok} {n : Nat} {Q : Int × Int × Nat → Shared → Prop} (hs : s.heap.IsSliceOf sl .none .none (.int (-1) u))
    (h : Q ((n : Int) - 1, -1, n) s) : wpAny (model prog w) A (Builtin.Slice.sliceApplied (.ref sl) (pure (n : Int))) Q E s := by
  obtain ⟨os, hos, hcs, hds⟩ := id hs
  unfold Builtin.Slice.sliceApplied Builtin.Slice.sliceFields
  refine wpAny_bind (wpAny_bind (wpAny_field hos hds (x := .none) rfl (wpAny_bind (wpAny_field hos hds (x := .none) rfl (wpAny_bind (wpAny_field hos hds (x := .int (-1) u) rfl (wpAny_pure ?_)))))))
  refine wpAny_bind (HT.slicePart_ (.int (-1) u) ?_)
  show wpAny _ _ (if ((-1 : Int) == 0) = true then _ else _) _ _ s
  rw [if_neg (by decide)]
  refine wpAny_bind (HT.slicePart_ .none (wpAny_bind (HT.slicePart_ .none (wpAny_bind (wpAny_pure ?_)))))
  show wpAny _ _ (match Builtin.Slice.sliceAdjust none none (-1) (n : Int) with | (lo, hi) => pure (lo, (-1 : Int), Builtin.Slice.slicePlaces lo hi (-1))) _ _ s
  have e1 : Builtin.Slice.sliceAdjust none none (-1) (n : Int) = ((n : Int) - 1, -1) := by
    unfold Builtin.Slice.sliceAdjust
    simp
  have e2 : Builtin.Slice.slicePlaces ((n : Int) - 1) (-1) (-1) = n := by
    unfold Builtin.Slice.slicePlaces
    simp
    try omega
  rw [e1]
  show wpAny _ _ (pure ((n : Int) - 1, (-1 : Int), Builtin.Slice.slicePlaces ((n : Int) - 1) (-1) (-1))) _ _ s
  rw [e2]
  exact wpAny_pure h
theorem pick_rev (xs : Array Value) : ((List.range xs.size).filterMap fun (m : Nat) => xs[(((xs.size : Int) - 1) + (m : Int) * (-1)).toNat]?).toArray = xs.toList.reverse.toArray := by
  have e : (fun (m : Nat) => xs[(((xs.size : Int) - 1) + (m : Int) * (-1)).toNat]?) = (fun x => xs[x]?) ∘ (fun m => xs.size - 1 - m) := by
    funext m
    have : (((xs.size : Int) - 1) + (m : Int) * (-1)).toNat = xs.size - 1 - m := by omega
    show xs[_]? = xs[_]?
    rw [this]
  rw [e, ← List.filterMap_map, PySem.W.krv_range, List.filterMap_reverse, PySem.W.krv_all]
theorem getItem_tuple_rev {prog : Program} {w : World} {A : Around} {E : Value → Shared → Prop} {s : Shared} {t sl : Addr} {items : Array Value} {u : Tok} {Q : Value → Shared → Prop} (ht : IsTup s.heap t items) (hs : s.heap.IsSliceOf sl .none .none (.int (-1) u))
    (h : Q (.ref s.heap.objs.size) { s with heap := s.heap.push { cls := .type "tuple", data := .seq items.toList.reverse.toArray } })
    (hsz : items.size ≤ sizeLine) : wpAny (model prog w) A (getItem (.ref t) (.ref sl)) Q E s := by
  have htake : sizeOk (.seq items.toList.reverse.toArray) := by
    show items.toList.reverse.toArray.size ≤ sizeLine
    simpa using hsz
  obtain ⟨os, hos, hcs, hds⟩ := id hs
  have hTs : s.TypeIs (.ref sl) "slice" := ⟨os, hos, hcs⟩
  unfold getItem
  try with_reducible refine wpAny_holding ?_
  first | refine wpAny_bind (wpAny_pure ?_) | skip
  refine wpAny_bind (wpAny_sequenceKey ht.typeIs (by decide) ?_)
  refine wpAny_bind (wpAny_callSpecial?_slot (name := Str.ofString "__getitem__") ht.typeIs PyProof.Rows.slot_tuple_getitem
    (wpAny_call_entry PyProof.Rows.slot_tuple_getitem ht.typeIs entry_tuple_getitem ?_ (args_tuple_getitem _ _)))
  show wpAny _ _ (Builtin.Tuple.tupleItemsOf (.ref t) >>= _) _ _ s
  refine wpAny_bind (tupleItemsOf_ ht ?_)
  refine wpAny_bind (wpAny_typeOf hTs ?_)
  rw [if_pos (by decide)]
  refine wpAny_bind (slicePart_rev hs ?_)
  show wpAny _ _ (if (((items.size : Int) - 1) == 0 && (-1 : Int) == 1 && items.size == items.size) = true then _ else _) _ _ s
  rw [if_neg (by simp), pick_rev]
  first
    | exact wpAny_bind (m := Builtin.Tuple.tupleExact _) (wpAny_newObj_type (wpAny_pure ⟨_, rfl, wpAny_pure h⟩) htake)
    | exact wpAny_bind (m := Builtin.Tuple.tupleExact _) (wpAny_newObj_type (wpAny_bind (wpAny_pure (wpAny_pure ⟨_, rfl, wpAny_pure h⟩))) htake)
    | exact wpAny_bind (wpAny_bind (m := Builtin.Tuple.tupleExact _) (wpAny_newObj_type (wpAny_pure (wpAny_pure ⟨_, rfl, wpAny_pure h⟩)) htake))
    | exact wpAny_bind (wpAny_bind (m := Builtin.Tuple.tupleExact _) (wpAny_newObj_type (wpAny_pure ⟨_, rfl, wpAny_pure h⟩) htake))
theorem str_rev_ix (n : Nat) : Builtin.Str.strSliceIndices none none (-1) n = (List.range n).reverse := by
  unfold Builtin.Str.strSliceIndices
  show sliceRange ((n : Int) - 1) (-1) (-1) = _
  rw [PySem.W.krv_sliceRange, PySem.W.krv_range]
def tRevP (K : PySem.W.Frag) (te : TE) : TE := fun σ H Q => te σ H fun x H1 => rUnP K revP x H1 Q
end
end MP

/-! MP, part h: x[::-1] in the text; the check of a text against its places-free form; what a text needs. -/
namespace MP
open PySem PySem.Spec PyProof.Rows L2
section
variable {X : Cx}
theorem pe_rev {e : Expr} {te : TE} {k : Nat} {p1 p2 p3 pos : Pos} (he : PE X e te) : PE X (.Subscript e (.Slice none none (some (.UnaryOp .USub (.Constant (.int 1) k p1) p2)) p3) pos) (tRevP X.K te) := by
  refine ⟨fun pins s σ H Q I h => ?_⟩
  refine Subscript_ (thn (he.run pins s σ H _ I h) fun v s1 ⟨x, H1, I1, r1, q1⟩ => ?_)
  have hst : L2.PO X (some (.UnaryOp .USub (.Constant (.int 1) k p1) p2)) (tPart (tUn (rU fun i => .int (-i)) (tC (.int 1)))) := po_some (pe_un un_neg pe_int)
  refine wpAny_Slice (thn (po_none.run pins s1 σ H1 (fun o H2 => o = none ∧ H2 = H1) I1 ⟨rfl, rfl⟩) fun vl s2 ⟨l, H2, I2, pl, el, e2⟩ => ?_)
  subst el e2
  refine thn (po_none.run pins s2 σ H2 (fun o H3 => o = none ∧ H3 = H2) I2 ⟨rfl, rfl⟩) fun vu s3 ⟨u, H3, I3, pu, eu, e3⟩ => ?_
  subst eu e3
  refine thn (hst.run pins s3 σ H3 (fun o H4 => o = some (-1) ∧ H4 = H3) I3 ⟨1, rfl, -1, rfl, rfl, rfl⟩) fun vs s4 ⟨o, H4, I4, ps, eo, e4⟩ => ?_
  subst eo e4
  have I5 : Inv X pins σ H4 { s4 with heap := s4.heap.push { cls := .type "slice", data := .fields #[vl, vu, vs] } } := I4.kept (t' := s4.toks) fun b ob q => Heap.get?_push_of_some _ q
  show wpAny (model X.prog X.w) X.A (subscriptTail e (.Slice none none (some (.UnaryOp .USub (.Constant (.int 1) k p1) p2)) p3) v (.ref s4.heap.objs.size)) (EP X pins σ Q) X.xe { s4 with heap := s4.heap.push { cls := .type "slice", data := .fields #[vl, vu, vs] } }
  have hsl := Heap.IsSliceOf.new s4.heap vl vu vs
  obtain ⟨r, px, st, pv, hs, hx, e, q⟩ := q1
  simp only [revP] at e
  cases pl
  cases pu
  cases ps with
  | int _ tk =>
  split at e
  · rename_i z
    cases hx
    split at e
    · rename_i hl
      cases e
      obtain ⟨t, rfl⟩ := r1
      refine tail_any (ops := [.str _ t, .ref s4.heap.objs.size]) (typeIs_str _ _ _) slot_str_getitem.lookup ?_ (by with_unfolding_all rfl)
      refine wpAny_getItem_str_slice (l := none) (u := none) (st := some (-1, tk)) hsl rfl ?_
      have ee : (⟨((Builtin.Str.strSliceIndices none none (-1) (⟨z.toArray⟩ : Str).length).filterMap ((⟨z.toArray⟩ : Str).cps[·]?)).toArray⟩ : Str) = ⟨z.reverse.toArray⟩ := by
        rw [str_rev_ix, List.filterMap_reverse]
        have := PySem.W.krv_all (⟨z.toArray⟩ : Str).cps
        show Str.mk ((List.filterMap _ (List.range (⟨z.toArray⟩ : Str).cps.size)).reverse).toArray = _
        rw [this]
      have q := q.val hs (.str z.reverse)
      rw [← ee] at q
      show Made.post (if ((-1 : Int) == 1 && _) = true then _ else Made.str ⟨((Builtin.Str.strSliceIndices none none (-1) (⟨z.toArray⟩ : Str).length).filterMap ((⟨z.toArray⟩ : Str).cps[·]?)).toArray⟩) (EP X pins σ Q) _
      rw [if_neg (by simp)]
      exact ⟨by rw [ee, lenStr]; simpa using hl, .str _, H4, I5.tok _, ⟨_, rfl⟩, q⟩
    · cases e
  · split at e
    · rename_i xs h1
      cases e
      obtain ⟨a, ws, rfl, hxs, hq⟩ := seqOf_rep hs hx h1
      have hq : SqL X.K H4 a ws := by simpa using hq
      cases r1
      obtain ⟨its, rr, ht, hz⟩ := I5.list hq
      have hlen := rr.length
      refine tail_any (ops := [.ref a, .ref s4.heap.objs.size]) ht.isList.typeIs (PySem.slot_list_getitem.lookup) ?_ (by with_unfolding_all rfl)
      refine wpAny_getItem_list_slice ht.isList hsl .none .none (.int (-1) tk) (by decide) ?_ (by rw [List.size_toArray]; omega)
      rw [PySem.W.krv_pick]
      refine ⟨.ref _, _, I5.laid (t' := s4.toks) (o := .lst ws.reverse) (fun b ob q => Heap.get?_push_of_some _ q) (Nat.le_refl _) ?_, rfl, q.lst hs hxs.reverse (I5.hok.fresh (Nat.le_refl _))⟩
      exact ⟨by rw [List.length_reverse]; exact hz, _, 0, rr.reverse, Heap.get?_push_size _ rfl⟩
    · rename_i xs h1
      cases e
      obtain ⟨a, ws, rfl, hxs, hq⟩ := seqOf_rep hs hx h1
      have hq : SqT X.K H4 a ws := by simpa using hq
      cases r1
      obtain ⟨its, rr, ht, hz⟩ := I5.tuple hq
      have hlen := rr.length
      refine tail_any (ops := [.ref a, .ref s4.heap.objs.size]) ht.typeIs (PyProof.Rows.slot_tuple_getitem.lookup) ?_ (by with_unfolding_all rfl)
      refine getItem_tuple_rev ht hsl ?_ (by rw [List.size_toArray]; omega)
      refine ⟨.ref _, _, I5.laid (t' := s4.toks) (o := .tup ws.reverse) (fun b ob q => Heap.get?_push_of_some _ q) (Nat.le_refl _) ?_, rfl, q.tup hs hxs.reverse (I5.hok.fresh (Nat.le_refl _))⟩
      exact ⟨by rw [List.length_reverse]; exact hz, _, by simpa using rr.reverse, ⟨_, Heap.get?_push_size _ rfl, rfl, 0, rfl⟩⟩
    · cases e
end

/-! ### the check -/
structure KC where
  N : List Str
  nm : Nat → String
def visB (sc : Scope) (x : Str) : Bool := (match sc.names.lookup x with | some .local => true | some .cell => true | some .free => true | _ => false) && !(x == ("__debug__" : Str)) && !(x == ("__classdict__" : Str))
def glB (sc : Scope) (x : Str) : Bool := (match sc.names.lookup x with | some .globalImplicit => true | _ => false) && !(x == ("__debug__" : Str)) && decide (x ≠ "__name__")
/-- a name that may be stored -/
def locB (sc : Scope) (fn : Str → Bool) (x : Str) : Bool := match sc.names.lookup x with
  | some .local => true
  | some .cell => fn x
  | _ => false
def isSet : Expr → Bool
  | .Set _ _ _ => true
  | _ => false
def isCall0 : Expr → Bool
  | .Call _ [] _ _ => true
  | _ => false
def ownPairs (N : List Str) (own : List Nat) : List (Str × Nat) := own.map fun i => (N.getD i "", i)

def chkT (c : KC) (sc : Scope) (fn : Str → Bool) : RT → Expr → Bool
  | .name i, .Name x _ => decide (c.N[i]? = some x) && locB sc fn x
  | .pair a b, .Tuple [x, y] _ _ => chkT c sc fn a x && chkT c sc fn b y
  | .trip a b d, .Tuple [x, y, z] _ _ => chkT c sc fn a x && chkT c sc fn b y && chkT c sc fn d z
  | _, _ => false
def isTupE : Expr → Bool
  | .Tuple _ _ _ => true
  | _ => false
def needTup : RI → Bool
  | .enum _ => true
  | .zip _ _ => true
  | _ => false

def isCons : RL → Bool
  | .cons _ _ => true
  | _ => false
/-- a checked expression is none of the odd forms -/
def okForm : Expr → Bool
  | .Starred _ _ => false
  | .Slice _ _ _ _ => false
  | .Set _ _ _ => false
  | .SetComp _ _ _ _ => false
  | .DictComp _ _ _ _ _ => false
  | _ => true
/-- the frame of a comprehension of two fors -/
def chkC2 (c : KC) (sc : Scope) (fn : Str → Bool) (scope : Scope) (t t1 : RT) (own own1 : List Nat) (tg tg1 : Expr) : Bool :=
  blkC c.N sc scope (ownPairs c.N own) && (slotsT t).all (fun i => own.contains i) && (slotsT t1).all (fun i => own1.contains i) && own1.all (fun i => own.contains i) &&
    chkT c (relS scope sc) (fun x => scope.names.lookup x == some .cell) t tg && chkT c (relS scope sc) (fun x => scope.names.lookup x == some .cell) t1 tg1
/-- a display of texts -/
def chkKv : List (List Nat × PV) → List (Option Expr) → List Expr → Bool
  | [], [], [] => true
  | (k, .str v) :: kvs, some (.Constant (.str a) _ _) :: ks, .Constant (.str b) _ _ :: vs => decide (a = ⟨k.toArray⟩) && decide (b = ⟨v.toArray⟩) && chkKv kvs ks vs
  | (k, .int v) :: kvs, some (.Constant (.str a) _ _) :: ks, .Constant (.int b) _ _ :: vs => decide (a = ⟨k.toArray⟩) && decide (b = v) && chkKv kvs ks vs
  | _, _, _ => false
mutual
def chkE (c : KC) (sc : Scope) (fn : Str → Bool) : RE → Expr → Bool
  | .var i, .Name x _ => decide (c.N[i]? = some x) && visB sc x
  | .cst v, .Constant k _ _ => match v, k with
    | .non, .none => true
    | .bl b, .bool b' => b == b'
    | .int i, .int j => i == j
    | .str s, .str x => decide (x = ⟨s.toArray⟩)
    | _, _ => false
  | .glo g _, .Name x _ => decide (x = Str.ofString g) && glB sc x
  | .bin op a b, .BinOp x op' y _ => decide (op = op') && chkE c sc fn a x && chkE c sc fn b y
  | .un op a, .UnaryOp op' x _ => decide (op = op') && (match op with | .USub => true | .Not => true | _ => false) && chkE c sc fn a x
  | .and a b, .BoolOp .And (x :: y :: rest) p => chkE c sc fn a x && (match rest with | [] => chkE c sc fn b y | _ => chkE c sc fn b (.BoolOp .And (y :: rest) p))
  | .or a b, .BoolOp .Or (x :: y :: rest) p => chkE c sc fn a x && (match rest with | [] => chkE c sc fn b y | _ => chkE c sc fn b (.BoolOp .Or (y :: rest) p))
  | .cmp op a b, .Compare x [op'] [y] _ => decide (op = op') && chkE c sc fn a x && chkE c sc fn b y
  | .chn o1 o2 a b d, .Compare x [p1, p2] [y, z] _ => decide (o1 = p1) && decide (o2 = p2) && chkE c sc fn a x && chkE c sc fn b y && chkE c sc fn d z
  | .ifx t a b, .IfExp x y z _ => chkE c sc fn t x && chkE c sc fn a y && chkE c sc fn b z
  | .sub a i, .Subscript x y _ => chkE c sc fn a x && chkE c sc fn i y
  | .slc a lo hi, .Subscript x (.Slice l h none _) _ => chkE c sc fn a x && chkO c sc fn lo l && chkO c sc fn hi h
  | .rev a, .Subscript x (.Slice none none (some (.UnaryOp .USub (.Constant (.int 1) _ _) _)) _) _ => chkE c sc fn a x
  | .slcN a lo hi, .Subscript x (.Slice l h none _) _ => chkE c sc fn a x && chkO c sc fn lo l && chkO c sc fn hi h
  | .tup es, .Tuple xs _ _ => chkL c sc fn es xs
  | .lst es, .List xs _ => chkL c sc fn es xs
  | .new es, .List xs _ => chkL c sc fn es xs
  | .dct, .Dict [] [] _ => true
  | .dlit kvs, .Dict ks vs _ => decide (kvs ≠ []) && decide (kvs.length ≤ 15) && decide ((kvs.map (·.1)).Nodup) && chkKv kvs ks vs
  | .call f es, .Call (.Name x _) xs [] _ => decide (x = Str.ofString (c.nm f)) && glB sc x && plainL es && chkL c sc fn es xs
  | .calld f es _, .Call (.Name x _) xs [] _ => decide (x = Str.ofString (c.nm f)) && glB sc x && plainL es && isCons es && chkL c sc fn es xs
  | .bi b es, .Call (.Name x _) xs [] _ => match b with
    | .sortset => false
    | b => decide (x = Str.ofString b.name) && glB sc x && plainL es && isCons es && chkL c sc fn es xs
  | .mth m o es, .Call (.Attribute x nm ap) xs [] cp => match m with
    | .append => decide (nm = "append") && (ap.endLine == cp.line) && !isCall0 x && chkE c sc fn o x && (match es with | .cons _ .nil => true | _ => false) && chkL c sc fn es xs
    | .index => decide (nm = "index") && (ap.endLine == cp.line) && !isCall0 x && chkE c sc fn o x && (match es with | .cons _ .nil => true | _ => false) && chkL c sc fn es xs
    | .pop => decide (nm = "pop") && (ap.endLine == cp.line) && !isCall0 x && chkE c sc fn o x && (match es with | .cons _ .nil => true | _ => false) && chkL c sc fn es xs
    | .join => decide (nm = "join") && (ap.endLine == cp.line) && !isCall0 x && chkE c sc fn o x && (match es with | .cons _ .nil => true | _ => false) && chkL c sc fn es xs
    | .find => decide (nm = "find") && (ap.endLine == cp.line) && !isCall0 x && chkE c sc fn o x && (match es with | .cons _ .nil => true | _ => false) && chkL c sc fn es xs
    | .rstrip => decide (nm = "rstrip") && (ap.endLine == cp.line) && !isCall0 x && chkE c sc fn o x && (match es with | .cons _ .nil => true | _ => false) && chkL c sc fn es xs
    | .get => decide (nm = "get") && (ap.endLine == cp.line) && !isCall0 x && chkE c sc fn o x && (match es with | .cons _ (.cons _ .nil) => true | _ => false) && plainL es && chkL c sc fn es xs
    | .extend => decide (nm = "extend") && (ap.endLine == cp.line) && !isCall0 x && chkE c sc fn o x && (match es with | .cons _ .nil => true | _ => false) && chkL c sc fn es xs
    | .upper => decide (nm = "upper") && (ap.endLine == cp.line) && !isCall0 x && chkE c sc fn o x && (match es with | .nil => true | _ => false) && chkL c sc fn es xs
  | .isi e t, .Call (.Name x _) [y, .Name z _] [] _ => decide (x = "isinstance") && glB sc x && chkE c sc fn e y && decide (z = Str.ofString t.name) && glB sc z
  | .isi2 e t u, .Call (.Name x _) [y, .Tuple [.Name z _, .Name z2 _] _ _] [] _ => decide (x = "isinstance") && glB sc x && chkE c sc fn e y && decide (z = Str.ofString t.name) && glB sc z && decide (z2 = Str.ofString u.name) && glB sc z2
  | .srt e, .Call (.Name x _) [.Call (.Name z _) [y] [] _] [] _ => decide (x = "sorted") && glB sc x && decide (z = "set") && glB sc z && chkE c sc fn e y
  | .srtN e, .Call (.Name x _) [.Call (.Name z _) [y] [] _] [] _ => decide (x = "sorted") && glB sc x && decide (z = "set") && glB sc z && chkE c sc fn e y
  | .lc e t own it d, .ListComp elt [⟨tg, iter, ifs, 0⟩] scope _ => blkC c.N sc scope (ownPairs c.N own) && (slotsT t).all (fun i => own.contains i) && chkI c sc fn it iter && (!needTup it || isTupE tg) &&
      (let sc' := relS scope sc
       let fn' : Str → Bool := fun x => scope.names.lookup x == some .cell
       chkT c sc' fn' t tg && chkE c sc' fn' e elt && (match d, ifs with | .no, [] => true | .yes v, [x] => chkE c sc' fn' v x | _, _ => false))
  | .lc2 e t t1 own own1 it it1, .ListComp elt [⟨tg, iter, [], 0⟩, ⟨tg1, iter1, [], 0⟩] scope _ => chkC2 c sc fn scope t t1 own own1 tg tg1 && chkI c sc fn it iter && chkI c (relS scope sc) (fun x => scope.names.lookup x == some .cell) it1 iter1 && (!needTup it || isTupE tg) && (!needTup it1 || isTupE tg1) && chkE c (relS scope sc) (fun x => scope.names.lookup x == some .cell) e elt
  | .ssc e t own it d, .Call (.Name z _) [.SetComp elt [⟨tg, iter, ifs, 0⟩] scope _] [] _ => decide (z = "sorted") && glB sc z && blkC c.N sc scope (ownPairs c.N own) && (slotsT t).all (fun i => own.contains i) && chkI c sc fn it iter && (!needTup it || isTupE tg) &&
      (let sc' := relS scope sc
       let fn' : Str → Bool := fun x => scope.names.lookup x == some .cell
       chkT c sc' fn' t tg && chkE c sc' fn' e elt && (match d, ifs with | .no, [] => true | .yes v, [x] => chkE c sc' fn' v x | _, _ => false))
  | .ssc2 e t t1 own own1 it it1, .Call (.Name z _) [.SetComp elt [⟨tg, iter, [], 0⟩, ⟨tg1, iter1, [], 0⟩] scope _] [] _ => decide (z = "sorted") && glB sc z && chkC2 c sc fn scope t t1 own own1 tg tg1 && chkI c sc fn it iter && chkI c (relS scope sc) (fun x => scope.names.lookup x == some .cell) it1 iter1 && (!needTup it || isTupE tg) && (!needTup it1 || isTupE tg1) && chkE c (relS scope sc) (fun x => scope.names.lookup x == some .cell) e elt
  | .dsub g _ a, .Subscript (.Name x _) y _ => decide (x = Str.ofString g) && glB sc x && chkE c sc fn a y
  | .din neg g _ a, .Compare y [op] [.Name x _] _ => decide (op = if neg then .NotIn else .In) && decide (x = Str.ofString g) && glB sc x && chkE c sc fn a y
  | .nev, x => okForm x
  | _, _ => false
def chkL (c : KC) (sc : Scope) (fn : Str → Bool) : RL → List Expr → Bool
  | .nil, [] => true
  | .cons e es, x :: xs => chkE c sc fn e x && chkL c sc fn es xs
  | .star e es, .Starred x _ :: xs => chkE c sc fn e x && chkL c sc fn es xs
  | _, _ => false
def chkO (c : KC) (sc : Scope) (fn : Str → Bool) : RO → Option Expr → Bool
  | .no, none => true
  | .yes e, some x => chkE c sc fn e x
  | _, _ => false
def chkI (c : KC) (sc : Scope) (fn : Str → Bool) : RI → Expr → Bool
  | .seq e, x => chkE c sc fn e x
  | .rng a, .Call (.Name x _) [y] [] _ => decide (x = "range") && glB sc x && chkE c sc fn a y
  | .rng3 a b d, .Call (.Name x _) [y, z, w] [] _ => decide (x = "range") && glB sc x && chkE c sc fn a y && chkE c sc fn b z && chkE c sc fn d w
  | .rng2 a b, .Call (.Name x _) [y, z] [] _ => decide (x = "range") && glB sc x && chkE c sc fn a y && chkE c sc fn b z
  | .enum a, .Call (.Name x _) [y] [] _ => decide (x = "enumerate") && glB sc x && chkE c sc fn a y
  | .zip a b, .Call (.Name x _) [y, z] [] _ => decide (x = "zip") && glB sc x && chkE c sc fn a y && chkE c sc fn b z
  | _, _ => false
def plainL : RL → Bool
  | .nil => true
  | .cons _ es => plainL es
  | .star _ _ => false
end

inductive Need where
  | glo (x : String) (v : PV)
  | call (f : Nat)
  | calld (f : Nat) (ds : List PV)
  | free (x : String)
  | dct (x : String) (kvs : List (List Nat × PV))
mutual
def ndE : RE → List Need
  | .var _ => []
  | .cst _ => []
  | .glo x v => [.glo x v]
  | .bin _ a b => ndE a ++ ndE b
  | .un _ a => ndE a
  | .and a b => ndE a ++ ndE b
  | .or a b => ndE a ++ ndE b
  | .cmp _ a b => ndE a ++ ndE b
  | .chn _ _ a b d => ndE a ++ (ndE b ++ ndE d)
  | .ifx t a b => ndE t ++ (ndE a ++ ndE b)
  | .sub a b => ndE a ++ ndE b
  | .slc a lo hi => ndE a ++ (ndO lo ++ ndO hi)
  | .rev a => ndE a
  | .tup es => ndL es
  | .lst es => ndL es
  | .new es => ndL es
  | .dct => []
  | .call f es => .call f :: ndL es
  | .calld f es ds => .calld f ds :: ndL es
  | .slcN a lo hi => ndE a ++ (ndO lo ++ ndO hi)
  | .dlit _ => []
  | .bi b es => .free b.name :: ndL es
  | .mth _ o es => ndE o ++ ndL es
  | .isi e t => .free "isinstance" :: .free t.name :: ndE e
  | .isi2 e t u => .free "isinstance" :: .free t.name :: .free u.name :: ndE e
  | .srt e => .free "sorted" :: .free "set" :: ndE e
  | .srtN e => .free "sorted" :: .free "set" :: ndE e
  | .lc e _ _ it d => ndI it ++ (ndE e ++ ndO d)
  | .lc2 e _ _ _ _ it it1 => ndI it ++ (ndI it1 ++ ndE e)
  | .ssc e _ _ it d => .free "sorted" :: (ndI it ++ (ndE e ++ ndO d))
  | .ssc2 e _ _ _ _ it it1 => .free "sorted" :: (ndI it ++ (ndI it1 ++ ndE e))
  | .dsub x kvs a => .dct x kvs :: ndE a
  | .din _ x kvs a => .dct x kvs :: ndE a
  | .nev => []
def ndL : RL → List Need
  | .nil => []
  | .cons e es => ndE e ++ ndL es
  | .star e es => ndE e ++ ndL es
def ndO : RO → List Need
  | .no => []
  | .yes e => ndE e
def ndI : RI → List Need
  | .seq e => ndE e
  | .rng a => .free "range" :: ndE a
  | .rng2 a b => .free "range" :: (ndE a ++ ndE b)
  | .rng3 a b d => .free "range" :: (ndE a ++ (ndE b ++ ndE d))
  | .enum a => .free "enumerate" :: ndE a
  | .zip a b => .free "zip" :: (ndE a ++ ndE b)
end
end MP

/-! MP, part i: each kind of expression. -/
namespace MP
open PySem PySem.Spec PyProof.Rows L2

section
variable {C : CT} {X : Cx} {W : WX} {k : Nat} {e e1 e2 e3 : Expr} {pos : Pos} {f f1 f2 f3 : Env → Sto → Res PV}

/-- a test that is the value's truth -/
theorem goodT_plain (g : GoodE C X W e f) (hp : ∀ whole, isTrue e X.env whole = (do let v ← whole; standAt e.pos; holding [v] (truthy v))) :
    GoodT C X W e (fun s st => (f s st).bnd fun x st1 => optR (truP st1 x) st1) := by
  intro r s σ st H he hs Q h
  refine w_pt (pt_truth pe_w hp) (g.use he hs (QB := fun r H => PostT X.K r H Q) h (fun g q => q.grow g) fun r1 H1 x u st1 g1 he1 hs1 hu h1 => ?_)
  cases q : truP st1 x with
  | none => rw [q] at h1; exact h1.elim
  | some b =>
    rw [q] at h1
    exact ⟨b, truP_rep hs1 hu q, h1 r1 H1 (Grow.refl _ _) hs1⟩
theorem good_cst {v : PV} {u : V} (hp : PE X e (tC u)) (hv : ∀ r H, Rep X.K r H v u) : GoodE C X W e (fun _ st => .ok v st) := by
  intro r s σ st H he hs Q h
  exact w_pe hp (h r H u (Grow.refl _ _) hs (hv r H))
theorem good_var {i : Nat} {x : Str} (hN : X.N[i]? = some x) (hv : Vis X.env.scope x) (hd : (x == ("__debug__" : Str)) = false) (hcd : (x == ("__classdict__" : Str)) = false) :
    GoodE C X W (.Name x pos) (fun s st => match s[i]? with | some (some v) => .ok v st | _ => .bad) := by
  intro r s σ st H he hs Q h
  dsimp only at h
  split at h
  · rename_i v hv2
    obtain ⟨u, e1, e2⟩ := he.get i v hv2
    exact w_pe (pe_var hN hv hd hcd) ⟨u, e1, h r H u (Grow.refl _ _) hs e2⟩
  · exact h.elim
theorem good_bin (op : Operator) (g1 : GoodE C X W e1 f1) (g2 : GoodE C X W e2 f2) :
    GoodE C X W (.BinOp e1 op e2 pos) (fun s st => (f1 s st).bnd fun x st1 => (f2 s st1).bnd fun y st2 => optR (binP op x y st2) st2) := by
  intro r s σ st H he hs Q h
  refine w_pe (pe_op (op_bin op) pe_w pe_w) (g1.use he hs (QB := fun r H => PostE X.K r H Q) h (fun g q => q.grow g) fun r1 H1 x u st1 gr1 he1 hs1 hu h1 => ?_)
  refine g2.use he1 hs1 (QB := fun r H => PostE X.K r H Q) h1 (fun g q => q.grow g) fun r2 H2 y v st2 gr2 he2 hs2 hv h2 => ?_
  cases q : binP op x y st2 with
  | none => rw [q] at h2; exact h2.elim
  | some z => rw [q] at h2; exact ⟨r2, x, y, st2, z, hs2, hu.grow gr2, hv, q, h2⟩
theorem good_cmp (c : Cxt X W k) (op : CmpOp) (g1 : GoodE C X W e1 f1) (g2 : GoodE C X W e2 f2) (hm : behindInMarks op e2 = false) :
    GoodE C X W (.Compare e1 [op] [e2] pos) (fun s st => (f1 s st).bnd fun x st1 => (f2 s st1).bnd fun y st2 => optR ((cmpP op x y st2).map .bl) st2) := by
  intro r s σ st H he hs Q h
  refine w_pe (pe_cmpR (op_cmp c.r0 op) pe_w pe_w hm) (g1.use he hs (QB := fun r H => PostE X.K r H Q) h (fun g q => q.grow g) fun r1 H1 x u st1 gr1 he1 hs1 hu h1 => ?_)
  refine g2.use he1 hs1 (QB := fun r H => PostE X.K r H Q) h1 (fun g q => q.grow g) fun r2 H2 y v st2 gr2 he2 hs2 hv h2 => ?_
  cases q : cmpP op x y st2 with
  | none => rw [q] at h2; exact h2.elim
  | some z => rw [q] at h2; exact ⟨r2, x, y, st2, z, hs2, hu.grow gr2, hv, q, h2⟩
theorem goodT_cmp (c : Cxt X W k) (op : CmpOp) (g1 : GoodE C X W e1 f1) (g2 : GoodE C X W e2 f2) (hm : behindInMarks op e2 = false) :
    GoodT C X W (.Compare e1 [op] [e2] pos) (fun s st => ((f1 s st).bnd fun x st1 => (f2 s st1).bnd fun y st2 => optR ((cmpP op x y st2).map .bl) st2).bnd fun x st1 => optR (truP st1 x) st1) := by
  intro r s σ st H he hs Q h
  refine w_pt (pt_cmpR (op_cmp c.r0 op) pe_w pe_w hm) ?_
  dsimp only at h
  rw [Res.bnd_assoc] at h
  refine g1.use he hs (QB := fun r H => PostT X.K r H Q) h (fun g q => q.grow g) fun r1 H1 x u st1 gr1 he1 hs1 hu h1 => ?_
  rw [Res.bnd_assoc] at h1
  refine g2.use he1 hs1 (QB := fun r H => PostT X.K r H Q) h1 (fun g q => q.grow g) fun r2 H2 y v st2 gr2 he2 hs2 hv h2 => ?_
  cases q : cmpP op x y st2 with
  | none => rw [q] at h2; exact h2.elim
  | some z =>
    rw [q] at h2
    refine ⟨r2, x, y, st2, z, hs2, hu.grow gr2, hv, q, fun r3 H3 w g3 hs3 hw => ?_⟩
    cases hw
    exact ⟨z, rfl, h2 r3 H3 g3 hs3⟩
theorem good_chn (c : Cxt X W k) (o1 o2 : CmpOp) (g1 : GoodE C X W e1 f1) (g2 : GoodE C X W e2 f2) (g3 : GoodE C X W e3 f3) (hm : lastMarks [o1, o2] [e2, e3] = false) :
    GoodE C X W (.Compare e1 [o1, o2] [e2, e3] pos) (fun s st => (f1 s st).bnd fun x st1 => (f2 s st1).bnd fun y st2 => match cmpP o1 x y st2 with
      | some true => (f3 s st2).bnd fun z st3 => optR ((cmpP o2 y z st3).map .bl) st3
      | some false => .ok (.bl false) st2
      | none => .bad) := by
  intro r s σ st H he hs Q h
  refine w_pe (pe_chain (op_cmp c.r0 o1) (op_cmp c.r0 o2) pe_w pe_w pe_w hm) (g1.use he hs (QB := fun r H => PostE X.K r H Q) h (fun g q => q.grow g) fun r1 H1 x u st1 gr1 he1 hs1 hu h1 => ?_)
  refine g2.use he1 hs1 (QB := fun r H => PostE X.K r H Q) h1 (fun g q => q.grow g) fun r2 H2 y v st2 gr2 he2 hs2 hv h2 => ?_
  cases q : cmpP o1 x y st2 with
  | none => rw [q] at h2; exact h2.elim
  | some b =>
    rw [q] at h2
    refine ⟨r2, x, y, st2, b, hs2, hu.grow gr2, hv, q, fun r3 H3 w gr3 hs3 hw => ?_⟩
    cases hw
    refine ⟨b, rfl, ?_⟩
    cases b with
    | false => exact h2 r3 H3 _ gr3 hs3 (.bl false)
    | true =>
      refine g3.use (he2.grow gr3) hs3 (QB := fun r H => PostE X.K r H Q) (Res.sat_mono h2 (fun _ _ q => q.grow gr3) fun _ _ q => q.grow gr3) (fun g q => q.grow g) fun r4 H4 z w st4 gr4 he4 hs4 hw h4 => ?_
      cases q2 : cmpP o2 y z st4 with
      | none => rw [q2] at h4; exact h4.elim
      | some b2 => rw [q2] at h4; exact ⟨r4, y, z, st4, b2, hs4, (hv.grow gr3).grow gr4, hw, q2, h4⟩
theorem goodT_chn (c : Cxt X W k) (o1 o2 : CmpOp) (g1 : GoodE C X W e1 f1) (g2 : GoodE C X W e2 f2) (g3 : GoodE C X W e3 f3) (hm : lastMarks [o1, o2] [e2, e3] = false) :
    GoodT C X W (.Compare e1 [o1, o2] [e2, e3] pos) (fun s st => ((f1 s st).bnd fun x st1 => (f2 s st1).bnd fun y st2 => match cmpP o1 x y st2 with
      | some true => (f3 s st2).bnd fun z st3 => optR ((cmpP o2 y z st3).map .bl) st3
      | some false => .ok (.bl false) st2
      | none => .bad).bnd fun x st1 => optR (truP st1 x) st1) := by
  intro r s σ st H he hs Q h
  refine w_pt (pt_chain (op_cmp c.r0 o1) (op_cmp c.r0 o2) pe_w pe_w pe_w hm) ?_
  have key : ∀ {r H st}, RepE X.K r H s σ → RepS X.K r H st → ∀ Q2 : VK, ((f1 s st).bnd fun x st1 => (f2 s st1).bnd fun y st2 => match cmpP o1 x y st2 with
      | some true => (f3 s st2).bnd fun z st3 => optR ((cmpP o2 y z st3).map .bl) st3
      | some false => .ok (.bl false) st2
      | none => .bad).sat (PostE X.K r H Q2) (PostX C X.K W σ r H) → tChain (rCmp X.K o1) (rCmp X.K o2) (wE X e1) (wE X e2) (wE X e3) σ H Q2 := fun {r H st} he hs Q2 h => by
    refine g1.use he hs (QB := fun r H => PostE X.K r H Q2) h (fun g q => q.grow g) fun r1 H1 x u st1 gr1 he1 hs1 hu h1 => ?_
    refine g2.use he1 hs1 (QB := fun r H => PostE X.K r H Q2) h1 (fun g q => q.grow g) fun r2 H2 y v st2 gr2 he2 hs2 hv h2 => ?_
    cases q : cmpP o1 x y st2 with
    | none => rw [q] at h2; exact h2.elim
    | some b =>
      rw [q] at h2
      refine ⟨r2, x, y, st2, b, hs2, hu.grow gr2, hv, q, fun r3 H3 w gr3 hs3 hw => ?_⟩
      cases hw
      refine ⟨b, rfl, ?_⟩
      cases b with
      | false => exact h2 r3 H3 _ gr3 hs3 (.bl false)
      | true =>
        refine g3.use (he2.grow gr3) hs3 (QB := fun r H => PostE X.K r H Q2) (Res.sat_mono h2 (fun _ _ q => q.grow gr3) fun _ _ q => q.grow gr3) (fun g q => q.grow g) fun r4 H4 z w st4 gr4 he4 hs4 hw h4 => ?_
        cases q2 : cmpP o2 y z st4 with
        | none => rw [q2] at h4; exact h4.elim
        | some b2 => rw [q2] at h4; exact ⟨r4, y, z, st4, b2, hs4, (hv.grow gr3).grow gr4, hw, q2, h4⟩
  have h' : ((f1 s st).bnd fun x st1 => (f2 s st1).bnd fun y st2 => match cmpP o1 x y st2 with
      | some true => (f3 s st2).bnd fun z st3 => optR ((cmpP o2 y z st3).map PV.bl) st3
      | some false => Res.ok (PV.bl false) st2
      | none => .bad).sat (fun v st1 => ∃ b, v = PV.bl b ∧ PostT X.K r H Q b st1) (PostX C X.K W σ r H) := by
    dsimp only at h
    cases q1 : f1 s st with
    | bad => rw [q1] at h; exact h
    | exc _ _ => rw [q1] at h; exact h
    | ok x st1 =>
      rw [q1] at h
      simp only [Res.bnd_ok] at h ⊢
      cases q2 : f2 s st1 with
      | bad => rw [q2] at h; exact h
      | exc _ _ => rw [q2] at h; exact h
      | ok y st2 =>
        rw [q2] at h
        simp only [Res.bnd_ok] at h ⊢
        cases q3 : cmpP o1 x y st2 with
        | none => rw [q3] at h; exact h
        | some b =>
          rw [q3] at h
          cases b with
          | false => exact ⟨false, rfl, h⟩
          | true =>
            simp only at h ⊢
            cases q4 : f3 s st2 with
            | bad => rw [q4] at h; exact h
            | exc _ _ => rw [q4] at h; exact h
            | ok z st3 =>
              rw [q4] at h
              simp only [Res.bnd_ok] at h ⊢
              cases q5 : cmpP o2 y z st3 with
              | none => rw [q5] at h; exact h
              | some b => rw [q5] at h; exact ⟨b, rfl, h⟩
  refine key he hs _ (Res.sat_mono h' (fun v st1 ⟨b, e, hb⟩ r1 H1 u g1 hs1 hu => ?_) fun _ _ q => q)
  subst e
  cases hu
  exact ⟨b, rfl, hb r1 H1 g1 hs1⟩

/-! ### and, or, not, if-else -/
theorem good_and (g1 : GoodE C X W e1 f1) {rest : List Expr} (g2 : GoodE C X W (.BoolOp .And (e2 :: rest) pos) f2) :
    GoodE C X W (.BoolOp .And (e1 :: e2 :: rest) pos) (fun s st => (f1 s st).bnd fun x st1 => match truP st1 x with
      | some true => f2 s st1
      | some false => .ok x st1
      | none => .bad) := by
  intro r s σ st H he hs Q h
  refine w_pe (pe_andT pe_w pe_w) (g1.use he hs (QB := fun r H => PostE X.K r H Q) h (fun g q => q.grow g) fun r1 H1 x u st1 gr1 he1 hs1 hu h1 => ?_)
  cases q : truP st1 x with
  | none => rw [q] at h1; exact h1.elim
  | some b =>
    rw [q] at h1
    refine ⟨b, truP_rep hs1 hu q, ?_⟩
    cases b with
    | false => exact h1 r1 H1 u (Grow.refl _ _) hs1 hu
    | true => exact g2 r1 s σ st1 H1 he1 hs1 Q h1
theorem good_or (g1 : GoodE C X W e1 f1) {rest : List Expr} (g2 : GoodE C X W (.BoolOp .Or (e2 :: rest) pos) f2) :
    GoodE C X W (.BoolOp .Or (e1 :: e2 :: rest) pos) (fun s st => (f1 s st).bnd fun x st1 => match truP st1 x with
      | some true => .ok x st1
      | some false => f2 s st1
      | none => .bad) := by
  intro r s σ st H he hs Q h
  refine w_pe (pe_orT pe_w pe_w) (g1.use he hs (QB := fun r H => PostE X.K r H Q) h (fun g q => q.grow g) fun r1 H1 x u st1 gr1 he1 hs1 hu h1 => ?_)
  cases q : truP st1 x with
  | none => rw [q] at h1; exact h1.elim
  | some b =>
    rw [q] at h1
    refine ⟨b, truP_rep hs1 hu q, ?_⟩
    cases b with
    | true => exact h1 r1 H1 u (Grow.refl _ _) hs1 hu
    | false => exact g2 r1 s σ st1 H1 he1 hs1 Q h1
theorem good_one {op : BoolOp} (g : GoodE C X W e f) : GoodE C X W (.BoolOp op [e] pos) f := by
  intro r s σ st H he hs Q h
  exact w_pe (pe_one pe_w) (g r s σ st H he hs Q h)
/-- a test whatever its whole is -/
def GoodW (C : CT) (X : Cx) (W : WX) (e : Expr) (f : Env → Sto → Res Bool) : Prop :=
  ∀ r s σ st H, RepE X.K r H s σ → RepS X.K r H st → ∀ Q, (f s st).sat (PostT X.K r H Q) (PostX C X.K W σ r H) →
    ∀ (whole : Sem Value) pins sh, Inv X pins σ H sh → wpAny (model X.prog X.w) X.A (isTrue e X.env whole) (TP X pins σ Q) X.xe sh
def wW (X : Cx) (e : Expr) : TT := fun σ H Q => ∀ (whole : Sem Value) pins s, Inv X pins σ H s → wpAny (model X.prog X.w) X.A (isTrue e X.env whole) (TP X pins σ Q) X.xe s
theorem pw_w : PW X e (wW X e) := ⟨fun wh pins s _ _ _ I h => h wh pins s I⟩
theorem GoodW.t {f : Env → Sto → Res Bool} (g : GoodW C X W e f) : GoodT C X W e f := fun r s σ st H he hs Q h pins sh I => g r s σ st H he hs Q h _ pins sh I
theorem goodW_and1 {t : Env → Sto → Res Bool} (g : GoodT C X W e t) : GoodW C X W (.BoolOp .And [e] pos) t := by
  intro r s σ st H he hs Q h wh pins sh I
  exact (pw_and1 pt_w).run wh pins sh σ H Q I (g r s σ st H he hs Q h)
theorem goodW_or1 {t : Env → Sto → Res Bool} (g : GoodT C X W e t) : GoodW C X W (.BoolOp .Or [e] pos) t := by
  intro r s σ st H he hs Q h wh pins sh I
  exact (pw_or1 pt_w).run wh pins sh σ H Q I (g r s σ st H he hs Q h)
/-- the truth of a conjunction -/
theorem tru_and {K : PySem.W.Frag} {r : Rg} {H : Hp} {s : Env} {st : Sto} {Q : Bool → Sto → Prop} {E : PX → Sto → Prop} (h : (((f1 s st).bnd fun x st1 => match truP st1 x with
      | some true => f2 s st1
      | some false => .ok x st1
      | none => .bad).bnd fun x st1 => optR (truP st1 x) st1).sat Q E) :
    (((f1 s st).bnd fun x st1 => optR (truP st1 x) st1).bnd fun b st1 => if b then (f2 s st1).bnd fun x st2 => optR (truP st2 x) st2 else .ok false st1).sat Q E := by
  cases q1 : f1 s st with
  | bad => rw [q1] at h; exact h
  | exc _ _ => rw [q1] at h; exact h
  | ok x st1 =>
    rw [q1] at h
    simp only [Res.bnd_ok] at h ⊢
    cases q3 : truP st1 x with
    | none => rw [q3] at h; exact h
    | some b =>
      rw [q3] at h
      cases b with
      | false => simp only [Res.bnd_ok, q3] at h; exact h
      | true => exact h
theorem tru_or {K : PySem.W.Frag} {r : Rg} {H : Hp} {s : Env} {st : Sto} {Q : Bool → Sto → Prop} {E : PX → Sto → Prop} (h : (((f1 s st).bnd fun x st1 => match truP st1 x with
      | some true => .ok x st1
      | some false => f2 s st1
      | none => .bad).bnd fun x st1 => optR (truP st1 x) st1).sat Q E) :
    (((f1 s st).bnd fun x st1 => optR (truP st1 x) st1).bnd fun b st1 => if b then .ok true st1 else (f2 s st1).bnd fun x st2 => optR (truP st2 x) st2).sat Q E := by
  cases q1 : f1 s st with
  | bad => rw [q1] at h; exact h
  | exc _ _ => rw [q1] at h; exact h
  | ok x st1 =>
    rw [q1] at h
    simp only [Res.bnd_ok] at h ⊢
    cases q3 : truP st1 x with
    | none => rw [q3] at h; exact h
    | some b =>
      rw [q3] at h
      cases b with
      | true => simp only [Res.bnd_ok, q3] at h; exact h
      | false => exact h
theorem goodW_and {rest : List Expr} (g1 : GoodT C X W e1 (fun s st => (f1 s st).bnd fun x st1 => optR (truP st1 x) st1))
    (g2 : GoodW C X W (.BoolOp .And (e2 :: rest) pos) (fun s st => (f2 s st).bnd fun x st1 => optR (truP st1 x) st1)) :
    GoodW C X W (.BoolOp .And (e1 :: e2 :: rest) pos) (fun s st => ((f1 s st).bnd fun x st1 => match truP st1 x with
      | some true => f2 s st1
      | some false => .ok x st1
      | none => .bad).bnd fun x st1 => optR (truP st1 x) st1) := by
  intro r s σ st H he hs Q h wh pins sh I
  refine (pw_and pt_w pw_w).run wh pins sh σ H Q I ?_
  refine g1.use he hs (QB := fun r H => PostT X.K r H Q) (tru_and (K := X.K) (r := r) (H := H) h) (fun g q => q.grow g) fun r1 H1 b st1 gr1 he1 hs1 h1 => ?_
  cases b with
  | false => exact h1 r1 H1 (Grow.refl _ _) hs1
  | true => exact fun wh pins s I => g2 r1 _ σ st1 H1 he1 hs1 Q h1 wh pins s I
theorem goodW_or {rest : List Expr} (g1 : GoodT C X W e1 (fun s st => (f1 s st).bnd fun x st1 => optR (truP st1 x) st1))
    (g2 : GoodW C X W (.BoolOp .Or (e2 :: rest) pos) (fun s st => (f2 s st).bnd fun x st1 => optR (truP st1 x) st1)) :
    GoodW C X W (.BoolOp .Or (e1 :: e2 :: rest) pos) (fun s st => ((f1 s st).bnd fun x st1 => match truP st1 x with
      | some true => .ok x st1
      | some false => f2 s st1
      | none => .bad).bnd fun x st1 => optR (truP st1 x) st1) := by
  intro r s σ st H he hs Q h wh pins sh I
  refine (pw_or pt_w pw_w).run wh pins sh σ H Q I ?_
  refine g1.use he hs (QB := fun r H => PostT X.K r H Q) (tru_or (K := X.K) (r := r) (H := H) h) (fun g q => q.grow g) fun r1 H1 b st1 gr1 he1 hs1 h1 => ?_
  cases b with
  | true => exact h1 r1 H1 (Grow.refl _ _) hs1
  | false => exact fun wh pins s I => g2 r1 _ σ st1 H1 he1 hs1 Q h1 wh pins s I
theorem good_not (g : GoodE C X W e f) : GoodE C X W (.UnaryOp .Not e pos) (fun s st => (f s st).bnd fun x st1 => optR (unP .Not x st1) st1) := by
  intro r s σ st H he hs Q h
  refine w_pe (pe_notT pe_w) (g.use he hs (QB := fun r H => PostE X.K r H Q) h (fun g q => q.grow g) fun r1 H1 x u st1 gr1 he1 hs1 hu h1 => ?_)
  cases q : truP st1 x with
  | none => simp only [unP, q] at h1; exact h1.elim
  | some b =>
    simp only [unP, q] at h1
    exact ⟨b, truP_rep hs1 hu q, h1 r1 H1 _ (Grow.refl _ _) hs1 (.bl _)⟩
theorem goodT_not (g : GoodT C X W e (fun s st => (f s st).bnd fun x st1 => optR (truP st1 x) st1)) : GoodT C X W (.UnaryOp .Not e pos) (fun s st => ((f s st).bnd fun x st1 => optR (unP .Not x st1) st1).bnd fun x st1 => optR (truP st1 x) st1) := by
  intro r s σ st H he hs Q h
  refine w_pt (pt_not pt_w) (g r s σ st H he hs _ ?_)
  dsimp only at h ⊢
  cases q1 : f s st with
  | bad => rw [q1] at h; exact h
  | exc _ _ => rw [q1] at h; exact h
  | ok x st1 =>
    rw [q1] at h
    simp only [Res.bnd_ok] at h ⊢
    cases q : truP st1 x with
    | none => simp only [unP, q] at h; exact h
    | some b => simp only [unP, q] at h; exact h
theorem good_neg (g : GoodE C X W e f) : GoodE C X W (.UnaryOp .USub e pos) (fun s st => (f s st).bnd fun x st1 => optR (unP .USub x st1) st1) := by
  intro r s σ st H he hs Q h
  refine w_pe (pe_un un_negP pe_w) (g.use he hs (QB := fun r H => PostE X.K r H Q) h (fun g q => q.grow g) fun r1 H1 x u st1 gr1 he1 hs1 hu h1 => ?_)
  cases q : unP .USub x st1 with
  | none => rw [q] at h1; exact h1.elim
  | some v => rw [q] at h1; exact ⟨r1, x, st1, v, hs1, hu, q, h1⟩
/-- the test of an if-else, made of truths -/
theorem tru_if {s : Env} {st : Sto} {A : Type} {Q : A → Sto → Prop} {E : PX → Sto → Prop} {h1 h2 : Env → Sto → Res A} (h : ((f1 s st).bnd fun x st1 => match truP st1 x with
      | some true => h1 s st1
      | some false => h2 s st1
      | none => .bad).sat Q E) :
    (((f1 s st).bnd fun x st1 => optR (truP st1 x) st1).bnd fun b st1 => if b then h1 s st1 else h2 s st1).sat Q E := by
  cases q1 : f1 s st with
  | bad => rw [q1] at h; exact h
  | exc _ _ => rw [q1] at h; exact h
  | ok x st1 =>
    rw [q1] at h
    simp only [Res.bnd_ok] at h ⊢
    cases q3 : truP st1 x with
    | none => rw [q3] at h; exact h
    | some b => rw [q3] at h; cases b <;> exact h
theorem good_ifx (g1 : GoodT C X W e1 (fun s st => (f1 s st).bnd fun x st1 => optR (truP st1 x) st1)) (g2 : GoodE C X W e2 f2) (g3 : GoodE C X W e3 f3) :
    GoodE C X W (.IfExp e1 e2 e3 pos) (fun s st => (f1 s st).bnd fun x st1 => match truP st1 x with
      | some true => f2 s st1
      | some false => f3 s st1
      | none => .bad) := by
  intro r s σ st H he hs Q h
  refine w_pe (pe_ifExp pt_w pe_w pe_w) (g1.use he hs (QB := fun r H => PostE X.K r H Q) (tru_if h) (fun g q => q.grow g) fun r1 H1 b st1 gr1 he1 hs1 h1 => ?_)
  cases b with
  | true => exact g2 r1 s σ st1 H1 he1 hs1 Q h1
  | false => exact g3 r1 s σ st1 H1 he1 hs1 Q h1
theorem goodT_ifx (g1 : GoodT C X W e1 (fun s st => (f1 s st).bnd fun x st1 => optR (truP st1 x) st1)) (g2 : GoodT C X W e2 (fun s st => (f2 s st).bnd fun x st1 => optR (truP st1 x) st1)) (g3 : GoodT C X W e3 (fun s st => (f3 s st).bnd fun x st1 => optR (truP st1 x) st1)) :
    GoodT C X W (.IfExp e1 e2 e3 pos) (fun s st => ((f1 s st).bnd fun x st1 => match truP st1 x with
      | some true => f2 s st1
      | some false => f3 s st1
      | none => .bad).bnd fun x st1 => optR (truP st1 x) st1) := by
  intro r s σ st H he hs Q h pins sh I
  have h' : ((f1 s st).bnd fun x st1 => match truP st1 x with
      | some true => (f2 s st1).bnd fun x st1 => optR (truP st1 x) st1
      | some false => (f3 s st1).bnd fun x st1 => optR (truP st1 x) st1
      | none => .bad).sat (PostT X.K r H Q) (PostX C X.K W σ r H) := by
    dsimp only at h
    rw [Res.bnd_assoc] at h
    cases q1 : f1 s st with
    | bad => rw [q1] at h; exact h
    | exc _ _ => rw [q1] at h; exact h
    | ok x st1 =>
      rw [q1] at h
      simp only [Res.bnd_ok] at h ⊢
      cases q3 : truP st1 x with
      | none => rw [q3] at h; exact h
      | some b => rw [q3] at h; cases b <;> exact h
  have z := g1.use he hs (QB := fun r H => PostT X.K r H Q) (tru_if (h1 := fun s st1 => (f2 s st1).bnd fun x st1 => optR (truP st1 x) st1) (h2 := fun s st1 => (f3 s st1).bnd fun x st1 => optR (truP st1 x) st1) h') (fun g q => q.grow g)
    (Q := fun b H1 => ∀ pins sh, Inv X pins σ H1 sh → wpAny (model X.prog X.w) X.A (if b then isTrue e2 X.env (eval e2 X.env) else isTrue e3 X.env (eval e3 X.env)) (TP X pins σ Q) X.xe sh) fun r1 H1 b st1 gr1 he1 hs1 h1 => by
      cases b with
      | true => exact fun pins sh I => g2 r1 s σ st1 H1 he1 hs1 Q h1 pins sh I
      | false => exact fun pins sh I => g3 r1 s σ st1 H1 he1 hs1 Q h1 pins sh I
  refine isTrue_IfExp (thn (z pins sh I) fun b s1 ⟨H1, I1, q1⟩ => ?_)
  have q2 := q1 pins s1 I1
  cases b <;> exact q2
end
end MP

/-! MP, part x: a list is made longer by a list or a tuple that is read. -/
namespace MP
open PySem PySem.Spec PyProof.Rows L2
theorem list_extendL (l b : Addr) (items items2 : Array Value) (n n2 : Nat) (dd2 : Option Addr) (sl2 : Array (Option Value)) (hs0 : ¬(!items.isEmpty && Builtin.List.listTooLong (items.size + items2.size)) = true) (hs1 : items.size ≤ sizeLine) (hs2 : items.size + items2.size ≤ sizeLine + 1) :
    Meets (Builtin.«list.extend» ⟨[.ref l, .ref b], []⟩) (fun _ R s => s.heap.get? l = some { cls := .type "list", dict := none, data := .seq items n, slots := #[] } ∧ s.heap.get? b = some { cls := .type "list", dict := dd2, data := .seq items2 n2, slots := sl2 } ∧ R (.ok (.ret Value.none)) { s with heap := s.heap.update l (Obj.mapSeq fun x => x ++ items2), toks := s.toks }) :=
  .of_wp fun prog w A R s h => by
    obtain ⟨hp, g, d, tk, os⟩ := s; obtain ⟨hl, hb, h⟩ := h; have f1 := AutoSeq1.idx_int; have f2 := AutoSeq1.sub_tuple_tuple; have f3 := AutoSeq1.sub_list_list; have f4 := AutoSeq1.sub_tuple_list; have f5 := AutoSeq1.sub_list_tuple
    have hz' : (items ++ items2).size ≤ sizeLine + 1 := by rw [Array.size_append]; exact hs2
    wp_walk using (wpAny_updateSeq hl rfl (hz := hs1) (_hz' := hz')), AutoSeq1.wpAny_loadPart' hl, AutoSeq1.wpAny_loadPart' hb; exact ⟨_, rfl, h⟩
theorem list_extendT (l b : Addr) (items items2 : Array Value) (n n2 : Nat) (dd2 : Option Addr) (sl2 : Array (Option Value)) (hs0 : ¬(!items.isEmpty && Builtin.List.listTooLong (items.size + items2.size)) = true) (hs1 : items.size ≤ sizeLine) (hs2 : items.size + items2.size ≤ sizeLine + 1) :
    Meets (Builtin.«list.extend» ⟨[.ref l, .ref b], []⟩) (fun _ R s => s.heap.get? l = some { cls := .type "list", dict := none, data := .seq items n, slots := #[] } ∧ s.heap.get? b = some { cls := .type "tuple", dict := dd2, data := .seq items2 n2, slots := sl2 } ∧ R (.ok (.ret Value.none)) { s with heap := s.heap.update l (Obj.mapSeq fun x => x ++ items2), toks := s.toks }) :=
  .of_wp fun prog w A R s h => by
    obtain ⟨hp, g, d, tk, os⟩ := s; obtain ⟨hl, hb, h⟩ := h; have f1 := AutoSeq1.idx_int; have f2 := AutoSeq1.sub_tuple_tuple; have f3 := AutoSeq1.sub_list_list; have f4 := AutoSeq1.sub_tuple_list; have f5 := AutoSeq1.sub_list_tuple
    have hz' : (items ++ items2).size ≤ sizeLine + 1 := by rw [Array.size_append]; exact hs2
    wp_walk using (wpAny_updateSeq hl rfl (hz := hs1) (_hz' := hz')), AutoSeq1.wpAny_loadPart' hl, AutoSeq1.wpAny_loadPart' hb; exact ⟨_, rfl, h⟩
section
variable {X : Cx}
def rExt : V → List V → Hp → VK → Prop := fun x vs H Q => ∃ l b xs zs, x = .ref l ∧ vs = [.ref b] ∧ H l = some (.lst xs) ∧ (SqL X.K H b zs ∨ SqT X.K H b zs) ∧ xs.length + zs.length ≤ sizeLine ∧ Q .non (upd H l (.lst (xs ++ zs)))
theorem mt_ext : MtM X "list.extend" (rExt (X := X)) := by
  intro pins s σ H x vs v us Q I rx rv h
  obtain ⟨l, b, xs, zs, rfl, rfl, hH, hB, hz, q⟩ := h
  cases rx
  obtain ⟨u, rfl, ru⟩ := rv.one
  cases ru
  obtain ⟨z, its, n, r, hl, e⟩ := I.lstM hH
  rcases hB with hB | hB
  · obtain ⟨its2, r2, ⟨o2, n2, e2, c2, d2, q2⟩, z2⟩ := I.list hB
    obtain ⟨oc2, od2, dt2, sl2⟩ := o2
    simp only at c2 d2 q2
    subst c2 d2 q2
    have hl2 := r2.length
    have hsz : its.toArray.size + its2.toArray.size ≤ sizeLine := by rw [List.size_toArray, List.size_toArray]; omega
    have hlong : ¬ (!its.toArray.isEmpty && Builtin.List.listTooLong (its.toArray.size + its2.toArray.size)) = true := by
      rw [notLongL hsz, Bool.and_false]
      exact Bool.false_ne_true
    refine call_meets F.slot_list_extend ⟨_, e, rfl⟩ F.entry_list_extend (F.args_list_extend_2 _ _)
      (list_extendL l b its.toArray its2.toArray n n2 _ _ hlong (by rw [List.size_toArray]; omega) (by omega)) ⟨e, e2, ?_⟩
    refine ⟨.non, _, I.lset (its' := its ++ its2) hH e (by simp) (r.append r2) ?_, rfl, q⟩
    rw [List.length_append]
    omega
  · obtain ⟨its2, r2, ⟨o2, e2, c2, n2, q2⟩, z2⟩ := I.tuple hB
    obtain ⟨oc2, od2, dt2, sl2⟩ := o2
    simp only at c2 q2
    subst c2 q2
    have hl2 := r2.length
    have hsz : its.toArray.size + its2.toArray.size ≤ sizeLine := by rw [List.size_toArray, List.size_toArray]; omega
    have hlong : ¬ (!its.toArray.isEmpty && Builtin.List.listTooLong (its.toArray.size + its2.toArray.size)) = true := by
      rw [notLongL hsz, Bool.and_false]
      exact Bool.false_ne_true
    refine call_meets F.slot_list_extend ⟨_, e, rfl⟩ F.entry_list_extend (F.args_list_extend_2 _ _)
      (list_extendT l b its.toArray its2.toArray n n2 _ _ hlong (by rw [List.size_toArray]; omega) (by omega)) ⟨e, e2, ?_⟩
    refine ⟨.non, _, I.lset (its' := its ++ its2) hH e (by simp) (r.append r2) ?_, rfl, q⟩
    rw [List.length_append]
    omega
end
end MP

/-! MP, part j: argument lists, displays, subscripts, calls. -/
namespace MP
open PySem PySem.Spec PyProof.Rows L2

def isStar : Expr → Bool
  | .Starred _ _ => true
  | _ => false
theorem starEach_plain {e : Expr} (h : isStar e = false) (es : List Expr) (env : PySem.Env) : starEach (e :: es) env = (false, eval e env) :: starEach es env := by
  cases e <;> first | rfl | cases h
theorem any_plain : ∀ {es : List Expr} {pos : Pos} {env : PySem.Env}, es.all (fun e => !isStar e) = true → (backTo pos (starEach es env)).any (·.1) = false
  | [], _, _, _ => rfl
  | e :: es, pos, env, h => by
    rw [List.all_cons, Bool.and_eq_true] at h
    have h1 : isStar e = false := by simpa using h.1
    rw [starEach_plain h1]
    show (false || (backTo pos (starEach es env)).any (·.1)) = false
    rw [any_plain h.2]; rfl

section
variable {C : CT} {X : Cx} {W : WX} {k : Nat} {e e1 e2 e3 : Expr} {pos : Pos} {f f1 f2 f3 : Env → Sto → Res PV} {es : List Expr} {g : Env → Sto → Res (List PV)}
theorem good_nil : GoodL C X W [] (fun _ st => .ok [] st) := by
  intro r s σ st H he hs Q h
  exact w_pa pa_nil (h r H [] (Grow.refl _ _) hs .nil)
theorem good_cons (g1 : GoodE C X W e f) (g2 : GoodL C X W es g) (hs' : isStar e = false) : GoodL C X W (e :: es) (fun s st => (f s st).bnd fun x st1 => (g s st1).bnd fun xs st2 => .ok (x :: xs) st2) := by
  intro r s σ st H he hs Q h
  refine w_pa (pa_cons pe_w pa_w (starEach_plain hs' _ _)) (g1.use he hs (QB := fun r H => PostL X.K r H Q) h (fun g q => q.grow g) fun r1 H1 x u st1 gr1 he1 hs1 hu h1 => ?_)
  refine g2.use he1 hs1 (QB := fun r H => PostL X.K r H Q) h1 (fun g q => q.grow g) fun r2 H2 xs us st2 gr2 he2 hs2 hus h2 => ?_
  exact h2 r2 H2 _ (Grow.refl _ _) hs2 (.cons (hu.grow gr2) hus)
theorem good_star {p : Pos} (g1 : GoodE C X W e f) (g2 : GoodL C X W es g) : GoodL C X W (.Starred e p :: es) (fun s st => (f s st).bnd fun x st1 => match seqOf st1 x with
    | some (_, ys) => (g s st1).bnd fun xs st2 => .ok (ys ++ xs) st2
    | none => .bad) := by
  intro r s σ st H he hs Q h
  refine w_pa (StX.pa_star pe_w pa_w) (g1.use he hs (QB := fun r H => PostL X.K r H Q) h (fun g q => q.grow g) fun r1 H1 x u st1 gr1 he1 hs1 hu h1 => ?_)
  cases q : seqOf st1 x with
  | none => rw [q] at h1; exact h1.elim
  | some p =>
    obtain ⟨b, ys⟩ := p
    rw [q] at h1
    obtain ⟨a, vs, rfl, hy, hq⟩ := seqOf_rep hs1 hu q
    refine ⟨a, vs, rfl, ?_, ?_⟩
    · cases b with
      | true => exact .inr (by simpa using hq)
      | false => exact .inl (by simpa using hq)
    · refine g2.use he1 hs1 (QB := fun r H => PostL X.K r H Q) h1 (fun g q => q.grow g) fun r2 H2 xs us st2 gr2 he2 hs2 hus h2 => ?_
      exact h2 r2 H2 _ (Grow.refl _ _) hs2 ((hy.grow gr2).append hus)
theorem good_tup {n : Nat} (gl : GoodL C X W es g) : GoodE C X W (.Tuple es n pos) (fun s st => (g s st).bnd fun xs st1 => if xs.length ≤ sizeLine then .ok (.tup xs) st1 else .bad) := by
  intro r s σ st H he hs Q h
  refine w_pe (pe_tup pa_w) (gl.use he hs (QB := fun r H => PostE X.K r H Q) h (fun g q => q.grow g) fun r1 H1 xs us st1 gr1 he1 hs1 hu h1 => ?_)
  split at h1
  · rename_i hl
    exact ⟨by rw [← hu.length]; exact hl, fun p hp => PostE.tup h1 hs1 hu hp⟩
  · exact h1.elim
theorem good_lst (gl : GoodL C X W es g) : GoodE C X W (.List es pos) (fun s st => (g s st).bnd fun xs st1 => if xs.length ≤ sizeLine then .ok (.lst xs) st1 else .bad) := by
  intro r s σ st H he hs Q h
  refine w_pe (pe_lst pa_w) (gl.use he hs (QB := fun r H => PostE X.K r H Q) h (fun g q => q.grow g) fun r1 H1 xs us st1 gr1 he1 hs1 hu h1 => ?_)
  split at h1
  · rename_i hl
    exact ⟨by rw [← hu.length]; exact hl, fun p hp => PostE.lst h1 hs1 hu hp⟩
  · exact h1.elim
theorem good_new (gl : GoodL C X W es g) : GoodE C X W (.List es pos) (fun s st => (g s st).bnd fun xs st1 => if xs.length ≤ sizeLine then .ok (.loc st1.length) (st1 ++ [.lst xs]) else .bad) := by
  intro r s σ st H he hs Q h
  refine w_pe (pe_lst pa_w) (gl.use he hs (QB := fun r H => PostE X.K r H Q) h (fun g q => q.grow g) fun r1 H1 xs us st1 gr1 he1 hs1 hu h1 => ?_)
  split at h1
  · rename_i hl
    refine ⟨by rw [← hu.length]; exact hl, fun p hp => h1 _ _ _ (Grow.store hs1 hp) (hs1.store hp hu) (.loc ?_)⟩
    show (r1.pl ++ [p])[st1.length]? = some p
    rw [← hs1.len, List.getElem?_append_right (Nat.le_refl _)]
    simp
  · exact h1.elim
theorem good_dct : GoodE C X W (.Dict [] [] pos) (fun _ st => .ok (.dct []) st) := by
  intro r s σ st H he hs Q h
  exact w_pe pe_dnewK fun p hp => h r _ _ (Grow.fresh hs hp) (hs.fresh hp) (.dct rfl (.inl upd_same) (hs.notin hp))
theorem good_sub (g1 : GoodE C X W e1 f1) (g2 : GoodE C X W e2 f2) (hp : PlainIx e2) : GoodE C X W (.Subscript e1 e2 pos) (fun s st => (f1 s st).bnd fun x st1 => (f2 s st1).bnd fun y st2 => optR (subP x y st2) st2) := by
  intro r s σ st H he hs Q h
  refine w_pe (pe_ix ix_P pe_w pe_w hp) (g1.use he hs (QB := fun r H => PostE X.K r H Q) h (fun g q => q.grow g) fun r1 H1 x u st1 gr1 he1 hs1 hu h1 => ?_)
  refine g2.use he1 hs1 (QB := fun r H => PostE X.K r H Q) h1 (fun g q => q.grow g) fun r2 H2 y v st2 gr2 he2 hs2 hv h2 => ?_
  cases q : subP x y st2 with
  | none => rw [q] at h2; exact h2.elim
  | some z => rw [q] at h2; exact ⟨r2, x, y, st2, z, hs2, hu.grow gr2, hv, q, h2⟩
theorem good_rev {n : Nat} {p1 p2 p3 : Pos} (g1 : GoodE C X W e f) : GoodE C X W (.Subscript e (.Slice none none (some (.UnaryOp .USub (.Constant (.int 1) n p1) p2)) p3) pos) (fun s st => (f s st).bnd fun x st1 => optR (revP x st1) st1) := by
  intro r s σ st H he hs Q h
  refine w_pe (pe_rev pe_w) (g1.use he hs (QB := fun r H => PostE X.K r H Q) h (fun g q => q.grow g) fun r1 H1 x u st1 gr1 he1 hs1 hu h1 => ?_)
  cases q : revP x st1 with
  | none => rw [q] at h1; exact h1.elim
  | some z => rw [q] at h1; exact ⟨r1, x, st1, z, hs1, hu, q, h1⟩
/-- an optional part -/
def wO (X : Cx) (e : Option Expr) : TO := fun σ H Q => ∀ pins sh, Inv X pins σ H sh → wpAny (model X.prog X.w) X.A (evalPart e X.env) (fun u s' => ∃ o H', Inv X pins σ H' s' ∧ IsPart u o ∧ Q o H') X.xe sh
theorem po_w {eo : Option Expr} : L2.PO X eo (wO X eo) := ⟨fun pins s _ _ _ I h => h pins s I⟩
def GoodP (C : CT) (X : Cx) (W : WX) (e : Option Expr) (f : Env → Sto → Res (Option Int)) : Prop :=
  ∀ r s σ st H, RepE X.K r H s σ → RepS X.K r H st → ∀ (Q : Option Int → Hp → Prop),
    (f s st).sat (fun i st1 => ∀ r' H', Grow r H r' H' → RepS X.K r' H' st1 → Q i H') (PostX C X.K W σ r H) → wO X e σ H Q
theorem good_no : GoodP C X W none (fun _ st => .ok none st) := by
  intro r s σ st H he hs Q h pins sh I
  exact po_none.run pins sh σ H Q I (h r H (Grow.refl _ _) hs)
theorem good_yes (g1 : GoodE C X W e f) : GoodP C X W (some e) (fun s st => (f s st).bnd fun x st1 => match x with
    | .int n => .ok (some n) st1
    | _ => .bad) := by
  intro r s σ st H he hs Q h pins sh I
  refine (po_some pe_w).run pins sh σ H Q I (g1 r s σ st H he hs _ (Res.sat_mono ((Res.sat_bnd _ _ _ _).mp h) (fun x st1 hx r1 H1 u gr1 hs1 hu => ?_) fun _ _ q => q))
  cases hu with
  | int n => exact ⟨n, rfl, hx r1 H1 gr1 hs1⟩
  | _ => exact hx.elim
theorem good_slc {lo hi : Option Expr} {p : Pos} {fl fh : Env → Sto → Res (Option Int)} (g1 : GoodE C X W e f) (g2 : GoodP C X W lo fl) (g3 : GoodP C X W hi fh) :
    GoodE C X W (.Subscript e (.Slice lo hi none p) pos) (fun s st => (f s st).bnd fun x st1 => (fl s st1).bnd fun l st2 => (fh s st2).bnd fun h st3 => optR (sliceP x l h st3) st3) := by
  intro r s σ st H he hs Q h
  refine w_pe (pe_slice sl_P pe_w po_w po_w) (g1.use he hs (QB := fun r H => PostE X.K r H Q) h (fun g q => q.grow g) fun r1 H1 x u st1 gr1 he1 hs1 hu h1 => ?_)
  refine g2 r1 s σ st1 H1 he1 hs1 _ (Res.sat_mono ((Res.sat_bnd _ _ _ _).mp h1) (fun l st2 hl r2 H2 gr2 hs2 => ?_) fun _ _ q => q)
  refine g3 r2 s σ st2 H2 (he1.grow gr2) hs2 _ (Res.sat_mono ((Res.sat_bnd _ _ _ _).mp hl) (fun j st3 hz r3 H3 gr3 hs3 => ?_) fun _ _ q => q.grow gr2)
  cases q : sliceP x l j st3 with
  | none => rw [q] at hz; exact hz.elim
  | some z => rw [q] at hz; exact ⟨r3, x, st3, z, hs3, (hu.grow gr2).grow gr3, q, PostE.grow (gr2.trans gr3) hz⟩

/-! ### calls of the text's own defs -/
/-- what a def promises, by its value -/
def spOf (C : CT) (K : PySem.W.Frag) (n : Nat) (m : List PV → Sto → Res PV) : Sp := fun vs H Q E => vs.length = n ∧ ∃ r args st, Reps K r H args vs ∧ RepS K r H st ∧
  (m args st).sat (PostE K r H Q) (fun x st1 => ∀ r' H' cls d, Grow r H r' H' → RepS K r' H' st1 → RepX C K r' H' x cls d → E cls d H')
/-- as FnOk, where no repr is under way -/
structure FnG (P : Program) (w : World) (K : PySem.W.Frag) (mg : Str → Option Value) (base : Heap) (k : Nat) (f : Addr) (fd : FuncData) (ps : List Str) (sp : Sp) : Prop where
  len : ∀ vs H Q E, sp vs H Q E → vs.length = ps.length
  run : ∀ (A : Around) (outer : List PySem.Env) (s : Shared) (H : Hp) (args : Args) (us : List Value) (vs : List V) (Q : VK) (E : XK), Room k A → A.guards = some [] → Env0 P w K mg base A outer s H → BindsTo s fd args (ps.zip us) → Vals vs us → sp vs H Q E →
    codeAny (model P w) A (.call (.ref f) args) (CR (CX P w) outer P w H s Q E) s
theorem FnG.mono {P w K mg base j k f fd ps sp} (F : FnG P w K mg base j f fd ps sp) (h : j ≤ k) : FnG P w K mg base k f fd ps sp :=
  ⟨F.len, fun A outer s H args us vs Q E hr => F.run A outer s H args us vs Q E (hr.mono h)⟩
theorem FnG.imp {P w K mg base k f fd ps} {sp sp' : Sp} (F : FnG P w K mg base k f fd ps sp) (h : ∀ vs H Q E, sp' vs H Q E → sp vs H Q E) : FnG P w K mg base k f fd ps sp' :=
  ⟨fun vs H Q E q => F.len vs H Q E (h _ _ _ _ q), fun A outer s H args us vs Q E hr hg he hb hv hs => F.run A outer s H args us vs Q E hr hg he hb hv (h _ _ _ _ hs)⟩
/-- a def of the text that may be called by its name -/
def CallOk (C : CT) (P : Program) (w : World) (K : PySem.W.Frag) (mg : Str → Option Value) (base : Heap) (k : Nat) (x : Str) (m : List PV → Sto → Res PV) : Prop :=
  ∃ fa fd ps, mg x = some (.ref fa) ∧ PySem.W.keepIn K (.ref fa) = true ∧ Binds K fd ps [] ∧ (∀ args st, args.length ≠ ps.length → m args st = .bad) ∧ FnG P w K mg base k fa fd ps (spOf C K ps.length m)
theorem good_call (c : Cxt X W k) {x : Str} {p : Pos} {m : List PV → Sto → Res PV} (hg : Gl X x) (hd : (x == ("__debug__" : Str)) = false) (ok : CallOk C X.prog X.w X.K X.mg X.base k x m) (gl : GoodL C X W es g) (hn : es = [] → g = fun _ st => .ok [] st)
    (hp : es.all (fun e => !isStar e) = true) : GoodE C X W (.Call (.Name x p) es [] pos) (fun s st => (g s st).bnd fun xs st1 => m xs st1) := by
  intro r s σ st H he hs Q h pins sh I
  obtain ⟨fa, fd, ps, hm, hk, hb, har, F⟩ := ok
  dsimp only at h
  refine wpAny_Call_Name_kw (ld_glob I hg hm ?_ hd)
  have go : ∀ us s1, AP X pins σ (fun vs H1 => spOf C X.K ps.length m vs H1 Q fun cls d H' => W cls d σ H') us s1 → wpAny (model X.prog X.w) X.A (call (.ref fa) us) (EP X pins σ Q) X.xe s1 := by
    rintro us s1 ⟨vs, H1, I1, rv, hsp⟩
    have hl2 : (us ++ []).length = ps.length := by rw [List.append_nil, ← rv.length]; exact F.len _ _ _ _ hsp
    refine wpAny_call (codeAny_mono (F.run X.A X.stack s1 H1 ⟨us, []⟩ (us ++ []) vs Q _ c.room c.grd I1.env0 (hb s1 us I1.kIn hl2) (by rw [List.append_nil]; exact rv) hsp) fun rr s' hq => ?_)
    cases rr with
    | error e => exact c.takes _ _ (XE.of_call I1 (fun _ _ _ z => z) hq)
    | ok fl =>
      cases fl with
      | ret u => exact I1.after hq
      | next => exact False.elim hq
      | brk => exact False.elim hq
      | cont => exact False.elim hq
  have sp : ∀ {r1 H1 xs vs st1}, Grow r H r1 H1 → RepS X.K r1 H1 st1 → Reps X.K r1 H1 xs vs → (m xs st1).sat (PostE X.K r H Q) (PostX C X.K W σ r H) → spOf C X.K ps.length m vs H1 Q fun cls d H' => W cls d σ H' := fun {r1 H1 xs vs st1} g1 hs1 hu h1 => by
    refine ⟨?_, r1, xs, st1, hu, hs1, Res.sat_mono h1 (fun v st2 hv => PostE.grow g1 hv) fun x st2 hx => PostX.grow g1 hx⟩
    rw [← hu.length]
    exact Classical.byContradiction fun z => by rw [har _ _ z] at h1; exact h1
  cases es with
  | nil =>
    rw [hn rfl] at h
    exact PySem.W.callWith_K0 I.kIn hk (go [] sh ⟨[], H, I, .nil, sp (Grow.refl _ _) hs .nil h⟩)
  | cons e0 rest =>
    rw [List.all_cons, Bool.and_eq_true] at hp
    have args : wA X (e0 :: rest) σ H fun vs H1 => spOf C X.K ps.length m vs H1 Q fun cls d H' => W cls d σ H' := by
      refine gl r s σ st H he hs _ (Res.sat_mono ((Res.sat_bnd _ _ _ _).mp h) (fun xs st1 hx r1 H1 u g1 hs1 hu => sp g1 hs1 hu hx) fun _ _ q => q)
    refine PySem.W.callWith_K (h₀ := X.base) I.ok.mod.kin hk (thn (args pos pins sh I) fun us s1 q => ?_) (starEach_plain (by simpa using hp.1) _ _) (any_plain hp.2)
    obtain ⟨vs, H1, I1, rv, hq⟩ := q
    exact ⟨I1.kIn, go us s1 ⟨vs, H1, I1, rv, hq⟩⟩

/-! ### built-ins by name -/
theorem good_bi (c : Cxt X W k) (b : BI) (hb : b ≠ .sortset) {x : Str} {p : Pos} (hg : Gl X x) (hd : (x == ("__debug__" : Str)) = false) (hx : x ≠ "__name__") (hm : X.mg x = none) (hv : bootBuiltins x = some b.val)
    (gl : GoodL C X W (e :: es) g) (hp : (e :: es).all (fun e => !isStar e) = true) : GoodE C X W (.Call (.Name x p) (e :: es) [] pos) (fun s st => (g s st).bnd fun xs st1 => optR (biP b xs st1) st1) := by
  intro r s σ st H he hs Q h
  rw [List.all_cons, Bool.and_eq_true] at hp
  have args : wA X (e :: es) σ H fun vs H1 => rBi X.K b vs H1 Q := by
    refine gl.use he hs (QB := fun r H => PostE X.K r H Q) h (fun g q => q.grow g) fun r1 H1 xs us st1 gr1 he1 hs1 hu h1 => ?_
    cases q : biP b xs st1 with
    | none => rw [q] at h1; exact h1.elim
    | some z => rw [q] at h1; exact ⟨r1, xs, st1, z, hs1, hu, q, h1⟩
  have hst := starEach_plain (e := e) (by simpa using hp.1) es X.env
  have hpl := any_plain (pos := pos) (env := X.env) hp.2
  cases hbv : b.val with
  | builtin id => exact w_pe (pe_callB (r := rBi X.K b) (by rw [← hbv]; exact call_bi c b hb) hg hm (by rw [hv, hbv]) pa_w hx hd hst hpl) args
  | type id => exact w_pe (pe_callTy (r := rBi X.K b) (by rw [← hbv]; exact call_bi c b hb) hg hm (by rw [hv, hbv]) pa_w hx hd hst hpl) args
  | _ => cases b <;> cases hbv
theorem boot_bi (b : BI) : bootBuiltins (Str.ofString b.name) = some b.val := by cases b <;> decide +kernel
theorem good_isi (t : TY) {p p2 : Pos} (hg : Gl X "isinstance") (hm : X.mg "isinstance" = none) (hg2 : Gl X (Str.ofString t.name)) (hm2 : X.mg (Str.ofString t.name) = none) (g1 : GoodE C X W e f) (hs' : isStar e = false) :
    GoodE C X W (.Call (.Name "isinstance" p) [e, .Name (Str.ofString t.name) p2] [] pos) (fun s st => (f s st).bnd fun x st1 => optR ((isiP t x st1).map .bl) st1) := by
  intro r s σ st H he hs Q h
  have hb : bootBuiltins (Str.ofString t.name) = some (.type t.name) := by cases t <;> decide +kernel
  have hn : Str.ofString t.name ≠ "__name__" := by cases t <;> decide +kernel
  have hd : (Str.ofString t.name == ("__debug__" : Str)) = false := by cases t <;> decide +kernel
  have p2 : PE X (.Name (Str.ofString t.name) p2) (tC (.ty t.name)) := pe_bltn hg2 hm2 hb rfl hn hd
  refine w_pe (pe_callB (call_isiP t) hg hm (by decide +kernel) (pa_cons pe_w (pa_cons p2 pa_nil) (starEach_plain hs' _ _)) (by decide +kernel) (by decide +kernel) (starEach_plain hs' _ _)) ?_
  refine g1.use he hs (QB := fun r H => PostE X.K r H Q) h (fun g q => q.grow g) fun r1 H1 x u st1 gr1 he1 hs1 hu h1 => ?_
  cases q : isiP t x st1 with
  | none => rw [q] at h1; exact h1.elim
  | some b => rw [q] at h1; exact ⟨r1, x, st1, u, b, rfl, hs1, hu, q, h1⟩

theorem good_isi2 (t t2 : TY) {n : Nat} {p q2 q3 tp : Pos} (hg : Gl X "isinstance") (hm : X.mg "isinstance" = none) (hg2 : Gl X (Str.ofString t.name)) (hm2 : X.mg (Str.ofString t.name) = none) (hg3 : Gl X (Str.ofString t2.name)) (hm3 : X.mg (Str.ofString t2.name) = none) (g1 : GoodE C X W e f) (hs' : isStar e = false) :
    GoodE C X W (.Call (.Name "isinstance" p) [e, .Tuple [.Name (Str.ofString t.name) q2, .Name (Str.ofString t2.name) q3] n tp] [] pos) (fun s st => (f s st).bnd fun x st1 => optR ((isiP t x st1).bind fun a => (isiP t2 x st1).map fun b => .bl (a || b)) st1) := by
  intro r s σ st H he hs Q h
  have name : ∀ (u : TY) (q : Pos), Gl X (Str.ofString u.name) → X.mg (Str.ofString u.name) = none → PE X (.Name (Str.ofString u.name) q) (tC (.ty u.name)) := fun u q h1 h2 =>
    pe_bltn h1 h2 (by cases u <;> decide +kernel) rfl (by cases u <;> decide +kernel) (by cases u <;> decide +kernel)
  refine w_pe (pe_callB call_isiT hg hm (by decide +kernel) (pa_cons pe_w (pa_cons (pe_tup (pa_cons (name t q2 hg2 hm2) (pa_cons (name t2 q3 hg3 hm3) pa_nil))) pa_nil) (starEach_plain hs' _ _)) (by decide +kernel) (by decide +kernel) (starEach_plain hs' _ _)) ?_
  refine g1.use he hs (QB := fun r H => PostE X.K r H Q) h (fun g q => q.grow g) fun r1 H1 x u st1 gr1 he1 hs1 hu h1 => ?_
  cases q : isiP t x st1 with
  | none => rw [q] at h1; exact h1.elim
  | some a =>
    cases q4 : isiP t2 x st1 with
    | none => rw [q, q4] at h1; exact h1.elim
    | some b =>
      rw [q, q4] at h1
      refine ⟨by rw [sizeLine_eq]; simp, fun tp htp => ?_⟩
      have gw : Grow r1 H1 r1 (upd H1 tp (.tup [.ty t.name, .ty t2.name])) := Grow.fresh hs1 htp
      have hs2 : RepS X.K r1 (upd H1 tp (.tup [.ty t.name, .ty t2.name])) st1 := hs1.fresh htp
      refine ⟨u, tp, [.ty t.name, .ty t2.name], _, [.type t.name, .type t2.name], a || b, rfl, upd_same, .cons (.ty _) (.cons (.ty _) .nil), tyX_rep hs2 (hu.grow gw) q, ?_, h1 r1 _ _ gw hs2 (.bl _)⟩
      unfold PySem.W.kitAny PySem.W.kitAny PySem.W.kitAny
      rw [kit_P X.K q, kit_P X.K q4]
      cases a <;> cases b <;> rfl
/-! ### methods -/
theorem base_plain {o : Expr} {nm : Str} {env : PySem.Env} {wh : Sem Value} (h : isCall0 o = false) : attributeBase o nm env wh = wh := by
  unfold attributeBase
  cases o with
  | Call f as ks p =>
    cases as with
    | nil => cases h
    | cons a as => cases f <;> rfl
  | _ => rfl
theorem good_append {o : Expr} {ap cp : Pos} {fo : Env → Sto → Res PV} (hl : (ap.endLine == cp.line) = true) (hc : isCall0 o = false) (go : GoodE C X W o fo) (gl : GoodL C X W [e] g) (hs' : isStar e = false) :
    GoodE C X W (.Call (.Attribute o "append" ap) [e] [] cp) (fun s st => (fo s st).bnd fun x st1 => if mOk .append x st1 then (g s st1).bnd fun xs st2 => mthP .append x xs st2 else .bad) := by
  intro r s σ st H he hs Q h
  refine w_pe (pe_bm PySem.F.plainAttrs_list PySem.F.slot_list_append PySem.F.type_list_append mt_append pe_w pa_w (base_plain hc) (by rw [starEach_plain hs']; rfl) hl (starEach_plain hs' _ _) rfl) ?_
  refine go.use he hs (QB := fun r H => PostE X.K r H Q) h (fun g q => q.grow g) fun r1 H1 x u st1 gr1 he1 hs1 hu h1 => ?_
  by_cases hx : ∃ n ys, x = .loc n ∧ st1[n]? = some (.lst ys)
  · obtain ⟨n, ys, rfl, hn⟩ := hx
    have hm : mOk .append (.loc n) st1 = true := by simp only [mOk, hn]
    rw [if_pos hm] at h1
    cases hu with
    | @loc a _ i =>
      obtain ⟨vs, h3, h4⟩ := hs1.obj _ _ _ i hn
      refine ⟨.inl ⟨rfl, vs, SqL.of h3⟩, ?_⟩
      refine gl.use he1 hs1 (QB := fun r H => PostE X.K r H Q) h1 (fun g q => q.grow g) fun r2 H2 xs us st2 gr2 he2 hs2 hus h2 => ?_
      have i2 : r2.pl[n]? = some a := gr2.get i
      cases hus with
      | nil => exact h2.elim
      | cons ha hb =>
        cases hb with
        | cons _ _ => exact h2.elim
        | nil =>
          simp only [mthP] at h2
          split at h2
          · split at h2
            · rename_i zs hz hlt
              obtain ⟨ws, h5, h6⟩ := hs2.obj _ _ _ i2 hz
              have hlen := h6.length
              refine ⟨a, ws, _, rfl, rfl, h5, by omega, ?_⟩
              exact h2 r2 _ _ (Grow.write hs2 i2) (hs2.write i2 (h6.append (.cons ha .nil))) .non
            · exact h2.elim
          · exact h2.elim
  · have hm : mOk .append x st1 = false := by
      cases x with
      | loc n =>
        simp only [mOk]
        split
        · rename_i ys hn; exact absurd ⟨n, ys, rfl, hn⟩ hx
        · rfl
      | _ => rfl
    rw [hm] at h1
    exact h1.elim
theorem good_extend {o : Expr} {ap cp : Pos} {fo : Env → Sto → Res PV} (hl : (ap.endLine == cp.line) = true) (hc : isCall0 o = false) (go : GoodE C X W o fo) (gl : GoodL C X W [e] g) (hs' : isStar e = false) :
    GoodE C X W (.Call (.Attribute o "extend" ap) [e] [] cp) (fun s st => (fo s st).bnd fun x st1 => if mOk .extend x st1 then (g s st1).bnd fun xs st2 => mthP .extend x xs st2 else .bad) := by
  intro r s σ st H he hs Q h
  refine w_pe (pe_bm PySem.F.plainAttrs_list PySem.F.slot_list_extend PySem.F.type_list_extend mt_ext pe_w pa_w (base_plain hc) (by rw [starEach_plain hs']; rfl) hl (starEach_plain hs' _ _) rfl) ?_
  refine go.use he hs (QB := fun r H => PostE X.K r H Q) h (fun g q => q.grow g) fun r1 H1 x u st1 gr1 he1 hs1 hu h1 => ?_
  by_cases hx : ∃ n ys, x = .loc n ∧ st1[n]? = some (.lst ys)
  · obtain ⟨n, ys, rfl, hn⟩ := hx
    have hm : mOk .extend (.loc n) st1 = true := by simp only [mOk, hn]
    rw [if_pos hm] at h1
    cases hu with
    | @loc a _ i =>
      obtain ⟨vs, h3, h4⟩ := hs1.obj _ _ _ i hn
      refine ⟨.inl ⟨rfl, vs, SqL.of h3⟩, ?_⟩
      refine gl.use he1 hs1 (QB := fun r H => PostE X.K r H Q) h1 (fun g q => q.grow g) fun r2 H2 xs us st2 gr2 he2 hs2 hus h2 => ?_
      have i2 : r2.pl[n]? = some a := gr2.get i
      cases hus with
      | nil => exact h2.elim
      | cons ha hb =>
        cases hb with
        | cons _ _ => exact h2.elim
        | nil =>
          simp only [mthP] at h2
          split at h2
          · split at h2
            · rename_i zs bb ys' hz hq hlt
              obtain ⟨ws, h5, h6⟩ := hs2.obj _ _ _ i2 hz
              obtain ⟨a2, vs2, rfl, hys, hq2⟩ := seqOf_rep hs2 ha hq
              have hlen := h6.length
              have hlen2 := hys.length
              refine ⟨a, a2, ws, vs2, rfl, rfl, h5, ?_, by omega, ?_⟩
              · cases bb with
                | true => exact .inl (by simpa using hq2)
                | false => exact .inr (by simpa using hq2)
              · exact h2 r2 _ _ (Grow.write hs2 i2) (hs2.write i2 (h6.append hys)) .non
            · exact h2.elim
          · exact h2.elim
  · have hm : mOk .extend x st1 = false := by
      cases x with
      | loc n =>
        simp only [mOk]
        split
        · rename_i ys hn; exact absurd ⟨n, ys, rfl, hn⟩ hx
        · rfl
      | _ => rfl
    rw [hm] at h1
    exact h1.elim
theorem good_join {o : Expr} {ap cp : Pos} {fo : Env → Sto → Res PV} (hl : (ap.endLine == cp.line) = true) (hc : isCall0 o = false) (go : GoodE C X W o fo) (gl : GoodL C X W [e] g) (hs' : isStar e = false) :
    GoodE C X W (.Call (.Attribute o "join" ap) [e] [] cp) (fun s st => (fo s st).bnd fun x st1 => if mOk .join x st1 then (g s st1).bnd fun xs st2 => mthP .join x xs st2 else .bad) := by
  intro r s σ st H he hs Q h
  refine w_pe (pe_bm PySem.F.plainAttrs_str PySem.F.slot_str_join PySem.F.type_str_join mt_join pe_w pa_w (base_plain hc) (by rw [starEach_plain hs']; rfl) hl (starEach_plain hs' _ _) rfl) ?_
  refine go.use he hs (QB := fun r H => PostE X.K r H Q) h (fun g q => q.grow g) fun r1 H1 x u st1 gr1 he1 hs1 hu h1 => ?_
  cases hu with
  | str z =>
    refine ⟨rfl, ?_⟩
    have h1 : ((g s st1).bnd fun xs st2 => mthP .join (.str z) xs st2).sat (PostE X.K r1 H1 Q) (PostX C X.K W σ r1 H1) := h1
    refine gl.use he1 hs1 (QB := fun r H => PostE X.K r H Q) h1 (fun g q => q.grow g) fun r2 H2 xs us st2 gr2 he2 hs2 hus h2 => ?_
    cases hus with
    | nil => exact h2.elim
    | cons ha hb =>
      cases hb with
      | cons _ _ => exact h2.elim
      | nil =>
        simp only [mthP] at h2
        split at h2
        · rename_i b ys e1
          split at h2
          · rename_i ws e2
            split at h2
            · rename_i hlen
              obtain ⟨a, vs, rfl, hy, hq⟩ := seqOf_rep hs2 ha e1
              have hv := strs_rep hy e2
              subst hv
              have q := PostE.val h2 hs2 (.str _)
              rw [cps_str] at q
              refine ⟨_, a, ws.map fun w => ⟨w.toArray⟩, rfl, rfl, ?_, ?_, q⟩
              · rw [List.map_map]
                cases b with
                | true =>
                  have hq : SqL X.K H2 a (ws.map fun s => V.str ⟨s.toArray⟩) := by simpa using hq
                  exact .inl hq
                | false =>
                  have hq : SqT X.K H2 a (ws.map fun s => V.str ⟨s.toArray⟩) := by simpa using hq
                  exact .inr hq
              · rw [List.map_map, List.length_map, lenStr]
                have : (List.map ((fun x : Str => x.length) ∘ fun w : List Nat => (⟨w.toArray⟩ : Str)) ws) = ws.map List.length := by
                  congr 1
                rw [this]; exact hlen
            · exact h2.elim
          · exact h2.elim
        · exact h2.elim
  | _ => exact h1.elim
theorem good_index (c : Cxt X W k) {o : Expr} {ap cp : Pos} {fo : Env → Sto → Res PV} (hl : (ap.endLine == cp.line) = true) (hc : isCall0 o = false) (go : GoodE C X W o fo) (gl : GoodL C X W [e] g) (hs' : isStar e = false) :
    GoodE C X W (.Call (.Attribute o "index" ap) [e] [] cp) (fun s st => (fo s st).bnd fun x st1 => if mOk .index x st1 then (g s st1).bnd fun xs st2 => mthP .index x xs st2 else .bad) := by
  intro r s σ st H he hs Q h
  refine w_pe (pe_bm PySem.F.plainAttrs_list PySem.F.slot_list_index PySem.F.type_list_index (mt_indexD (room_in c.room)) pe_w pa_w (base_plain hc) (by rw [starEach_plain hs']; rfl) hl (starEach_plain hs' _ _) rfl) ?_
  refine go.use he hs (QB := fun r H => PostE X.K r H Q) h (fun g q => q.grow g) fun r1 H1 x u st1 gr1 he1 hs1 hu h1 => ?_
  cases hx : seqOf st1 x with
  | none => simp only [mOk, hx] at h1; exact h1.elim
  | some p =>
    obtain ⟨b, ys⟩ := p
    cases b with
    | false => simp only [mOk, hx] at h1; exact h1.elim
    | true =>
      have hm : mOk .index x st1 = true := by simp only [mOk, hx]
      rw [if_pos hm] at h1
      obtain ⟨a, vs, rfl, hy, hq⟩ := seqOf_rep hs1 hu hx
      refine ⟨.inl ⟨rfl, vs, by simpa using hq⟩, ?_⟩
      refine gl.use he1 hs1 (QB := fun r H => PostE X.K r H Q) h1 (fun g q => q.grow g) fun r2 H2 xs us st2 gr2 he2 hs2 hus h2 => ?_
      cases hus with
      | nil => exact h2.elim
      | cons ha hb =>
        cases hb with
        | cons _ _ => exact h2.elim
        | nil =>
          simp only [mthP] at h2
          split at h2
          · rename_i zs d e1 e2
            split at h2
            · rename_i ds e3
              split at h2
              · rename_i ok
                rw [Bool.and_eq_true] at ok
                split at h2
                · rename_i j hj
                  obtain ⟨hlt, hyes, hno⟩ := List.findIdx?_eq_some_iff_getElem.mp hj
                  obtain ⟨a2, ws, e4, hz, hq2⟩ := seqOf_rep hs2 (hu.grow gr2) e1
                  cases e4
                  refine ⟨a, _, d, ds, j, ds[j], rfl, rfl, .lst (by simpa using hq2) (hz.dp e3), dataAt_dp hs2 ha e2, okShaped ok.2, okShaped ok.1, List.getElem?_eq_getElem hlt, hyes, fun m z hm hz' => ?_, h2 r2 H2 _ (Grow.refl _ _) hs2 (.int _)⟩
                  obtain ⟨hm2, e5⟩ := List.getElem?_eq_some_iff.mp hz'
                  have := hno m hm
                  rw [e5] at this
                  simpa using this
                · exact h2.elim
              · exact h2.elim
            · exact h2.elim
          · exact h2.elim
theorem good_pop {o : Expr} {ap cp : Pos} {fo : Env → Sto → Res PV} (hl : (ap.endLine == cp.line) = true) (hc : isCall0 o = false) (go : GoodE C X W o fo) (gl : GoodL C X W [e] g) (hs' : isStar e = false) :
    GoodE C X W (.Call (.Attribute o "pop" ap) [e] [] cp) (fun s st => (fo s st).bnd fun x st1 => if mOk .pop x st1 then (g s st1).bnd fun xs st2 => mthP .pop x xs st2 else .bad) := by
  intro r s σ st H he hs Q h
  refine w_pe (pe_bm PySem.F.plainAttrs_list PySem.F.slot_list_pop PySem.F.type_list_pop mt_popAt pe_w pa_w (base_plain hc) (by rw [starEach_plain hs']; rfl) hl (starEach_plain hs' _ _) rfl) ?_
  refine go.use he hs (QB := fun r H => PostE X.K r H Q) h (fun g q => q.grow g) fun r1 H1 x u st1 gr1 he1 hs1 hu h1 => ?_
  by_cases hx : ∃ n ys, x = .loc n ∧ st1[n]? = some (.lst ys)
  · obtain ⟨n, ys, rfl, hn⟩ := hx
    have hm : mOk .pop (.loc n) st1 = true := by simp only [mOk, hn]
    rw [if_pos hm] at h1
    cases hu with
    | @loc a _ i =>
      obtain ⟨vs, h3, h4⟩ := hs1.obj _ _ _ i hn
      refine ⟨.inl ⟨rfl, vs, SqL.of h3⟩, ?_⟩
      refine gl.use he1 hs1 (QB := fun r H => PostE X.K r H Q) h1 (fun g q => q.grow g) fun r2 H2 xs us st2 gr2 he2 hs2 hus h2 => ?_
      have i2 : r2.pl[n]? = some a := gr2.get i
      cases hus with
      | nil => exact h2.elim
      | @cons y v _ _ ha hb =>
        cases hb with
        | cons _ _ => cases y <;> exact h2.elim
        | nil =>
          cases y with
          | int k =>
            simp only [mthP] at h2
            split at h2
            · rename_i zs hz
              split at h2
              · rename_i h0
                split at h2
                · rename_i z hget
                  obtain ⟨ws, h5, h6⟩ := hs2.obj _ _ _ i2 hz
                  obtain ⟨wv, g1, g2⟩ := h6.get hget
                  have hlen := h6.length
                  have hlt := (List.getElem?_eq_some_iff.mp hget).1
                  cases ha
                  have gw : Grow r2 H2 r2 (upd H2 a (.lst (ws.eraseIdx k.toNat))) := Grow.write hs2 i2
                  refine ⟨a, ws, k, k.toNat, wv, rfl, rfl, h5, by omega, by omega, ?_, g1, h2 r2 _ _ gw (hs2.write i2 (h6.erase _)) (g2.grow gw)⟩
                  unfold seqIndex?
                  have hk : k = ((k.toNat : Nat) : Int) := by omega
                  rw [hk]
                  simp
                  omega
                · exact h2.elim
              · exact h2.elim
            · exact h2.elim
          | _ => exact h2.elim
  · have hm : mOk .pop x st1 = false := by
      cases x with
      | loc n =>
        simp only [mOk]
        split
        · rename_i ys hn; exact absurd ⟨n, ys, rfl, hn⟩ hx
        · rfl
      | _ => rfl
    rw [hm] at h1
    exact h1.elim
theorem good_upper {o : Expr} {ap cp : Pos} {fo : Env → Sto → Res PV} (hl : (ap.endLine == cp.line) = true) (hc : isCall0 o = false) (go : GoodE C X W o fo) :
    GoodE C X W (.Call (.Attribute o "upper" ap) [] [] cp) (fun s st => (fo s st).bnd fun x st1 => if mOk .upper x st1 then ((fun _ st => .ok [] st : Env → Sto → Res (List PV)) s st1).bnd fun xs st2 => mthP .upper x xs st2 else .bad) := by
  intro r s σ st H he hs Q h
  refine w_pe (pe_upper pe_w (base_plain hc) hl) (go.use he hs (QB := fun r H => PostE X.K r H Q) h (fun g q => q.grow g) fun r1 H1 x u st1 gr1 he1 hs1 hu h1 => ?_)
  cases hu with
  | str z =>
    refine ⟨⟨_, rfl⟩, _, rfl, rfl, ?_⟩
    have h1 : (if z.length ≤ 5592405 then (.ok (.str (Txt.upper ⟨z.toArray⟩).cps.toList) st1 : Res PV) else .bad).sat (PostE X.K r1 H1 Q) (PostX C X.K W σ r1 H1) := h1
    split at h1
    · rename_i hz
      have q := PostE.val h1 hs1 (.str _)
      rw [cps_str] at q
      exact ⟨by rw [lenStr]; exact hz, q⟩
    · exact h1.elim
  | _ => exact h1.elim
end
end MP

/-! MP, part k: targets, and what a loop walks. -/
namespace MP
open PySem PySem.Spec PyProof.Rows L2

/-! ### targets -/
theorem wipe_set {σ : L2.St} {i : Nat} {x : Option V} : ∀ {vs : List Nat}, i ∈ vs → wipe (σ.set i x) vs = wipe σ vs
  | [], h => by cases h
  | v :: vs, h => by
    unfold wipe
    by_cases hv : i ∈ vs
    · rw [wipe_set hv]
    · have e : i = v := by rcases List.mem_cons.mp h with z | z; exact z; exact absurd z hv
      subst e
      have key : ∀ ws : List Nat, i ∉ ws → wipe (σ.set i x) ws = (wipe σ ws).set i x := by
        intro ws
        induction ws with
        | nil => intro _; rfl
        | cons w ws ih =>
          intro hw
          show (wipe (σ.set i x) ws).set w none = ((wipe σ ws).set w none).set i x
          rw [ih fun m => hw (List.mem_cons_of_mem _ m), List.set_comm _ _ fun z => hw (by rw [z]; exact List.mem_cons_self)]
      rw [key vs hv, List.set_set]
theorem locB_loc {sc : Scope} {fn : Str → Bool} {x : Str} (h : locB sc fn x = true) : Loc sc x ∧ (fn x = true ∨ sc.names.lookup x = some .local) := by
  unfold locB at h
  split at h
  · rename_i e; exact ⟨.inl e, .inr e⟩
  · rename_i e; exact ⟨.inr e, .inl h⟩
  · cases h
theorem chkT_star {c : KC} {sc fn} : ∀ {t : RT} {e : Expr}, chkT c sc fn t e = true → (∀ es env, assignEach (e :: es) env = (false, assign e env) :: assignEach es env) := by
  intro t e h es env
  cases t <;> cases e <;> first | rfl | (simp [chkT] at h)
/-- where code stands -/
structure At (c : KC) (sc : Scope) (fn : Str → Bool) (X : Cx) (W : WX) (k : Nat) : Prop where
  cx : Cxt X W k
  N : X.N = c.N
  sc : X.env.scope = sc
  fn : X.fn = fn
theorem good_target {c : KC} {sc fn X W k} (a : At c sc fn X W k) (st : Sto) : ∀ (t : RT) (e : Expr), chkT c sc fn t e = true → ∀ (r : Rg) (H : Hp) (s : Env) (σ : L2.St) (v : PV) (u : V) (s1 : Env), RepE X.K r H s σ → Rep X.K r H v u → bindT st t v s = some s1 →
    ∀ Q : L2.St → Hp → Prop, (∀ σ1, RepE X.K r H s1 σ1 → (∀ vs : List Nat, (∀ i ∈ slotsT t, i ∈ vs) → wipe σ1 vs = wipe σ vs) → Q σ1 H) → wG X e u σ H Q
  | .name i, e, h => by
    intro r H s σ v u s1 he hv hb Q hQ
    cases e <;> try (simp [chkT] at h; done)
    rename_i x pos
    simp only [chkT, Bool.and_eq_true, decide_eq_true_eq] at h
    obtain ⟨l1, l2⟩ := locB_loc h.2
    cases hb
    refine w_pg (pg_name a.cx.nd (by rw [a.N]; exact h.1) (by rw [a.sc]; exact l1) (by rw [a.fn, a.sc]; exact l2)) (hQ _ (he.set i hv) fun vs hvs => wipe_set (hvs i (by simp [slotsT])))
  | .pair t1 t2, e, h => by
    intro r H s σ v u s1 he hv hb Q hQ
    cases e <;> try (simp [chkT] at h; done)
    rename_i es n pos
    rcases es with _ | ⟨x, _ | ⟨y, _ | ⟨z, es⟩⟩⟩ <;> try (simp [chkT] at h; done)
    simp only [chkT, Bool.and_eq_true] at h
    unfold bindT at hb
    split at hb
    · rename_i p q
      obtain ⟨s2, e1, e2⟩ := Option.bind_eq_some_iff.mp hb
      have hx := chkT_star h.1
      have hy := chkT_star h.2
      have as : assignEach [x, y] X.env = [(false, assign x X.env), (false, assign y X.env)] := by rw [hx, hy]; rfl
      refine w_pg (pg_tup (n := 2) a.cx.calm (pgs_cons pg_w (pgs_cons pg_w pgs_nil (by rw [hy]; rfl)) (by rw [hx]; rfl)) (by rw [as]; rfl) (by rw [as]; rfl)) ?_
      cases hv with
      | tup im hq =>
        cases hq with
        | cons h1 hq =>
          cases hq with
          | cons h2 hq =>
            cases hq
            refine ⟨_, _, rfl, im.sq, rfl, _, _, rfl, ?_⟩
            refine good_target a st t1 x h.1 r H s σ p _ s2 he h1 e1 _ fun σ1 he1 w1 => ⟨_, _, rfl, ?_⟩
            refine good_target a st t2 y h.2 r H s2 σ1 q _ s1 he1 h2 e2 _ fun σ2 he2 w2 => ⟨rfl, hQ σ2 he2 fun vs hvs => ?_⟩
            rw [w2 vs fun i m => hvs i (List.mem_append_right _ m), w1 vs fun i m => hvs i (List.mem_append_left _ m)]
    · cases hb
  | .trip t1 t2 t3, e, h => by
    intro r H s σ v u s1 he hv hb Q hQ
    cases e <;> try (simp [chkT] at h; done)
    rename_i es n pos
    rcases es with _ | ⟨x, _ | ⟨y, _ | ⟨z, _ | ⟨z2, es⟩⟩⟩⟩ <;> try (simp [chkT] at h; done)
    simp only [chkT, Bool.and_eq_true] at h
    unfold bindT at hb
    split at hb
    · rename_i p q o
      obtain ⟨s2, e1, e2⟩ := Option.bind_eq_some_iff.mp hb
      obtain ⟨s3, e2, e3⟩ := Option.bind_eq_some_iff.mp e2
      have hx := chkT_star h.1.1
      have hy := chkT_star h.1.2
      have hz := chkT_star h.2
      have as : assignEach [x, y, z] X.env = [(false, assign x X.env), (false, assign y X.env), (false, assign z X.env)] := by rw [hx, hy, hz]; rfl
      refine w_pg (pg_tup (n := 3) a.cx.calm (pgs_cons pg_w (pgs_cons pg_w (pgs_cons pg_w pgs_nil (by rw [hz]; rfl)) (by rw [hy]; rfl)) (by rw [hx]; rfl)) (by rw [as]; rfl) (by rw [as]; rfl)) ?_
      cases hv with
      | tup im hq =>
        cases hq with
        | cons h1 hq =>
          cases hq with
          | cons h2 hq =>
            cases hq with
            | cons h3 hq =>
              cases hq
              refine ⟨_, _, rfl, im.sq, rfl, _, _, rfl, ?_⟩
              refine good_target a st t1 x h.1.1 r H s σ p _ s2 he h1 e1 _ fun σ1 he1 w1 => ⟨_, _, rfl, ?_⟩
              refine good_target a st t2 y h.1.2 r H s2 σ1 q _ s3 he1 h2 e2 _ fun σ2 he2 w2 => ⟨_, _, rfl, ?_⟩
              refine good_target a st t3 z h.2 r H s3 σ2 o _ s1 he2 h3 e3 _ fun σ3 he3 w3 => ⟨rfl, hQ σ3 he3 fun vs hvs => ?_⟩
              rw [w3 vs fun i m => hvs i (List.mem_append_right _ (List.mem_append_right _ m)), w2 vs fun i m => hvs i (List.mem_append_right _ (List.mem_append_left _ m)), w1 vs fun i m => hvs i (List.mem_append_left _ m)]
    · cases hb

/-! ### what is walked -/
/-- a turn that yields the thing x -/
def Yields (K : PySem.W.Frag) (J : It) (r : Rg) (H : Hp) (st : Sto) (i : Nat) (x : PV) : Prop :=
  J.go i H ∧ ∀ u H', J.yld i H u H' → Grow r H r H' ∧ RepS K r H' st ∧ Rep K r H' x u
def WalkI (K : PySem.W.Frag) (r0 : Rg) (H0 : Hp) (J : It) (xs : List PV) : Prop :=
  ∀ i r H st, Carry r0 H0 r H → RepS K r H st → (∀ x, xs[i]? = some x → Yields K J r H st i x) ∧ (xs.length = i → J.stop i H)
def WalkA (K : PySem.W.Frag) (r0 : Rg) (H0 : Hp) (J : It) (n : Nat) (e : Bool) : Prop :=
  ∀ i r H st ys, Carry r0 H0 r H → RepS K r H st → st[n]? = some (.lst ys) → (∀ x, ys[i]? = some x → Yields K J r H st i (itA e i x)) ∧ (ys.length ≤ i → J.stop i H)
def WalkS (K : PySem.W.Frag) (r0 : Rg) (H0 : Hp) (J : It) : Src → Prop
  | .its xs => WalkI K r0 H0 J xs
  | .at n _ e => WalkA K r0 H0 J n e
def GoodI (C : CT) (X : Cx) (W : WX) (tg e : Expr) (f : Env → Sto → Res Src) : Prop :=
  ∀ r s σ st H, RepE X.K r H s σ → RepS X.K r H st → ∀ R : It → Hp → Prop, (f s st).sat (fun src st1 => ∀ r' H' J, Grow r H r' H' → RepS X.K r' H' st1 → WalkS X.K r' H' J src → R J H') (PostX C X.K W σ r H) → wI X tg e σ H R

theorem ImL.carry {K r r' H H'} (g : Carry r H r' H') {a : Addr} {xs : List V} (h : ImL K r H a xs) : ImL K r' H' a xs := h.imp (fun z => g.rdq z.1 z.2) id
theorem ImT.carry {K r r' H H'} (g : Carry r H r' H') {a : Addr} {xs : List V} (h : ImT K r H a xs) : ImT K r' H' a xs := h.imp (fun z => g.rdq z.1 z.2) id
theorem walk_imL {K r H a vs xs} (im : ImL K r H a vs) (hq : Reps K r H xs vs) : WalkI K r H (Itl K a) xs := by
  intro i r1 H1 st g hs
  have q := (im.carry g).sq
  refine ⟨fun x hx => ?_, fun e => ⟨vs, q, by rw [← hq.length, e]; exact Nat.le_refl _⟩⟩
  obtain ⟨v, hv, rv⟩ := hq.get hx
  refine ⟨⟨vs, v, q, hv⟩, fun u H' y => ?_⟩
  obtain ⟨rfl, y⟩ := y
  have : some v = some u := hv.symm.trans (y vs q)
  cases this
  exact ⟨Grow.refl _ _, hs, rv.carry g⟩
theorem walk_imT {K r H a vs xs} (im : ImT K r H a vs) (hq : Reps K r H xs vs) : WalkI K r H (Itt K a) xs := by
  intro i r1 H1 st g hs
  have q := (im.carry g).sq
  refine ⟨fun x hx => ?_, fun e => ⟨vs, q, by rw [← hq.length, e]; exact Nat.le_refl _⟩⟩
  obtain ⟨v, hv, rv⟩ := hq.get hx
  refine ⟨⟨vs, v, q, hv⟩, fun u H' y => ?_⟩
  obtain ⟨rfl, y⟩ := y
  have : some v = some u := hv.symm.trans (y vs q)
  cases this
  exact ⟨Grow.refl _ _, hs, rv.carry g⟩
theorem rngL_length : ∀ (lo : Int) (n : Nat), (rngL lo n).length = n
  | _, 0 => rfl
  | lo, n + 1 => by show (rngL (lo + 1) n).length + 1 = n + 1; rw [rngL_length]
theorem rngL_get : ∀ (lo : Int) (n i : Nat), i < n → (rngL lo n)[i]? = some (.int (lo + i))
  | lo, n + 1, 0, _ => by show some (PV.int lo) = _; simp
  | lo, n + 1, i + 1, h => by
    show (rngL (lo + 1) n)[i]? = _
    rw [rngL_get _ _ _ (by omega)]
    congr 2
    omega
theorem walk_rng {K r H} (lo : Int) (n : Nat) : WalkI K r H (Itr lo n) (rngL lo n) := by
  intro i r1 H1 st g hs
  refine ⟨fun x hx => ?_, fun e => by rw [rngL_length] at e; exact Nat.le_of_eq e⟩
  have hl : i < n := by
    have := (List.getElem?_eq_some_iff.mp hx).1
    rwa [rngL_length] at this
  rw [rngL_get _ _ _ hl] at hx
  cases hx
  refine ⟨hl, fun u H' y => ?_⟩
  obtain ⟨rfl, rfl⟩ := y
  exact ⟨Grow.refl _ _, hs, .int _⟩
theorem walk_str {K r H} (s : List Nat) : WalkI K r H (Its ⟨s.toArray⟩) (s.map fun c => .str [c]) := by
  intro i r1 H1 st g hs
  refine ⟨fun x hx => ?_, fun e => by simp at e; show s.toArray.size ≤ i; simp [e]⟩
  rw [List.getElem?_map] at hx
  obtain ⟨ch, e1, rfl⟩ := Option.map_eq_some_iff.mp hx
  have hl := (List.getElem?_eq_some_iff.mp e1).1
  refine ⟨by show i < s.toArray.size; simpa using hl, fun u H' y => ?_⟩
  obtain ⟨rfl, c2, e2, rfl⟩ := y
  have e2 : s.toArray[i]? = some c2 := e2
  rw [List.getElem?_toArray, e1] at e2
  cases e2
  exact ⟨Grow.refl _ _, hs, .str [ch]⟩
theorem walk_loc {K r H a n} (h : r.pl[n]? = some a) : WalkA K r H (Itl K a) n false := by
  intro i r1 H1 st ys g hs hn
  obtain ⟨vs, h3, h4⟩ := hs.obj _ _ _ (g.get _ _ h) hn
  have q : SqL K H1 a vs := SqL.of h3
  refine ⟨fun x hx => ?_, fun e => ⟨vs, q, by rw [← h4.length]; exact e⟩⟩
  obtain ⟨v, hv, rv⟩ := h4.get hx
  refine ⟨⟨vs, v, q, hv⟩, fun u H' y => ?_⟩
  obtain ⟨rfl, y⟩ := y
  have : some v = some u := hv.symm.trans (y vs q)
  cases this
  exact ⟨Grow.refl _ _, hs, rv⟩
theorem yields_pair {K r H st} {i : Nat} {x y : PV} {v w : V} {T : Addr} (hs : RepS K r H st) (hT : H T = none) (hx : Rep K r H x v) (hy : Rep K r H y w) :
    Grow r H r (upd H T (.tup [v, w])) ∧ RepS K r (upd H T (.tup [v, w])) st ∧ Rep K r (upd H T (.tup [v, w])) (.tup [x, y]) (.ref T) := by
  have g : Grow r H r (upd H T (.tup [v, w])) := Grow.fresh hs hT
  exact ⟨g, hs.fresh hT, .tup (.inl ⟨.inl upd_same, hs.notin hT⟩) (.cons (hx.grow g) (.cons (hy.grow g) .nil))⟩
theorem enumL_length : ∀ (k : Int) (xs : List PV), (enumL k xs).length = xs.length
  | _, [] => rfl
  | k, x :: xs => by show (enumL (k + 1) xs).length + 1 = _; rw [enumL_length]; rfl
theorem enumL_get : ∀ (k : Int) (xs : List PV) (i : Nat), (enumL k xs)[i]? = (xs[i]?).map fun x => .tup [.int (k + i), x]
  | _, [], i => by simp [enumL]
  | k, x :: xs, 0 => by simp [enumL]
  | k, x :: xs, i + 1 => by
    show (enumL (k + 1) xs)[i]? = (xs[i]?).map _
    rw [enumL_get]
    congr 1
    funext y
    congr 3
    omega
theorem walk_enumL {K r H a vs xs} (im : ImL K r H a vs) (hq : Reps K r H xs vs) : WalkI K r H (Ite K a) (enumL 0 xs) := by
  intro i r1 H1 st g hs
  have q := (im.carry g).sq
  refine ⟨fun x hx => ?_, fun e => ⟨vs, q, by rw [← hq.length, ← enumL_length 0, e]; exact Nat.le_refl _⟩⟩
  rw [enumL_get] at hx
  obtain ⟨y, ey, rfl⟩ := Option.map_eq_some_iff.mp hx
  obtain ⟨v, hv, rv⟩ := hq.get ey
  refine ⟨⟨vs, v, q, hv⟩, fun u H' y => ?_⟩
  obtain ⟨T, w, rfl, hT, rfl, y⟩ := y
  have : some v = some w := hv.symm.trans (y vs q)
  cases this
  have z := yields_pair (i := i) (x := .int (0 + i)) hs hT (by rw [Int.zero_add]; exact .int (i : Nat)) (rv.carry g)
  exact z
theorem walk_enumA {K r H a n} (h : r.pl[n]? = some a) : WalkA K r H (Ite K a) n true := by
  intro i r1 H1 st ys g hs hn
  obtain ⟨vs, h3, h4⟩ := hs.obj _ _ _ (g.get _ _ h) hn
  have q : SqL K H1 a vs := SqL.of h3
  refine ⟨fun x hx => ?_, fun e => ⟨vs, q, by rw [← h4.length]; exact e⟩⟩
  obtain ⟨v, hv, rv⟩ := h4.get hx
  refine ⟨⟨vs, v, q, hv⟩, fun u H' y => ?_⟩
  obtain ⟨T, w, rfl, hT, rfl, y⟩ := y
  have : some v = some w := hv.symm.trans (y vs q)
  cases this
  exact yields_pair (i := i) hs hT (.int (i : Nat)) rv
theorem zipL_length : ∀ (xs ys : List PV), (zipL xs ys).length = min xs.length ys.length
  | [], _ => by simp [zipL]
  | _ :: _, [] => by simp [zipL]
  | x :: xs, y :: ys => by simp only [zipL, List.length_cons, zipL_length xs ys]; omega
theorem zipL_get : ∀ (xs ys : List PV) (i : Nat) (z : PV), (zipL xs ys)[i]? = some z → ∃ x y, xs[i]? = some x ∧ ys[i]? = some y ∧ z = .tup [x, y]
  | [], _, i, z, h => by simp [zipL] at h
  | _ :: _, [], i, z, h => by simp [zipL] at h
  | x :: xs, y :: ys, 0, z, h => by simp [zipL] at h; exact ⟨x, y, rfl, rfl, h.symm⟩
  | x :: xs, y :: ys, i + 1, z, h => by
    obtain ⟨p, q, h1, h2, h3⟩ := zipL_get xs ys i z (by simpa [zipL] using h)
    exact ⟨p, q, by simpa using h1, by simpa using h2, h3⟩
theorem walk_zipL {K r H a b vs ws xs ys} (im : ImL K r H a vs) (hq : Reps K r H xs vs) (im2 : ImL K r H b ws) (hq2 : Reps K r H ys ws) : WalkI K r H (Itz K a b) (zipL xs ys) := by
  intro i r1 H1 st g hs
  have q := (im.carry g).sq
  have q2 := (im2.carry g).sq
  refine ⟨fun z hz => ?_, fun e => ⟨vs, ws, q, q2, ?_⟩⟩
  · obtain ⟨x, y, hx, hy, rfl⟩ := zipL_get _ _ _ _ hz
    obtain ⟨v, hv, rv⟩ := hq.get hx
    obtain ⟨w, hw, rw'⟩ := hq2.get hy
    refine ⟨⟨vs, ws, v, w, q, q2, hv, hw⟩, fun u H' y => ?_⟩
    obtain ⟨T, v', w', rfl, hT, rfl, y1, y2⟩ := y
    have h1 : some v = some v' := hv.symm.trans (y1 vs q)
    have h2 : some w = some w' := hw.symm.trans (y2 ws q2)
    cases h1; cases h2
    exact yields_pair (i := i) hs hT (rv.carry g) (rw'.carry g)
  · rw [zipL_length, hq.length, hq2.length] at e
    omega
theorem walk_zipT {K r H a b vs ws xs ys} (im : ImT K r H a vs) (hq : Reps K r H xs vs) (im2 : ImT K r H b ws) (hq2 : Reps K r H ys ws) : WalkI K r H (RZ.ItzT K a b) (zipL xs ys) := by
  intro i r1 H1 st g hs
  have q := (im.carry g).sq
  have q2 := (im2.carry g).sq
  refine ⟨fun z hz => ?_, fun e => ⟨vs, ws, q, q2, ?_⟩⟩
  · obtain ⟨x, y, hx, hy, rfl⟩ := zipL_get _ _ _ _ hz
    obtain ⟨v, hv, rv⟩ := hq.get hx
    obtain ⟨w, hw, rw'⟩ := hq2.get hy
    refine ⟨⟨vs, ws, v, w, q, q2, hv, hw⟩, fun u H' y => ?_⟩
    obtain ⟨T, v', w', rfl, hT, rfl, y1, y2⟩ := y
    have h1 : some v = some v' := hv.symm.trans (y1 vs q)
    have h2 : some w = some w' := hw.symm.trans (y2 ws q2)
    cases h1; cases h2
    exact yields_pair (i := i) hs hT (rv.carry g) (rw'.carry g)
  · rw [zipL_length, hq.length, hq2.length] at e
    omega

section
variable {C : CT} {X : Cx} {W : WX} {k : Nat} {e e1 e2 tg : Expr} {pos : Pos} {f f1 f2 : Env → Sto → Res PV}
theorem good_iseq (g1 : GoodE C X W e f) : GoodI C X W tg e (fun s st => (f s st).bnd fun x st1 => optR (srcOf st1 x) st1) := by
  intro r s σ st H he hs R h pins sh I
  have key : wE X e σ H fun u H1 => ∃ r1 st1 x src, RepS X.K r1 H1 st1 ∧ Rep X.K r1 H1 x u ∧ srcOf st1 x = some src ∧ ∀ J, WalkS X.K r1 H1 J src → R J H1 := by
    refine g1.use he hs (QB := fun r H src st1 => ∀ r' H' J, Grow r H r' H' → RepS X.K r' H' st1 → WalkS X.K r' H' J src → R J H') h (fun g q r' H' J g2 => q r' H' J (g.trans g2)) fun r1 H1 x u st1 gr1 he1 hs1 hu h1 => ?_
    cases q : srcOf st1 x with
    | none => rw [q] at h1; exact h1.elim
    | some src => rw [q] at h1; exact ⟨r1, st1, x, src, hs1, hu, q, fun J w => h1 r1 H1 J (Grow.refl _ _) hs1 w⟩
  -- the kind of the value says which iterator comes
  refine thn (key pins sh I) fun v s1 hv => ?_
  obtain ⟨u, H1, I1, ru, r1, st1, x, src, hs1, hu, hq, q⟩ := hv
  have one : ∀ {t : TI}, (∀ te : TE, PE X e te → True) → True := fun _ => trivial
  cases hu with
  | non => cases hq
  | bl b => cases hq
  | int i => cases hq
  | dct _ _ => cases hq
  | str z =>
    cases hq
    obtain ⟨t, rfl⟩ := ru
    cases ha : (⟨z.toArray⟩ : Str).cps.all (· < 128)
    · exact wpAny_pyIter_wide ha (pi_one (tk := s1.toks) I1 _ (turn_str _ _ t "str_iterator" (.inr rfl)) ⟨_, Heap.get?_push_size _ rfl, rfl, rfl⟩ (q _ (walk_str z)))
    · exact wpAny_pyIter_ascii ha (pi_one (tk := s1.toks) I1 _ (turn_str _ _ t "str_ascii_iterator" (.inl rfl)) ⟨_, Heap.get?_push_size _ rfl, rfl, rfl⟩ (q _ (walk_str z)))
  | tup im hx =>
    cases hq
    cases ru
    obtain ⟨its, rv, p, hz⟩ := I1.tuple im.sq
    exact wpAny_pyIter_tuple (show s1.heap.IsTuple _ its.toArray from p) (pi_one (tk := s1.toks) I1 _ (turn_tuple _ _) ⟨_, Heap.get?_push_size _ rfl, rfl, rfl⟩ (q _ (walk_imT im hx)))
  | lst im hx =>
    cases hq
    cases ru
    obtain ⟨its, rv, p, hz⟩ := I1.list im.sq
    exact wpAny_pyIter_list p.isList (pi_one (tk := s1.toks) I1 _ (turn_list _ _) ⟨_, Heap.get?_push_size _ rfl, rfl, rfl⟩ (q _ (walk_imL im hx)))
  | loc hn =>
    simp only [srcOf] at hq
    split at hq
    · rename_i xs h2
      cases hq
      cases ru
      obtain ⟨vs, h3, h4⟩ := hs1.obj _ _ _ hn h2
      obtain ⟨its, rv, p, hz⟩ := I1.list (SqL.of h3)
      exact wpAny_pyIter_list p.isList (pi_one (tk := s1.toks) I1 _ (turn_list _ _) ⟨_, Heap.get?_push_size _ rfl, rfl, rfl⟩ (q _ (walk_loc hn)))
    · cases hq
/-- what a walk asks -/
def PostI (K : PySem.W.Frag) (R : It → Hp → Prop) (r : Rg) (H : Hp) : Src → Sto → Prop := fun src st1 => ∀ r' H' J, Grow r H r' H' → RepS K r' H' st1 → WalkS K r' H' J src → R J H'
theorem PostI.grow {K R r H r1 H1 src st} (g : Grow r H r1 H1) (h : PostI K R r H src st) : PostI K R r1 H1 src st := fun r' H' J g2 => h r' H' J (g.trans g2)
theorem pa_one (hs' : isStar e = false) : PA X [e] (fun σ H Q => wE X e σ H fun v H1 => Q [v] H1) := by
  refine ⟨fun pos pins s σ H Q I h => ?_⟩
  exact (pa_cons pe_w pa_nil (starEach_plain hs' _ _)).run pos pins s σ H Q I h
theorem good_irng {p : Pos} (hg : Gl X "range") (hm : X.mg "range" = none) (g1 : GoodE C X W e f) (hs' : isStar e = false) : GoodI C X W tg (.Call (.Name "range" p) [e] [] pos) (fun s st => (f s st).bnd fun x st1 => match x with
    | .int n => if -(2 ^ 62) ≤ n ∧ n < 2 ^ 62 then .ok (.its (rngL 0 n.toNat)) st1 else .bad
    | _ => .bad) := by
  intro r s σ st H he hs R h
  refine w_pi (pi_range1 hg hm (pa_one hs') (starEach_plain hs' _ _)) ?_
  refine g1.use he hs (QB := PostI X.K R) h (fun g q => q.grow g) fun r1 H1 x u st1 gr1 he1 hs1 hu h1 => ?_
  cases hu with
  | int n =>
    dsimp only at h1
    split at h1
    · rename_i hn
      exact ⟨n, rfl, hn.1, hn.2, h1 r1 H1 _ (Grow.refl _ _) hs1 (walk_rng 0 n.toNat)⟩
    · exact h1.elim
  | _ => exact h1.elim
theorem good_irng2 {p : Pos} (hg : Gl X "range") (hm : X.mg "range" = none) (g1 : GoodE C X W e1 f1) (g2 : GoodE C X W e2 f2) (hs1' : isStar e1 = false) (hs2' : isStar e2 = false) : GoodI C X W tg (.Call (.Name "range" p) [e1, e2] [] pos) (fun s st => (f1 s st).bnd fun x st1 => (f2 s st1).bnd fun y st2 => match x, y with
    | .int m, .int n => if -(2 ^ 62) ≤ m ∧ m < 2 ^ 62 ∧ -(2 ^ 62) ≤ n ∧ n < 2 ^ 62 then .ok (.its (rngL m (n - m).toNat)) st2 else .bad
    | _, _ => .bad) := by
  intro r s σ st H he hs R h
  refine w_pi (pi_range2 hg hm (pa_cons pe_w (pa_cons pe_w pa_nil (starEach_plain hs2' _ _)) (starEach_plain hs1' _ _)) (by rw [starEach_plain hs1', starEach_plain hs2']; rfl) (starEach_plain hs2' _ _)) ?_
  refine g1.use he hs (QB := PostI X.K R) h (fun g q => q.grow g) fun r1 H1 x u st1 gr1 he1 hs1 hu h1 => ?_
  refine g2.use he1 hs1 (QB := PostI X.K R) h1 (fun g q => q.grow g) fun r2 H2 y w st2 gr2 he2 hs2 hw h2 => ?_
  cases hu with
  | int m =>
    cases hw with
    | int n =>
      dsimp only at h2
      split at h2
      · rename_i hn
        exact ⟨m, n, rfl, hn, h2 r2 H2 _ (Grow.refl _ _) hs2 (walk_rng m _)⟩
      · exact h2.elim
    | _ => exact h2.elim
  | _ => cases hw <;> exact h2.elim
end
end MP

/-! MP, part k2: enumerate over a tuple. -/
namespace MP
open PySem PySem.Spec PyProof.Rows L2

theorem meets_enum1 {v : Value} {o : Obj} {Hp' : Heap → Prop} (B : Begins v o Hp') :
    Meets (Builtin.«enumerate.__new__» ⟨[.type "enumerate", v], []⟩) (fun _ R s => Hp' s.heap ∧ R (.ok (.ret (.ref (s.heap.push o).objs.size))) { s with heap := (s.heap.push o).push { cls := .type "enumerate", data := .fields #[.none, .bool false, .ref s.heap.objs.size, rawInt 0, .none, .none] } }) :=
  .of_wp fun prog w A R s h => by
    obtain ⟨hp, g, d, tk, os⟩ := s
    obtain ⟨h1, h⟩ := h
    have hsub := sub_enumerate
    have it1 : ∀ {A' : Around} {E : Value → Shared → Prop} {Q : Value → Shared → Prop}, Q (.ref hp.objs.size) ⟨hp.push o, g, d, tk, os⟩ → wpAny (model prog w) A' (pyIter v) Q E ⟨hp, g, d, tk, os⟩ :=
      fun q => B.iter prog w _ _ ⟨hp, g, d, tk, os⟩ _ h1 q
    wp_walk
    refine wpAny_stack_any fun st => wpAny_pure ?_
    split
    · rename_i c _ _ _ _ _
      cases (c == Value.type "enumerate")
      · wp_walk using it1
        exact ⟨_, rfl, h⟩
      · wp_walk using it1
        exact ⟨_, rfl, h⟩
    · wp_walk using it1
      exact ⟨_, rfl, h⟩
theorem call_enum1 {prog : Program} {w : World} {A : Around} {E : Value → Shared → Prop} {s : Shared} {v : Value} {o : Obj} {Hp' : Heap → Prop} {Q : Value → Shared → Prop} (B : Begins v o Hp') (h1 : Hp' s.heap)
    (h : ∀ h', IsEnum h' (s.heap.objs.size + 1) s.heap.objs.size 0 .none → h'.get? s.heap.objs.size = some o → (∀ b o, s.heap.get? b = some o → h'.get? b = some o) → Q (.ref (s.heap.objs.size + 1)) { s with heap := h' }) :
    wpAny (model prog w) A (call (.type "enumerate") [v]) Q E s := by
  refine callType_new F.called_enumerate (by decide) (F.typeCall_enumerate_1 _) (F.newCall_enumerate_1 _) (fun obj => F.args_object_init_2 obj _) F.entry_enumerate_new (meets_enum1 B) ⟨h1, ?_⟩
  have hz : (s.heap.push o).objs.size = s.heap.objs.size + 1 := Heap.size_push ..
  show _ ∧ _
  rw [hz]
  generalize ho : ({ cls := .type "enumerate", data := .fields #[.none, .bool false, .ref s.heap.objs.size, rawInt 0, .none, .none] } : Obj) = oe
  have he : ((s.heap.push o).push oe).get? (s.heap.objs.size + 1) = some oe := by
    have q := Heap.get?_push_size (s.heap.push o) (o := oe) (by rw [← ho]; rfl)
    rw [hz] at q; exact q
  have he2 : IsEnum ((s.heap.push o).push oe) (s.heap.objs.size + 1) s.heap.objs.size 0 .none := by
    unfold IsEnum
    rw [he, ← ho]
  exact ⟨⟨_, he, by rw [← ho]⟩, h _ he2 (Heap.get?_push_of_some _ (Heap.get?_push_size _ B.free)) fun b o x => Heap.get?_push_of_some _ (Heap.get?_push_of_some _ x)⟩

/-- the tuple at a, each item in a new pair -/
def IteT (K : PySem.W.Frag) (a : Addr) : It :=
  ⟨fun i H => ∃ (xs : List V) (x : V), SqT K H a xs ∧ xs[i]? = some x, fun i H v H' => ∃ T x, v = .ref T ∧ H T = none ∧ H' = upd H T (.tup [.int (i : Nat), x]) ∧ ∀ xs, SqT K H a xs → xs[i]? = some x, fun i H => ∃ xs : List V, SqT K H a xs ∧ xs.length = i⟩
theorem tup_ne_iter {h : Heap} {a it : Addr} {its : List Value} {i : Nat} (p : h.IsTuple a its.toArray) (q : h.IsTupleIter it a i) : a ≠ it := by
  obtain ⟨o, e, c, d⟩ := q
  obtain ⟨o2, e2, c2, d2⟩ := p
  rintro rfl
  rw [e] at e2
  cases e2
  rw [c] at c2
  exact absurd (Value.type.inj c2) (by decide)
theorem turn_enumT {P : Program} {w : World} {K : PySem.W.Frag} {elts : List Expr} {kk : Nat} {tpos : Pos} (a e it : Addr) :
    Turn P w K (.Tuple elts kk tpos) (IteT K a) [e, it] e (fun i h => (∃ old, IsEnum h e it ((i : Nat) : Int) old) ∧ h.IsTupleIter it a i ∧ e ≠ it) where
  mem := by simp
  obj := fun i h st b hb => by
    obtain ⟨⟨old, he⟩, ⟨o, ho, hc, hd⟩, _⟩ := st
    have e' : b = e ∨ b = it := by simpa using hb
    rcases e' with rfl | rfl
    · exact ⟨_, he, fun v q => nomatch q⟩
    · exact ⟨o, ho, fun v q => by rw [hd] at q; cases q⟩
  keep := fun i h h' st kp => let ⟨⟨old, he⟩, hi, hne⟩ := st; ⟨⟨old, kp e (by simp) _ he⟩, hi.at fun o q => kp it (by simp) o q, hne⟩
  item := by
    intro X hP hw hK hc i pins s σ H E I hf st hg
    subst hP hw hK
    obtain ⟨⟨old, he⟩, hit, hne⟩ := st
    obtain ⟨xs, x, hq, hx⟩ := hg
    obtain ⟨its, rv, p, hz⟩ := I.tuple hq
    have p' : s.heap.IsTuple a its.toArray := p
    obtain ⟨u, hu, ru⟩ := rv.get hx
    have hl := rv.length
    have hai := tup_ne_iter p' hit
    have hea : e ≠ a := by
      rintro rfl
      obtain ⟨o2, e2, c2, d2⟩ := p'
      have he : s.heap.get? e = some _ := he
      rw [he] at e2
      cases e2
      exact absurd (Value.type.inj c2) (by decide)
    have D := Draws.tuple (prog := X.prog) (w := X.w) (A := X.A.in1) (I.ok.hd hc) it a hai its.toArray
    have G := GoesN.enumFrom (elts := elts) (x1 := kk) (pos := tpos) 0 D e hne (by simp [hne, hea]) (by simp)
    have hi : i < its.toArray.size := by
      rw [List.size_toArray, ← hl]
      exact (List.getElem?_eq_some_iff.mp hx).1
    refine G.goes i s (fun v s2 => ∃ x H', Inv X pins σ H' s2 ∧ RelV x v ∧ (IteT X.K a).yld i H x H' ∧ ((∃ old, IsEnum s2.heap e it ((i + 1 : Nat) : Int) old) ∧ s2.heap.IsTupleIter it a (i + 1) ∧ e ≠ it) ∧ ∀ b ∈ [e, it], H' b = none) E hi ⟨⟨old, by rw [Int.zero_add]; exact he⟩, hit, p'⟩ fun v h' tk hY st' hk htk => ?_
    obtain ⟨T, t, y, rfl, hT, hy, hTup⟩ := hY
    obtain ⟨⟨old2, he2⟩, hit2, _⟩ := st'
    have hyu : y = u := by
      rw [List.getElem?_toArray, hu] at hy
      exact (Option.some.inj hy).symm
    subst hyu
    have new : ObjOk X.prog X.w (upd H T (.tup [.int (i : Nat), x])) h' T (.tup [.int (i : Nat), x]) := by
      refine ⟨by show 2 ≤ sizeLine; decide, [.int i t, y], .cons ⟨_, rfl⟩ (.cons ru .nil), ?_⟩
      have : h'.IsTuple T #[.int (i : Int) t, y] := by rw [Int.zero_add] at hTup; exact hTup
      exact this
    have I1 : Inv X pins σ (upd H T (.tup [.int (i : Nat), x])) { s with heap := h', toks := tk } :=
      I.turnedNew (ch := [e, it]) (fun b ob hb q => hk b ob hb q) hf hT new
    refine ⟨.ref T, _, I1, rfl, ⟨T, x, rfl, I.hok.fresh hT, rfl, fun ys hy => by rw [I.tuple_inj hy hq]; exact hx⟩, ⟨⟨old2, ?_⟩, hit2, hne⟩, fun b hb => ?_⟩
    · rw [Int.zero_add] at he2
      have e1 : ((i + 1 : Nat) : Int) = (i : Int) + 1 := by omega
      rw [e1]
      have e2 : ((i + 1 : Nat) : Int) = (i : Int) + 1 := by omega
      rw [e2] at he2
      exact he2
    · have hb2 := hf b hb
      rw [upd_ne (fun z => ?_)]
      · exact hb2.1
      · have hlt : b < s.heap.objs.size := by
          have e' : b = e ∨ b = it := by simpa using hb
          rcases e' with rfl | rfl
          · exact Heap.lt_size he
          · obtain ⟨_, q, _⟩ := hit
            exact Heap.lt_size q
        rw [z] at hlt
        exact absurd (Nat.lt_of_lt_of_le hlt hT) (Nat.lt_irrefl _)
  done := by
    intro X hP hw hK hc i pins s σ H E I hf st hg
    subst hP hw hK
    obtain ⟨⟨old, he⟩, hit, hne⟩ := st
    obtain ⟨xs, hq, hx⟩ := hg
    obtain ⟨its, rv, p, hz⟩ := I.tuple hq
    have p' : s.heap.IsTuple a its.toArray := p
    have hl := rv.length
    have hai := tup_ne_iter p' hit
    have hea : e ≠ a := by
      rintro rfl
      obtain ⟨o2, e2, c2, d2⟩ := p'
      have he : s.heap.get? e = some _ := he
      rw [he] at e2
      cases e2
      exact absurd (Value.type.inj c2) (by decide)
    have D := Draws.tuple (prog := X.prog) (w := X.w) (A := X.A.in1) (I.ok.hd hc) it a hai its.toArray
    have G := GoesN.enumFrom (elts := elts) (x1 := kk) (pos := tpos) 0 D e hne (by simp [hne, hea]) (by simp)
    have hi : its.toArray.size = i := by rw [List.size_toArray, ← hl]; exact hx
    refine G.stops s (fun s1 => Inv X pins σ H s1) E ?_ fun h' tk hk htk => I.turnedL (t' := tk) (ch := [e, it]) (fun b ob hb q => hk b ob hb q) hf
    rw [hi]
    exact ⟨⟨old, by rw [Int.zero_add]; exact he⟩, hit, p'⟩
  self := fun A i s Q E st h => let ⟨⟨_, he⟩, _⟩ := st; wpAny_pyIter_enum he h
theorem walk_enumT {K r H a vs xs} (im : ImT K r H a vs) (hq : Reps K r H xs vs) : WalkI K r H (IteT K a) (enumL 0 xs) := by
  intro i r1 H1 st g hs
  have q := (im.carry g).sq
  refine ⟨fun x hx => ?_, fun e => ⟨vs, q, by rw [← hq.length, ← enumL_length 0, e]⟩⟩
  rw [enumL_get] at hx
  obtain ⟨y, ey, rfl⟩ := Option.map_eq_some_iff.mp hx
  obtain ⟨v, hv, rv⟩ := hq.get ey
  refine ⟨⟨vs, v, q, hv⟩, fun u H' y => ?_⟩
  obtain ⟨T, w, rfl, hT, rfl, y⟩ := y
  have : some v = some w := hv.symm.trans (y vs q)
  cases this
  exact yields_pair (i := i) (x := .int (0 + i)) hs hT (by rw [Int.zero_add]; exact .int (i : Nat)) (rv.carry g)
theorem pie_enumT {X : Cx} {pins : List (Addr × Obj)} {σ : L2.St} {H : Hp} {s : Shared} {R : It → Hp → Prop} {a : Addr} {xs : List V} {elts : List Expr} {kk : Nat} {tpos : Pos} (I : Inv X pins σ H s) (hq : SqT X.K H a xs) (q : R (IteT X.K a) H) :
    wpAny (model X.prog X.w) X.A (call (.type "enumerate") [.ref a]) (fun v s1 => wpAny (model X.prog X.w) X.A (pyIter v) (PIE X pins σ (.Tuple elts kk tpos) R) X.xe s1) X.xe s := by
  obtain ⟨its, rv, p, hz⟩ := I.tuple hq
  refine call_enum1 (begins_tuple a its.toArray) p fun h' he hit hk => wpAny_pyIter_enum he ?_
  have I2 : Inv X pins σ H { s with heap := h' } := I.kept (t' := s.toks) hk
  refine ⟨s.heap.objs.size + 1, [s.heap.objs.size + 1, s.heap.objs.size], _, _, H, rfl, I2, turn_enumT a (s.heap.objs.size + 1) s.heap.objs.size, ⟨⟨.none, he⟩, ⟨_, hit, rfl, rfl⟩, Nat.succ_ne_self _⟩, fun b hb => ?_, q⟩
  have hle : s.heap.objs.size ≤ b := by
    have e' : b = s.heap.objs.size + 1 ∨ b = s.heap.objs.size := by simpa using hb
    rcases e' with z | z <;> rw [z]
    · exact Nat.le_add_right _ _
    · exact Nat.le_refl _
  exact I.fpOk hle (I.hok.fresh hle)
end MP

/-! MP, part l: enumerate, zip; comprehensions. -/
namespace MP
open PySem PySem.Spec PyProof.Rows L2
section
variable {C : CT} {X : Cx} {W : WX} {k : Nat} {e e1 e2 tg : Expr} {pos : Pos} {f f1 f2 : Env → Sto → Res PV}
theorem isTup_form {tg : Expr} (h : isTupE tg = true) : ∃ es n p, tg = .Tuple es n p := by
  cases tg <;> first | exact ⟨_, _, _, rfl⟩ | cases h
def iEnumA (K : PySem.W.Frag) (ta : TA) : TI := fun σ H R => ta σ H fun vs H1 => ∃ a xs, vs = [.ref a] ∧ ((SqL K H1 a xs ∧ R (Ite K a) H1) ∨ (SqT K H1 a xs ∧ R (IteT K a) H1))
theorem pi_enumA {ta : TA} {p tpos : Pos} {elts : List Expr} {kk : Nat} (hg : Gl X "enumerate") (hm : X.mg "enumerate" = none) (ha : PA X [e] ta) (hs : starEach [e] X.env = [(false, eval e X.env)]) :
    PI X (.Tuple elts kk tpos) (.Call (.Name "enumerate" p) [e] [] pos) (iEnumA X.K ta) := by
  refine ⟨fun pins s σ H R I h => Call_ (ld_blt I hg hm boot_enumerate (PyProof.Rows.callWith_type1 (thn (ha.run pos pins s σ H _ I h) fun us s1 ⟨vs, H1, I1, r1, q1⟩ => ?_) hs rfl))⟩
  obtain ⟨a, xs, rfl, q1⟩ := q1
  obtain ⟨u, rfl, rx⟩ := vals1 r1
  cases rx
  rcases q1 with ⟨hq, q⟩ | ⟨hq, q⟩
  · obtain ⟨its, rv, p', hz⟩ := I1.list hq
    refine call_enum1 (begins_list a its.toArray) p'.isList fun h' he hit hk => wpAny_pyIter_enum he ?_
    have I2 : Inv X pins σ H1 { s1 with heap := h' } := I1.kept (t' := s1.toks) hk
    refine ⟨s1.heap.objs.size + 1, [s1.heap.objs.size + 1, s1.heap.objs.size], _, _, H1, rfl, I2, turn_enum a (s1.heap.objs.size + 1) s1.heap.objs.size, ⟨⟨.none, he⟩, ⟨_, hit, rfl, rfl⟩, Nat.succ_ne_self _⟩, fun b hb => ?_, q⟩
    have hle : s1.heap.objs.size ≤ b := by
      have e2 : b = s1.heap.objs.size + 1 ∨ b = s1.heap.objs.size := by simpa using hb
      rcases e2 with z | z <;> rw [z]
      · exact Nat.le_add_right _ _
      · exact Nat.le_refl _
    exact I1.fpOk hle (I1.hok.fresh hle)
  · exact pie_enumT I1 hq q
theorem good_ienum {p : Pos} (hg : Gl X "enumerate") (hm : X.mg "enumerate" = none) (g1 : GoodE C X W e f) (hs' : isStar e = false) (ht : isTupE tg = true) : GoodI C X W tg (.Call (.Name "enumerate" p) [e] [] pos) (fun s st => (f s st).bnd fun x st1 => match x with
    | .tup xs => .ok (.its (enumL 0 xs)) st1
    | .lst xs => .ok (.its (enumL 0 xs)) st1
    | .loc n => match st1[n]? with
      | some (.lst xs) => .ok (.at n xs.length true) st1
      | none => .bad
    | _ => .bad) := by
  intro r s σ st H he hs R h
  obtain ⟨es, n, tp, rfl⟩ := isTup_form ht
  refine w_pi (pi_enumA hg hm (pa_one hs') (starEach_plain hs' _ _)) ?_
  refine g1.use he hs (QB := PostI X.K R) h (fun g q => q.grow g) fun r1 H1 x u st1 gr1 he1 hs1 hu h1 => ?_
  cases hu with
  | tup im hx => exact ⟨_, _, rfl, .inr ⟨im.sq, h1 r1 H1 _ (Grow.refl _ _) hs1 (walk_enumT im hx)⟩⟩
  | lst im hx => exact ⟨_, _, rfl, .inl ⟨im.sq, h1 r1 H1 _ (Grow.refl _ _) hs1 (walk_enumL im hx)⟩⟩
  | loc hn =>
    dsimp only at h1
    split at h1
    · rename_i xs h2
      obtain ⟨vs, h3, h4⟩ := hs1.obj _ _ _ hn h2
      exact ⟨_, vs, rfl, .inl ⟨SqL.of h3, h1 r1 H1 _ (Grow.refl _ _) hs1 (walk_enumA hn)⟩⟩
    · exact h1.elim
  | _ => exact h1.elim
theorem good_izip {p : Pos} (hg : Gl X "zip") (hm : X.mg "zip" = none) (g1 : GoodE C X W e1 f1) (g2 : GoodE C X W e2 f2) (hs1' : isStar e1 = false) (hs2' : isStar e2 = false) (ht : isTupE tg = true) : GoodI C X W tg (.Call (.Name "zip" p) [e1, e2] [] pos) (fun s st => (f1 s st).bnd fun x st1 => (f2 s st1).bnd fun y st2 => match x, y with
    | .tup xs, .tup ys => .ok (.its (zipL xs ys)) st2
    | .lst xs, .lst ys => .ok (.its (zipL xs ys)) st2
    | _, _ => .bad) := by
  intro r s σ st H he hs R h
  obtain ⟨es, n, tp, rfl⟩ := isTup_form ht
  refine w_pi (RZ.pi_zipA hg hm (pa_cons pe_w (pa_cons pe_w pa_nil (starEach_plain hs2' _ _)) (starEach_plain hs1' _ _)) (starEach_plain hs1' _ _) (any_plain (by simp [hs2']))) ?_
  refine g1.use he hs (QB := PostI X.K R) h (fun g q => q.grow g) fun r1 H1 x u st1 gr1 he1 hs1 hu h1 => ?_
  refine g2.use he1 hs1 (QB := PostI X.K R) h1 (fun g q => q.grow g) fun r2 H2 y w st2 gr2 he2 hs2 hw h2 => ?_
  have hu := hu.grow gr2
  cases hu with
  | tup im hx =>
    cases hw with
    | tup im2 hy => exact ⟨_, _, _, _, rfl, .inr ⟨im.sq, im2.sq, h2 r2 H2 _ (Grow.refl _ _) hs2 (walk_zipT im hx im2 hy)⟩⟩
    | _ => exact h2.elim
  | lst im hx =>
    cases hw with
    | lst im2 hy => exact ⟨_, _, _, _, rfl, .inl ⟨im.sq, im2.sq, h2 r2 H2 _ (Grow.refl _ _) hs2 (walk_zipL im hx im2 hy)⟩⟩
    | _ => exact h2.elim
  | _ => cases hw <;> exact h2.elim

/-! ### comprehensions -/
def noX : WX := fun _ _ _ _ => False
theorem takes_noX {X : Cx} : Takes X noX := fun u s' ⟨_, _, _, _, _, _, _, _, _, _, _, _, _, _, _, _, w⟩ => w.elim
theorem Cxt.blk (c : Cxt X W k) (s : Shared) (H : Hp) (scope : Scope) (cenv : PySem.Env) (fp : List Addr) : Cxt (X.blk s H scope cenv fp) noX k := ⟨c.calm, c.room, c.grd, c.nd, takes_noX, c.dig⟩
theorem At.blk {kc : KC} {sc fn} (a : At kc sc fn X W k) (s : Shared) (H : Hp) (scope : Scope) (C : Addr) (cl : List (Str × Addr)) (fp : List Addr) :
    At kc (relS scope sc) (fun x => scope.names.lookup x == some .cell) (X.blk s H scope (compEnvC scope cl C X.env) fp) noX k := by
  refine ⟨a.cx.blk .., a.N, ?_, rfl⟩
  show relabel scope X.env = relS scope sc
  unfold relabel relS
  rw [← a.sc] <;> rfl
/-- a comprehension's tests -/
def GoodTs (C : CT) (X : Cx) (W : WX) (es : List Expr) (f : Env → Sto → Res Bool) : Prop :=
  ∀ r s σ st H, RepE X.K r H s σ → RepS X.K r H st → ∀ Q, (f s st).sat (PostT X.K r H Q) (PostX C X.K W σ r H) →
    ∀ pins sh, Inv X pins σ H sh → wpAny (model X.prog X.w) X.A (forIn es true fun c r => if r = true then do let ok ← isTrue c X.env (eval c X.env); pure (ForInStep.yield ok) else pure (ForInStep.yield r)) (TP X pins σ Q) X.xe sh
theorem goodTs_nil : GoodTs C X W [] (fun _ st => .ok true st) := by
  intro r s σ st H he hs Q h pins sh I
  exact pts_nil.run pins sh σ H Q I (h r H (Grow.refl _ _) hs)
theorem goodTs_one {ft : Env → Sto → Res Bool} (g : GoodT C X W e ft) : GoodTs C X W [e] ft := by
  intro r s σ st H he hs Q h pins sh I
  exact (pts_one pt_w).run pins sh σ H Q I (g r s σ st H he hs Q h)
/-- one turn of a comprehension -/
def lcF (ft : Env → Sto → Res Bool) (fe : Env → Sto → Res PV) (t : RT) (s0 : Env) : PV → Sto → Res (List PV) := fun x st2 => match bindT st2 t x s0 with
  | some s1 => (ft s1 st2).bnd fun b st3 => if b then (fe s1 st3).bnd fun y st4 => .ok [y] st4 else .ok [] st3
  | none => .bad
/-- what is left to do -/
def runsC (f : PV → Sto → Res (List PV)) (i m : Nat) (st : Sto) : Src → Res (List PV)
  | .its xs => compL f (xs.drop i) st
  | .at n _ e => compA f n e i m st
def mOf (src : Src) (i m : Nat) : Prop := match src with
  | .its xs => m = xs.length - i ∧ i ≤ xs.length
  | .at _ _ _ => True
theorem drop_head {A : Type} {xs : List A} {i : Nat} {x : A} {rest : List A} (h : xs.drop i = x :: rest) : xs[i]? = some x ∧ rest = xs.drop (i + 1) := by
  have h1 : (xs.drop i)[0]? = some x := by rw [h]; rfl
  rw [List.getElem?_drop] at h1
  refine ⟨by simpa using h1, ?_⟩
  have : (xs.drop i).drop 1 = rest := by rw [h]; rfl
  rw [← this, List.drop_drop]
theorem turnC {K r1 H1 J src} (w : WalkS K r1 H1 J src) {r : Rg} {H : Hp} {st : Sto} (g : Carry r1 H1 r H) (hs : RepS K r H st) {f : PV → Sto → Res (List PV)} {i m : Nat} (hm : mOf src i m) {P : List PV → Sto → Prop} {E : PX → Sto → Prop} (h : (runsC f i m st src).sat P E) :
    (J.stop i H ∧ P [] st) ∨ ∃ x m', m = m' + 1 ∧ mOf src (i + 1) m' ∧ Yields K J r H st i x ∧ ((f x st).bnd fun a st1 => (runsC f (i + 1) m' st1 src).bnd fun r st2 => .ok (a ++ r) st2).sat P E := by
  cases src with
  | its xs =>
    have w := w i r H st g hs
    simp only [runsC] at h
    cases q : xs.drop i with
    | nil =>
      rw [q] at h
      have : xs.length ≤ i := List.drop_eq_nil_iff.mp q
      exact .inl ⟨w.2 (Nat.le_antisymm this hm.2), h⟩
    | cons x rest =>
      rw [q] at h
      obtain ⟨q1, q2⟩ := drop_head q
      have hl := (List.getElem?_eq_some_iff.mp q1).1
      refine .inr ⟨x, xs.length - (i + 1), ?_, ⟨rfl, hl⟩, w.1 x q1, ?_⟩
      · have := hm.1; omega
      · rw [q2] at h; exact h
  | «at» n len e =>
    simp only [runsC] at h
    cases m with
    | zero =>
      simp only [compA] at h
      split at h
      · rename_i xs hx
        split at h
        · rename_i hl
          exact .inl ⟨(w i r H st xs g hs hx).2 hl, h⟩
        · exact h.elim
      · exact h.elim
    | succ m =>
      simp only [compA] at h
      split at h
      · rename_i xs hx
        split at h
        · rename_i x hi
          exact .inr ⟨_, m, rfl, trivial, (w i r H st xs g hs hx).1 x hi, h⟩
        · exact h.elim
      · exact h.elim
theorem sat_calm {A : Type} {r : Res A} {Q : A → Sto → Prop} {E : PX → Sto → Prop} (h : (calmR r).sat Q E) : r.sat Q (fun _ _ => False) := by
  cases r with
  | ok a st => exact h
  | exc x st => exact h.elim
  | bad => exact h.elim
theorem sat_ok {A : Type} {r : Res A} {Q : A → Sto → Prop} (h : r.sat Q (fun _ _ => False)) : ∃ a st, r = .ok a st ∧ Q a st := by
  cases r with
  | ok a st => exact ⟨a, st, rfl, h⟩
  | exc x st => exact h.elim
  | bad => exact h.elim
theorem good_lc (c : Cxt X W k) {elt iter : Expr} {ifs : List Expr} {scope : Scope} {own : List Nat} {N : List Str} {fi : Env → Sto → Res Src} {ft : Env → Sto → Res Bool} {fe : Env → Sto → Res PV} {t : RT}
    (hi : GoodI C X W tg iter fi) (ok : BlkOk X.N X.env.scope scope (ownPairs N own)) (hsl : ∀ i ∈ slotsT t, i ∈ own)
    (hg : ∀ (s : Shared) (H : Hp) (D : Addr) (cl : List (Str × Addr)) (fp : List Addr) (st : Sto) (r : Rg) (H1 : Hp) (s' : Env) (σ : L2.St) (v : PV) (u : V) (s1 : Env), RepE X.K r H1 s' σ → Rep X.K r H1 v u → bindT st t v s' = some s1 →
      ∀ Q : L2.St → Hp → Prop, (∀ σ1, RepE X.K r H1 s1 σ1 → (∀ vs : List Nat, (∀ i ∈ slotsT t, i ∈ vs) → wipe σ1 vs = wipe σ vs) → Q σ1 H1) → wG (X.blk s H scope (compEnvC scope cl D X.env) fp) tg u σ H1 Q)
    (ht : ∀ (s : Shared) (H : Hp) (D : Addr) (cl : List (Str × Addr)) (fp : List Addr), GoodTs C (X.blk s H scope (compEnvC scope cl D X.env) fp) noX ifs ft)
    (he : ∀ (s : Shared) (H : Hp) (D : Addr) (cl : List (Str × Addr)) (fp : List Addr), GoodE C (X.blk s H scope (compEnvC scope cl D X.env) fp) noX elt fe)
    {TEX : TE → Prop} (hpe : ∀ (g : TG) (tt : TT) (te : TE), (∀ (s : Shared) (H : Hp) (D : Addr) (cl : List (Str × Addr)) (fp : List Addr), PG (X.blk s H scope (compEnvC scope cl D X.env) fp) tg g) →
      (∀ (s : Shared) (H : Hp) (D : Addr) (cl : List (Str × Addr)) (fp : List Addr), PTs (X.blk s H scope (compEnvC scope cl D X.env) fp) ifs tt) → (∀ (s : Shared) (H : Hp) (D : Addr) (cl : List (Str × Addr)) (fp : List Addr), PE (X.blk s H scope (compEnvC scope cl D X.env) fp) elt te) →
      TEX (tLc (wI X tg iter) g tt te ((ownPairs N own).map (·.2)))) :
    ∃ te : TE, TEX te ∧ ∀ r s σ st H, RepE X.K r H s σ → RepS X.K r H st → ∀ Q, ((fi s st).bnd fun src st1 => (calmR (comp (lcF ft fe t (wipeE s own)) src st1)).bnd fun ys st2 => if ys.length ≤ sizeLine then .ok (.lst ys) st2 else .bad).sat (PostE X.K r H Q) (PostX C X.K W σ r H) → te σ H Q := by
  have hown : (ownPairs N own).map (·.2) = own := by
    unfold ownPairs
    rw [List.map_map]
    exact List.map_id' own
  refine ⟨_, hpe (fun v σ H Q => ∀ s' H' D cl fp, wG (X.blk s' H' scope (compEnvC scope cl D X.env) fp) tg v σ H Q)
    (fun σ H Q => ∀ s' H' D cl fp pins sh, Inv (X.blk s' H' scope (compEnvC scope cl D X.env) fp) pins σ H sh → wpAny (model X.prog X.w) X.A (forIn ifs true fun c r => if r = true then do let ok ← isTrue c (compEnvC scope cl D X.env) (eval c (compEnvC scope cl D X.env)); pure (ForInStep.yield ok) else pure (ForInStep.yield r)) (TP (X.blk s' H' scope (compEnvC scope cl D X.env) fp) pins σ Q) (fun _ _ => False) sh)
    (fun σ H Q => ∀ s' H' D cl fp, wE (X.blk s' H' scope (compEnvC scope cl D X.env) fp) elt σ H Q)
    (fun s' H' D cl fp => ⟨fun pins s σ H v u Q I rv h => h s' H' D cl fp pins s u I rv⟩) (fun s' H' D cl fp => ⟨fun pins s σ H Q I h => h s' H' D cl fp pins s I⟩) (fun s' H' D cl fp => ⟨fun pins s σ H Q I h => h s' H' D cl fp pins s I⟩), ?_⟩
  intro r s σ st H hE hs Q h
  refine hi r s σ st H hE hs _ (Res.sat_mono ((Res.sat_bnd _ _ _ _).mp h) (fun src st1 hx r1 H1 J g1 hs1 w => ?_) fun _ _ q => q)
  have hx := sat_calm (show (calmR _).sat _ _ from (Res.sat_bnd _ _ _ _).mp hx)
  have hE1 := hE.grow g1
  intro D hD
  rw [hown]
  -- the invariant
  refine ⟨fun i m H2 => ∃ r2 st2 don acc, mOf src i m ∧ r2.hid = D :: r1.hid ∧ Grow r1 H1 (r2.cut r1.hid) H2 ∧ Carry r1 H1 r2 H2 ∧ RepS X.K r2 H2 st2 ∧ H2 D = some (.lst acc) ∧ Reps X.K r2 H2 don acc ∧
      (runsC (lcF ft fe t (wipeE s own)) i m st2 src).sat (fun ys st3 => ((if (don ++ ys).length ≤ sizeLine then .ok (.lst (don ++ ys)) st3 else .bad : Res PV)).sat (PostE X.K r H Q) (PostX C X.K W σ r H)) (fun _ _ => False), ?_, ?_⟩
  · have base : Grow r1 H1 ((r1.hide D).cut r1.hid) (upd H1 D (.lst [])) := Grow.fresh hs1 hD
    cases src with
    | its xs => exact ⟨xs.length, r1.hide D, st1, [], [], ⟨rfl, Nat.zero_le _⟩, rfl, base, Carry.hide hs1 hD, hs1.hide hD, upd_same, .nil, hx⟩
    | «at» n len e => exact ⟨len, r1.hide D, st1, [], [], trivial, rfl, base, Carry.hide hs1 hD, hs1.hide hD, upd_same, .nil, hx⟩
  · rintro i m H2 ⟨r2, st2, don, acc, hm, eh, gw, cw, hs2, hacc, hdon, hrun⟩
    rcases turnC w cw hs2 hm hrun with ⟨hst, hend⟩ | ⟨x, m', rfl, hm', ⟨hgo, hy⟩, hrest⟩
    · refine .inl ⟨hst, ?_⟩
      rw [List.append_nil] at hend
      split at hend
      · have hh : ∀ a ∈ r1.hid, a ∈ r2.hid := fun a m => by rw [eh]; exact List.mem_cons_of_mem _ m
        refine hend (r2.cut r1.hid) H2 _ (g1.trans gw) (hs2.show hh) (.lst (.inl ⟨.inl hacc, fun m => ?_⟩) (hdon.carry (Carry.show hh)))
        rcases m with m | m
        · exact (hs2.hid D (by rw [eh]; exact List.mem_cons_self)).1 m
        · exact hs1.notin hD (.inr m)
      · exact hend.elim
    · refine .inr ⟨hgo, fun H3 => ∃ r3 st3 don3 acc3, mOf src (i + 1) m' ∧ r3.hid = D :: r1.hid ∧ Grow r1 H1 (r3.cut r1.hid) H3 ∧ Carry r1 H1 r3 H3 ∧ RepS X.K r3 H3 st3 ∧ H3 D = some (.lst acc3) ∧ Reps X.K r3 H3 don3 acc3 ∧
        (runsC (lcF ft fe t (wipeE s own)) (i + 1) m' st3 src).sat (fun ys st3 => ((if (don3 ++ ys).length ≤ sizeLine then .ok (.lst (don3 ++ ys)) st3 else .bad : Res PV)).sat (PostE X.K r H Q) (PostX C X.K W σ r H)) (fun _ _ => False), fun H3 q => ⟨m', Nat.lt_succ_self _, q⟩, fun u H3 hyl => ?_⟩
      obtain ⟨gy, hs3, hu⟩ := hy u H3 hyl
      have hrest := (Res.sat_bnd _ _ _ _).mp hrest
      cases hb : bindT st2 t x (wipeE s own) with
      | none => simp only [lcF, hb] at hrest; exact hrest.elim
      | some s1 =>
        simp only [lcF, hb] at hrest
        have hrest := (Res.sat_bnd _ _ _ _).mp hrest
        have hEw : RepE X.K r2 H3 (wipeE s own) (wipe σ own) := ((hE1.carry cw).grow gy).wipe own
        intro s' H' D' cl fp
        refine hg s' H' D' cl fp st2 r2 H3 _ _ x u s1 hEw hu hb _ fun σ1 hE4 hw => ⟨?_, ?_⟩
        · rw [hw own hsl]
          have key : ∀ ws : List Nat, (∀ v ∈ ws, v ∈ own) → wipe (wipe σ own) ws = wipe σ own := by
            intro ws
            induction ws with
            | nil => intro _; rfl
            | cons v ws ih =>
              intro hv
              show (wipe (wipe σ own) ws).set v none = _
              rw [ih fun z m => hv z (List.mem_cons_of_mem _ m)]
              refine List.ext_getElem? fun j => ?_
              by_cases hj : v = j
              · subst hj
                by_cases hl : v < (wipe σ own).length
                · rw [List.getElem?_set_self hl]
                  cases q : (wipe σ own)[v]? with
                  | none => exact absurd (List.getElem?_eq_none_iff.mp q) (by omega)
                  | some o =>
                    cases o with
                    | none => rfl
                    | some z => exact absurd (hv v List.mem_cons_self) (wipe_some q).2
                · rw [List.getElem?_eq_none (by simpa using hl), List.getElem?_eq_none (by simpa using hl)]
              · rw [List.getElem?_set_ne hj]
          exact key own fun _ m => m
        · intro s' H' D' cl fp
          refine ht s' H' D' cl fp r2 s1 σ1 st2 H3 hE4 hs3 _ (Res.sat_mono hrest (fun b st5 hb5 r5 H5 g5 hs5 => ?_) fun _ _ q => q.elim)
          have e5 : r5.hid = D :: r1.hid := g5.hid.trans eh
          have gg : Grow r2 H2 r5 H5 := gy.trans g5
          have hD5 : H5 D = some (.lst acc) := (gg.same D (by rw [eh]; exact List.mem_cons_self)).trans hacc
          cases b with
          | false =>
            simp only [Bool.false_eq_true, if_false] at hb5 ⊢
            have hb5 := (Res.sat_bnd _ _ _ _).mp hb5
            refine ⟨r5, st5, don, acc, hm', e5, ?_, cw.trans gg.carry, hs5, hD5, hdon.grow gg, Res.sat_mono hb5 (fun ys st6 q => q) fun _ _ q => q⟩
            have z := Grow.under (o := .lst acc) hs1 hD gw eh gg
            have e0 : upd H5 D (.lst acc) = H5 := by
              funext b
              by_cases hb : b = D
              · subst hb; rw [upd_same, hD5]
              · rw [upd_ne hb]
            rwa [e0] at z
          | true =>
            simp only [if_true] at hb5 ⊢
            have hb5 := (Res.sat_bnd _ _ _ _).mp hb5
            intro s' H' D' cl fp
            refine he s' H' D' cl fp r5 s1 σ1 st5 H5 (hE4.grow g5) hs5 _ (Res.sat_mono hb5 (fun y st6 hy6 r6 H6 yv g6 hs6 hyv => ?_) fun _ _ q => q.elim)
            have hy6 := (Res.sat_bnd _ _ _ _).mp (show (((runsC (lcF ft fe t (wipeE s own)) (i + 1) m' st6 src).bnd fun r st2 => (.ok ([y] ++ r) st2 : Res (List PV)))).sat _ _ from hy6)
            have e6 : r6.hid = D :: r1.hid := g6.hid.trans e5
            have g26 : Grow r2 H2 r6 H6 := gg.trans g6
            have hD6 : H6 D = some (.lst acc) := (g6.same D (by rw [e5]; exact List.mem_cons_self)).trans hD5
            have mD : D ∈ r6.hid := by rw [e6]; exact List.mem_cons_self
            refine ⟨acc, hD6, ?_, r6, st6, don ++ [y], acc ++ [yv], hm', e6, Grow.under hs1 hD gw eh g26, (cw.trans g26.carry).trans (Carry.poke mD), hs6.poke mD, upd_same, ((hdon.grow g26).append (.cons hyv .nil)).carry (Carry.poke mD), ?_⟩
            · obtain ⟨ys, st7, _, q⟩ := sat_ok hy6
              have q : (if (don ++ ([y] ++ ys)).length ≤ sizeLine then (.ok (PV.lst (don ++ ([y] ++ ys))) st7 : Res PV) else .bad).sat (PostE X.K r H Q) (PostX C X.K W σ r H) := q
              split at q
              · rename_i hl
                rw [← hdon.length]
                simp at hl
                omega
              · exact q.elim
            · exact Res.sat_mono hy6 (fun ys st7 q => by rw [List.append_assoc]; exact q) fun _ _ q => q
end
end MP

/-! MP, part s: set(l) of a list, whatever its items; sets of scannable things. -/
namespace MP
open PySem PySem.Spec PyProof.Rows L2

/-- a set that can be walked -/
structure SetAtX (w : World) (h : Heap) (a : Addr) (es : Array (Int × Value)) (ep : Nat) (t : SetTable) : Prop where
  ob : ∃ o, h.get? a = some o ∧ o.ExactSet ∧ o.data = .set es ep t
  few : es.size < scanBound
  fits : t.fits es.size = true
  ris : Ris t.place.toList
  led : w.params.followText "set-order" = true ∨ t.led = true
section
variable {P : Program} {w : World} {K : Type} [DecidableEq K] {knd : KeyKind P w K}
/-- .. that holds the keys l -/
def SetK (knd : KeyKind P w K) (h : Heap) (a : Addr) (l : List K) : Prop :=
  ∃ es ep t, SetAtX w h a es ep t ∧ ElemsOf knd es.toList ∧ (∀ k, k ∈ l ↔ ∃ e ∈ es.toList, knd.is k e.2 = true) ∧ l.Nodup ∧ es.size = l.length
theorem SetAtX.at {h h' : Heap} {a es ep t} (x : SetAtX w h a es ep t) (k : ∀ o, h.get? a = some o → h'.get? a = some o) : SetAtX w h' a es ep t := by
  obtain ⟨o, ho, r⟩ := x.ob
  exact ⟨⟨o, k o ho, r⟩, x.few, x.fits, x.ris, x.led⟩
theorem SetK.at {h h' : Heap} {a l} (x : SetK knd h a l) (k : ∀ o, h.get? a = some o → h'.get? a = some o) : SetK knd h' a l := by
  obtain ⟨es, ep, t, q, r⟩ := x
  exact ⟨es, ep, t, q.at k, r⟩
theorem freshX {h : Heap} {a : Addr} (ho : h.get? a = some { cls := .type "set", dict := none, data := .set #[] 0 (.fresh 0 0 (!w.params.followText "set-order")) }) : SetAtX w h a #[] 0 (.fresh 0 0 (!w.params.followText "set-order")) := by
  refine ⟨⟨_, ho, ⟨rfl, rfl, rfl⟩, rfl⟩, by decide, by rfl, List.Pairwise.nil, ?_⟩
  show _ ∨ (!w.params.followText "set-order") = true
  cases w.params.followText "set-order"
  · exact .inr rfl
  · exact .inl rfl
theorem freshK {h : Heap} {a : Addr} (ho : h.get? a = some { cls := .type "set", dict := none, data := .set #[] 0 (.fresh 0 0 (!w.params.followText "set-order")) }) : SetK knd h a [] :=
  ⟨#[], 0, _, freshX ho, fun e he => by simp at he, fun k => by simp, List.nodup_nil, rfl⟩

section
variable {A : Around} {E : Value → Shared → Prop} {s : Shared} {a : Addr} {l : List K}
theorem addK_tail {gv : Bool → Sem Unit} (hgv : ∀ (b : Bool) (s1 : Shared) (Q' : Unit → Shared → Prop), Q' () s1 → wpAny (model P w) A (gv b) Q' E s1)
    {es : Array (Int × Value)} {ep : Nat} {t : SetTable} (x : SetAtX w s.heap a es ep t) {es1 : Array (Int × Value)} {t2 : SetTable} {l1 : List K}
    (hel : ElemsOf knd es1.toList) (hmem : ∀ k, k ∈ l1 ↔ ∃ e ∈ es1.toList, knd.is k e.2 = true) (hnd : l1.Nodup) (hsz : es1.size = l1.length) (hb : es1.size < scanBound) (hf : t2.fits es1.size = true) (hr : Ris t2.place.toList)
    (hl : w.params.followText "set-order" = true ∨ t2.led = true) {wd : Bool} {R : Option Bool → Shared → Prop} (hR : ∀ h', Heap.SameBut a s.heap h' → SetK knd h' a l1 → R (some true) { s with heap := h' }) :
    wpAny (model P w) A (do
        storeSet a es1 t2
        if (!wd && t2.tooFull) = true then do
            gv (relayAll t2 es1 (SetTable.grown es1.size)).2.2
            storeSet a (relayAll t2 es1 (SetTable.grown es1.size)).1 (relayAll t2 es1 (SetTable.grown es1.size)).2.1
            pure (some true)
          else pure (some true)) R E s := by
  obtain ⟨o, ho, hex, hd⟩ := x.ob
  refine wpAny_bind (wpAny_storeSet_of ho hd ?_ (fits_of_scanBound hb))
  have o1 := store_at (es' := es1) (t' := t2) ho hd
  have sb := Heap.SameBut.update s.heap a (Obj.putSet es1 t2)
  split
  · have p1 := relayAll_perm t2 es1 (SetTable.grown es1.size)
    have p2 := relayAll_fits t2 es1 (SetTable.grown es1.size)
    have p3 := relayAll_ris t2 es1 (SetTable.grown es1.size)
    have p4 := relayAll_led t2 es1 (SetTable.grown es1.size)
    generalize relayAll t2 es1 (SetTable.grown es1.size) = Z at p1 p2 p3 p4 ⊢
    obtain ⟨es2, t3, gave⟩ := Z
    dsimp only at p1 p2 p3 p4 ⊢
    have ez : es2.size = es1.size := by rw [← Array.length_toList, p1.length_eq, Array.length_toList]
    refine wpAny_bind (hgv _ _ _ ?_)
    refine wpAny_bind (wpAny_storeSet_of o1 rfl ?_ (fits_of_scanBound (by rw [ez]; exact hb)))
    refine wpAny_pure (hR _ (sb.trans (Heap.SameBut.update _ a _)) ⟨es2, _, t3, ⟨⟨_, store_at (es' := es2) (t' := t3) o1 rfl, hex, rfl⟩, by rw [ez]; exact hb, p2, p3, hl.imp id fun z => by rw [p4]; exact z⟩, hel.perm p1, fun k => ?_, hnd, by rw [ez]; exact hsz⟩)
    rw [hmem k]
    exact ⟨fun ⟨e, he, q⟩ => ⟨e, p1.mem_iff.mpr he, q⟩, fun ⟨e, he, q⟩ => ⟨e, p1.mem_iff.mp he, q⟩⟩
  · exact wpAny_pure (hR _ sb ⟨es1, _, t2, ⟨⟨_, o1, hex, rfl⟩, hb, hf, hr, hl⟩, hel, hmem, hnd, hsz⟩)
theorem addK_hashed {k : K} {x : Value} {Q : Bool → Shared → Prop} (hx : knd.is k x = true) (hsc : x.scannable = true) (R : SetK knd s.heap a l) (room : l.length + 1 < scanBound)
    (hQ : ∀ h' b, Heap.SameBut a s.heap h' → SetK knd h' a (if k ∈ l then l else k :: l) → Q b { s with heap := h' }) : wpAny (model P w) A (setAddHashed a x (knd.hash k)) Q E s := by
  obtain ⟨es, ep, t, ax, hel, hmem, hnd, hsz⟩ := R
  obtain ⟨o, ho, hex, hd⟩ := ax.ob
  unfold setAddHashed setAddHashedIn
  refine wpAny_holding (wpAny_bind (wpAny_setState_of ho hd ax.fits ?_))
  dsimp only
  rw [byScan_of hsc ax.few hel]
  simp only [↓reduceIte]
  unfold setAddByScan
  refine wpAny_bind ?_
  refine wpAny_bind (wpAny_rule ?_)
  refine wpAny_bind (wpAny_setScan_of hx ho hd ax.fits hel ?_)
  cases hfi : List.findIdx? (fun e => knd.is k e.2) es.toList with
  | some j =>
    dsimp only
    obtain ⟨hj, pj, _⟩ := List.findIdx?_eq_some_iff_getElem.mp hfi
    have hk : k ∈ l := (hmem k).mpr ⟨es.toList[j], List.getElem_mem hj, pj⟩
    have q := fun b => hQ s.heap b (Heap.SameBut.refl a s.heap)
    rw [if_pos hk] at q
    exact wpAny_pure (wpAny_pure (q _ ⟨es, ep, t, ax, hel, hmem, hnd, hsz⟩))
  | none =>
    dsimp only
    have hk : k ∉ l := fun z => by
      obtain ⟨e, he, q⟩ := (hmem k).mp z
      have c := List.findIdx?_eq_none_iff.mp hfi e he
      rw [q] at c
      cases c
    rw [if_neg hk] at hQ
    have hgw : ∀ (b : Bool) {s1 : Shared} {Q' : Unit → Shared → Prop}, Q' () s1 → wpAny (model P w) A (match b with | true => rule "set.scan.the-table-gave-way" | false => pure ()) Q' E s1 := fun b s1 Q' q => by
      cases b <;> first | exact wpAny_pure q | exact wpAny_rule q
    have p1 := layNew_perm t es (knd.hash k) x
    have p2 := layNew_fits t es (knd.hash k) x
    have p3 := layNew_ris t es (knd.hash k) x ax.ris
    have p4 := layNew_led t es (knd.hash k) x
    generalize layNew t es (knd.hash k) x = Z at p1 p2 p3 p4 ⊢
    obtain ⟨es1, t1, wd, gave⟩ := Z
    dsimp only at p1 p2 p3 p4 ⊢
    rw [Array.toList_push] at p1
    have hel1 : ElemsOf knd es1.toList := (hel.push hx hsc).perm p1
    have hmem1 : ∀ k', k' ∈ k :: l ↔ ∃ e ∈ es1.toList, knd.is k' e.2 = true := fun k' => by
      rw [List.mem_cons, hmem k']
      constructor
      · rintro (rfl | ⟨e, he, q⟩)
        · exact ⟨_, p1.mem_iff.mpr (List.mem_append_right _ (List.mem_singleton.mpr rfl)), hx⟩
        · exact ⟨e, p1.mem_iff.mpr (List.mem_append_left _ he), q⟩
      · rintro ⟨e, he, q⟩
        rcases List.mem_append.mp (p1.mem_iff.mp he) with z | z
        · exact .inr ⟨e, z, q⟩
        · rw [List.mem_singleton] at z
          rw [z] at q
          exact .inl (knd.inj x k' k q hx)
    have hnd1 : (k :: l).Nodup := List.nodup_cons.mpr ⟨hk, hnd⟩
    have hsz1 : es1.size = (k :: l).length := by rw [← Array.length_toList, p1.length_eq, List.length_append, Array.length_toList, hsz] <;> rfl
    have hb1 : es1.size < scanBound := by rw [hsz1]; exact room
    have hled : w.params.followText "set-order" = true ∨ t1.led = true := ax.led.imp id fun z => by rw [p4]; exact z
    refine wpAny_bind (hgw _ ?_)
    split
    · refine wpAny_bind ?_
      rw [hashByValue_scannable 8 hsc]
      refine wpAny_pure (addK_tail ?_ ax hel1 hmem1 hnd1 hsz1 hb1 ?_ ?_ ?_ ?_)
      · intro b s1 Q' q; cases b <;> first | exact wpAny_pure q | exact wpAny_rule q
      · first | (split <;> first | exact p2 | exact SetTable.fits_plain_off p2) | exact p2
      · first | (split <;> exact p3) | exact p3
      · first | (split <;> exact hled) | exact hled
      · intro h' sb r; dsimp only; exact wpAny_pure (hQ h' _ sb r)
    · refine wpAny_bind (wpAny_pure ?_)
      simp only [↓reduceIte]
      refine addK_tail ?_ ax hel1 hmem1 hnd1 hsz1 hb1 p2 p3 hled ?_
      · intro b s1 Q' q; cases b <;> first | exact wpAny_pure q | exact wpAny_rule q
      · intro h' sb r; dsimp only; exact wpAny_pure (hQ h' _ sb r)
theorem addK {k : K} {x : Value} {Q : Unit → Shared → Prop} (hx : knd.is k x = true) (hsc : x.scannable = true) (R : SetK knd s.heap a l) (room : l.length + 1 < scanBound)
    (hQ : ∀ h', Heap.SameBut a s.heap h' → SetK knd h' a (if k ∈ l then l else k :: l) → Q () { s with heap := h', toks := s.toks + 1 }) : wpAny (model P w) A (do let _ ← setAdd a x) Q E s := by
  refine wpAny_bind ?_
  unfold setAdd
  refine wpAny_holding ?_
  refine wpAny_bind (knd.pyHash hx ?_)
  exact addK_hashed (s := { s with toks := s.toks + 1 }) hx hsc R room fun h' b sb r => wpAny_pure (hQ h' sb r)
end
end

/-! ### set(l): one step for each item -/
section
variable {P : Program} {w : World} {A : Around} {R : Result → Shared → Prop}
theorem loop_any {I S : Addr} {fp wr : List Addr} {G : Array GenState → Array GenState → Prop} {n : Nat} {Pv : Nat → Value → Prop} {St : Nat → Shared → Prop} (W : WalksS P w A.in1 I fp wr G n Pv St) (hSf : S ∉ fp) (SI : Nat → Heap → Prop)
    (hfr : ∀ i h h', SI i h → (∀ b o, b ∉ wr → h.get? b = some o → h'.get? b = some o) → SI i h')
    (hstep : ∀ i v (s : Shared) (Q : Bool → Shared → Prop) (E : Value → Shared → Prop), Pv i v → SI i s.heap → (∀ b h' tk, s.toks ≤ tk → Heap.SameBut S s.heap h' → SI (i + 1) h' → Q b { s with heap := h', toks := tk }) → wpAny (model P w) A.in1 (setAdd S v) Q E s) :
    ∀ (k i : Nat) (s : Shared), n - i = k → i ≤ n → St i s → SI i s.heap → (∀ s', Moved (S :: wr) G s s' → SI n s'.heap → R (.ok (.ret .none)) s') → codeAny (model P w) A (.builtin "set.update.loop" ⟨[.ref S, .ref I], []⟩) R s := by
  have hSw : S ∉ wr := fun h => hSf (W.sub _ h)
  have sub1 : ∀ b ∈ wr, b ∈ S :: wr := fun b hb => List.mem_cons_of_mem _ hb
  intro k
  induction k with
  | zero =>
    intro i s hk hi hst hS hR
    obtain rfl : i = n := by omega
    refine codeAny_builtin F.entry_set_update_loop ?_
    rw [Around.under_plainId F.plain_set_update_loop _]
    show wpAny _ A.in1 (pyNext (.ref I) >>= _) _ _ s
    refine wpAny_bind (W.done s _ _ hst fun s' hm => ?_)
    show wpAny _ A.in1 (ret Value.none) _ _ s'
    exact wpAny_pure (hR s' (hm.mono sub1) (hfr _ _ _ hS fun b o hb e => hm.heap b o hb e))
  | succ k ih =>
    intro i s hk hi hst hS hR
    have hlt : i < n := by omega
    refine codeAny_builtin F.entry_set_update_loop ?_
    rw [Around.under_plainId F.plain_set_update_loop _]
    show wpAny _ A.in1 (pyNext (.ref I) >>= _) _ _ s
    refine wpAny_bind (W.item i s _ _ hlt hst fun v s' hP hst' hm => ?_)
    have hS' : SI i s'.heap := hfr _ _ _ hS fun b o hb e => hm.heap b o hb e
    show wpAny _ A.in1 (holding [v] (setAdd S v) >>= _) _ _ s'
    refine wpAny_bind (wpAny_holding (hstep i v s' _ _ hP hS' fun bb h' tk htk hsb hS2 => ?_))
    refine wpAny_pure ⟨plainId_quiet F.plain_set_update_loop _, ih (i + 1) _ (by omega) hlt (W.frame _ s' _ _ hst' htk fun b hb o e => ?_) hS2 fun s'' hm'' hS'' => ?_⟩
    · rw [hsb.2 b (fun z : b = S => hSf (by rw [← z]; exact hb))]; exact e
    · refine hR s'' (Moved.trans W.gtrans ((hm.mono sub1).then_heap htk fun b o hb e => ?_) hm'') hS''
      rw [hsb.2 b (fun z : b = S => hb (by rw [z]; exact List.mem_cons_self))]; exact e
end
end MP

/-! MP, part s2: set(l). -/
namespace MP
open PySem PySem.Spec PyProof.Rows L2
abbrev newSetObj (w : World) : Obj := { cls := .type "set", dict := none, data := .set #[] 0 (.fresh 0 0 (!w.params.followText "set-order")) }
set_option maxHeartbeats 8000000 in
theorem call_set_any {P : Program} {w : World} {A : Around} {E : Value → Shared → Prop} {s : Shared} {l : Addr} {items : Array Value} {Q : Value → Shared → Prop} (hh : A.handled = none) (hl : s.heap.IsList l items) (SI : Nat → Heap → Prop)
    (h0 : ∀ h, h.get? s.heap.objs.size = some (newSetObj w) → (∀ b o, s.heap.get? b = some o → h.get? b = some o) → SI 0 h)
    (hfr : ∀ i h h', SI i h → (∀ b o, b ≠ s.heap.objs.size + 1 → h.get? b = some o → h'.get? b = some o) → SI i h')
    (hstep : ∀ i v (s1 : Shared) (Q : Bool → Shared → Prop) (E : Value → Shared → Prop), items[i]? = some v → SI i s1.heap → (∀ b h' tk, s1.toks ≤ tk → Heap.SameBut s.heap.objs.size s1.heap h' → SI (i + 1) h' → Q b { s1 with heap := h', toks := tk }) → wpAny (model P w) A.in1.in1.in1 (setAdd s.heap.objs.size v) Q E s1)
    (h : ∀ (h' : Heap) (tk : Nat), SI items.size h' → (∀ b o, s.heap.get? b = some o → h'.get? b = some o) → Q (.ref s.heap.objs.size) { s with heap := h', toks := tk }) :
    wpAny (model P w) A (call (.type "set") [.ref l]) Q E s := by
  obtain ⟨mc, mtl, mro⟩ := F.called_set.mro
  have made := F.called_set.made
  have issub := F.called_set.sub
  refine wpAny_call (codeAny_of_tree ?_)
  show wpAny _ _ (callAny (.type "set") _) _ _ _
  refine wpAny_pure ⟨Code.quiet_builtin _ (by decide +kernel), codeAny_builtin F.entry_type_call ?_⟩
  rw [Around.under_plain (weight_type_call_type "set" [.ref l] []) rfl]
  have q1 := F.called_set.notType
  have q2 := F.called_set.canCreate
  have q3 := F.typeCall_set_1 (.ref l)
  repeat (any_goals (first | assumption | wp_step))
  refine codeAny_mono (code_set_led1 (.ref l) (E := E) (Q₁ := fun obj s1 => obj = .ref s.heap.objs.size ∧ s1 = { s with heap := s.heap.push (newSetObj w) }) ⟨rfl, rfl⟩) fun res s1 hres => ?_
  cases res with
  | error e => exact hres
  | ok fl =>
    cases fl with
    | ret obj =>
      obtain ⟨rfl, rfl⟩ := hres
      have oS : (s.heap.push (newSetObj w)).get? s.heap.objs.size = some (newSetObj w) := Heap.get?_push_size _ rfl
      have tS : Shared.TypeIs { s with heap := s.heap.push (newSetObj w) } (.ref s.heap.objs.size) "set" := ⟨_, oS, rfl⟩
      have i1 := F.called_set.init.lookup
      have i2 := F.called_set.init.bind (.ref s.heap.objs.size)
      repeat (any_goals (first | assumption | wp_step))
      refine codeAny_mono (codeAny_call_builtin (R := wants (fun r s2 => r = .none ∧ ∃ h' tk, s2 = { s with heap := h', toks := tk } ∧ SI items.size h' ∧ (∀ b o, s.heap.get? b = some o → h'.get? b = some o)) E) F.called_set.init.plain F.entry_set_init (check_set_init_1 tS ?_)) fun res2 s2 hres2 => ?_
      · obtain ⟨⟨ocls, odict, odata, oslots⟩, hol, hcl, nl, hdl⟩ := hl
        simp only at hcl hdl
        subst hcl; subst hdl
        have hol2 : (s.heap.push (newSetObj w)).get? l = some { cls := .type "list", dict := odict, data := .seq items nl, slots := oslots } := Heap.get?_push_of_some _ hol
        have n1 := F.sub_list_set
        have n2 := F.sub_list_frozenset
        have n3 : (Value.type "list" == Value.type "dict") = false := by decide
        have isl : (s.heap.push (newSetObj w)).IsList l items := ⟨_, hol2, rfl, nl, rfl⟩
        unfold Builtin.«set.__init__» noKeywords Builtin.Frozenset.updateFrom
        generalize hPI : pyIter = PI
        wp_walk
        subst hPI
        refine wpAny_pyIter_list isl ?_
        refine wpAny_bind (wpAny_runValue ?_)
        have lS : l < s.heap.objs.size := Heap.lt_size hol
        have h3 : A.in1.in1.in1.handled = none := by simp [hh]
        have z1 : (s.heap.push (newSetObj w)).objs.size = s.heap.objs.size + 1 := Heap.size_push ..
        have nI : l ≠ (s.heap.push (newSetObj w)).objs.size := by rw [z1]; exact Nat.ne_of_lt (Nat.lt_succ_of_lt lS)
        have nS : s.heap.objs.size ∉ [(s.heap.push (newSetObj w)).objs.size, l] := by
          rw [z1]
          intro z
          rcases List.mem_cons.mp z with z | z
          · exact absurd z (Nat.ne_of_lt (Nat.lt_succ_self _))
          · exact absurd (List.mem_singleton.mp z) (Nat.ne_of_gt lS)
        refine loop_any ((Walks.list h3 _ l nI items).toS) nS SI (fun i h h' hs hk => hfr i h h' hs fun b o hb e => hk b o (fun z => hb (by rw [List.mem_singleton.mp z, z1])) e) hstep (items.size - 0) 0 _ (by omega) (Nat.zero_le _) ⟨⟨_, Heap.get?_push_size _ rfl, rfl, rfl⟩, (isl.push _)⟩ ?_ ?_
        · exact h0 _ (Heap.get?_push_of_some _ oS) fun b o e => Heap.get?_push_of_some _ (Heap.get?_push_of_some _ e)
        · intro s' hm hS'
          obtain ⟨h', g', d', tk', os'⟩ := s'
          obtain rfl : g' = s.gens := hm.gens
          obtain rfl : d' = s.drawn := hm.drawn
          obtain rfl : os' = s.os := hm.os
          show wpAny _ _ _ _ _ _
          refine wpAny_pure ?_
          show wpAny _ _ (ret Value.none) _ _ _
          refine wpAny_pure ⟨rfl, h', tk', rfl, hS', fun b o e => ?_⟩
          have hb := Heap.lt_size e
          refine hm.heap b o (fun z => ?_) (Heap.get?_push_of_some _ (Heap.get?_push_of_some _ e))
          rcases List.mem_cons.mp z with z | z
          · exact absurd z (Nat.ne_of_lt hb)
          · rw [List.mem_singleton, z1] at z
            exact absurd z (Nat.ne_of_lt (Nat.lt_succ_of_lt hb))
      · cases res2 with
        | error e => exact hres2
        | ok fl2 =>
          cases fl2 with
          | ret r =>
            obtain ⟨rfl, h', tk, rfl, hS', hk'⟩ := hres2
            repeat (any_goals (first | assumption | wp_step))
            exact h _ _ hS' hk'
          | _ => exact hres2.elim
    | _ => exact hres.elim
end MP

/-! MP, part t: ordered lists of texts. -/
namespace MP
open PySem PySem.Spec PyProof.Rows L2
theorem nlt_irr (a : List Nat) : ¬ a < a := List.lt_irrefl a
theorem nlt_tr {a b c : List Nat} (h : a < b) (h2 : b < c) : a < c := List.lt_trans h h2
theorem nle_tr {a b c : List Nat} (h : ¬ b < a) (h2 : ¬ c < b) : ¬ c < a := by
  have h : a ≤ b := List.not_lt.mp h
  have h2 : b ≤ c := List.not_lt.mp h2
  exact List.not_lt.mpr (List.le_trans h h2)
theorem nlt_of {a b : List Nat} (h : ¬ b < a) (hne : a ≠ b) : a < b := by
  have h : a ≤ b := List.not_lt.mp h
  exact Classical.byContradiction fun z => hne (List.le_antisymm h (List.not_lt.mp z))
theorem ltCps_lt : ∀ (a b : List Nat), ltCps a b = decide (a < b)
  | [], [] => by simp [ltCps]
  | [], _ :: _ => by simp [ltCps]
  | _ :: _, [] => by simp [ltCps]
  | x :: a, y :: b => by
    show (decide (x < y) || (x == y && ltCps a b)) = _
    rw [ltCps_lt a b]
    by_cases h1 : x < y
    · have : x :: a < y :: b := List.cons_lt_cons_iff.mpr (.inl h1)
      simp [h1, this]
    · by_cases h2 : x = y
      · subst h2
        have e : (x :: a < x :: b) ↔ a < b := ⟨fun h => (List.cons_lt_cons_iff.mp h).elim (fun z => absurd z h1) fun z => z.2, fun h => List.cons_lt_cons_iff.mpr (.inr ⟨rfl, h⟩)⟩
        simp [e]
      · have : ¬ x :: a < y :: b := fun h => (List.cons_lt_cons_iff.mp h).elim (fun z => h1 z) fun z => h2 z.1
        simp [h1, h2, this]
theorem insS_mem {x z : List Nat} : ∀ {l : List (List Nat)}, z ∈ insS x l ↔ z = x ∨ z ∈ l
  | [] => by simp [insS]
  | y :: ys => by
    unfold insS
    split
    · simp
    · split
      · rename_i h1 h2
        subst h2
        simp
      · rw [List.mem_cons, insS_mem (l := ys), List.mem_cons]
        constructor
        · rintro (h | h | h)
          · exact .inr (.inl h)
          · exact .inl h
          · exact .inr (.inr h)
        · rintro (h | h | h)
          · exact .inr (.inl h)
          · exact .inl h
          · exact .inr (.inr h)
theorem insS_srt {x : List Nat} : ∀ {l : List (List Nat)}, l.Pairwise (· < ·) → (insS x l).Pairwise (· < ·)
  | [], _ => by simp [insS]
  | y :: ys, h => by
    obtain ⟨h1, h2⟩ := List.pairwise_cons.mp h
    unfold insS
    split
    · rename_i hx
      refine List.pairwise_cons.mpr ⟨fun z hz => ?_, h⟩
      rcases List.mem_cons.mp hz with rfl | hz
      · exact hx
      · exact nlt_tr hx (h1 z hz)
    · split
      · exact h
      · rename_i n1 n2
        refine List.pairwise_cons.mpr ⟨fun z hz => ?_, insS_srt h2⟩
        rcases insS_mem.mp hz with rfl | hz
        · exact nlt_of n1 fun e => n2 e.symm
        · exact h1 z hz
theorem srtS_mem {z : List Nat} : ∀ {xs : List (List Nat)}, z ∈ srtS xs ↔ z ∈ xs
  | [] => by simp [srtS]
  | x :: xs => by
    show z ∈ insS x (srtS xs) ↔ _
    rw [insS_mem, srtS_mem, List.mem_cons]
theorem srtS_srt : ∀ (xs : List (List Nat)), (srtS xs).Pairwise (· < ·)
  | [] => List.Pairwise.nil
  | x :: xs => insS_srt (srtS_srt xs)
theorem srt_uniq : ∀ {a b : List (List Nat)}, a.Pairwise (· < ·) → b.Pairwise (· < ·) → (∀ z, z ∈ a ↔ z ∈ b) → a = b
  | [], [], _, _, _ => rfl
  | [], y :: b, _, _, h => by have := (h y).mpr List.mem_cons_self; cases this
  | x :: a, [], _, _, h => by have := (h x).mp List.mem_cons_self; cases this
  | x :: a, y :: b, ha, hb, h => by
    obtain ⟨a1, a2⟩ := List.pairwise_cons.mp ha
    obtain ⟨b1, b2⟩ := List.pairwise_cons.mp hb
    have e : x = y := by
      rcases List.mem_cons.mp ((h x).mp List.mem_cons_self) with z | z
      · exact z
      · rcases List.mem_cons.mp ((h y).mpr List.mem_cons_self) with z2 | z2
        · exact z2.symm
        · exact absurd (nlt_tr (b1 x z) (a1 y z2)) (nlt_irr y)
    subst e
    rw [srt_uniq a2 b2 fun z => ⟨fun hz => ?_, fun hz => ?_⟩]
    · rcases List.mem_cons.mp ((h z).mp (List.mem_cons_of_mem _ hz)) with q | q
      · subst q; exact absurd (a1 z hz) (nlt_irr z)
      · exact q
    · rcases List.mem_cons.mp ((h z).mpr (List.mem_cons_of_mem _ hz)) with q | q
      · subst q; exact absurd (b1 z hz) (nlt_irr z)
      · exact q
theorem rising_pw : ∀ (ys : List Str) (p : Str), risingS p ys = true → (p :: ys).Pairwise fun a b => ¬ b.cps.toList < a.cps.toList
  | [], p, _ => List.pairwise_singleton _ _
  | x :: ys, p, h => by
    unfold risingS at h
    rw [Bool.and_eq_true, ltCps_lt] at h
    have h1 : ¬ x.cps.toList < p.cps.toList := by simpa using h.1
    have ih := rising_pw ys x h.2
    refine List.pairwise_cons.mpr ⟨fun z hz => ?_, ih⟩
    rcases List.mem_cons.mp hz with rfl | hz
    · exact h1
    · exact nle_tr h1 ((List.pairwise_cons.mp ih).1 z hz)
theorem str_inj {a b : Str} (h : a.cps.toList = b.cps.toList) : a = b := by
  cases a; cases b
  congr 1
  exact Array.toList_inj.mp h
/-- the texts in order, each once -/
theorem sorted_is {ys l : List Str} {xs : List (List Nat)} (h1 : ys.Perm l) (h2 : sortedS ys = true) (hn : l.Nodup) (hm : ∀ k : Str, k ∈ l ↔ k.cps.toList ∈ xs) : ys = (srtS xs).map fun s => (⟨s.toArray⟩ : Str) := by
  have pw : ys.Pairwise fun a b => ¬ b.cps.toList < a.cps.toList := by
    cases ys with
    | nil => exact List.Pairwise.nil
    | cons y ys => exact rising_pw ys y h2
  have nd : ys.Nodup := h1.nodup_iff.mpr hn
  have st : (ys.map fun s => s.cps.toList).Pairwise (· < ·) := by
    refine List.pairwise_map.mpr ?_
    refine (pw.and nd).imp fun {a b} ⟨q1, q2⟩ => nlt_of q1 fun e => q2 (str_inj e)
  have e := srt_uniq st (srtS_srt xs) fun z => by
    rw [srtS_mem, List.mem_map]
    constructor
    · rintro ⟨k, hk, rfl⟩
      exact (hm k).mp (h1.mem_iff.mp hk)
    · intro hz
      exact ⟨⟨z.toArray⟩, h1.mem_iff.mpr ((hm ⟨z.toArray⟩).mpr (by simpa using hz)), by simp⟩
  rw [← e, List.map_map]
  have : ((fun s : List Nat => (⟨s.toArray⟩ : Str)) ∘ fun s : Str => s.cps.toList) = id := by
    funext s
    cases s
    simp
  rw [this, List.map_id]
/-! ### lists in any order -/
structure Ordr {A : Type} (lt : A → A → Bool) : Prop where
  irr : ∀ a, lt a a = false
  tr : ∀ a b c, lt a b = true → lt b c = true → lt a c = true
  tot : ∀ a b, lt a b = false → a ≠ b → lt b a = true
section
variable {A : Type} [DecidableEq A] {lt : A → A → Bool}
theorem insO_mem {x z : A} : ∀ {l : List A}, z ∈ insO lt x l ↔ z = x ∨ z ∈ l
  | [] => by simp [insO]
  | y :: ys => by
    unfold insO
    split
    · simp
    · split
      · rename_i e
        subst e
        simp
      · rw [List.mem_cons, insO_mem (l := ys), List.mem_cons]
        constructor
        · rintro (h | h | h)
          · exact .inr (.inl h)
          · exact .inl h
          · exact .inr (.inr h)
        · rintro (h | h | h)
          · exact .inr (.inl h)
          · exact .inl h
          · exact .inr (.inr h)
theorem insO_srt (O : Ordr lt) {x : A} : ∀ {l : List A}, l.Pairwise (fun a b => lt a b = true) → (insO lt x l).Pairwise fun a b => lt a b = true
  | [], _ => by simp [insO]
  | y :: ys, h => by
    obtain ⟨h1, h2⟩ := List.pairwise_cons.mp h
    unfold insO
    split
    · rename_i hx
      refine List.pairwise_cons.mpr ⟨fun z hz => ?_, h⟩
      rcases List.mem_cons.mp hz with rfl | hz
      · exact hx
      · exact O.tr _ _ _ hx (h1 z hz)
    · split
      · exact h
      · rename_i n1 n2
        refine List.pairwise_cons.mpr ⟨fun z hz => ?_, insO_srt O h2⟩
        rcases insO_mem.mp hz with rfl | hz
        · exact O.tot _ _ (by simpa using n1) n2
        · exact h1 z hz
theorem srtO_mem {z : A} : ∀ {xs : List A}, z ∈ srtO lt xs ↔ z ∈ xs
  | [] => by simp [srtO]
  | x :: xs => by
    show z ∈ insO lt x (srtO lt xs) ↔ _
    rw [insO_mem, srtO_mem, List.mem_cons]
theorem srtO_srt (O : Ordr lt) : ∀ (xs : List A), (srtO lt xs).Pairwise fun a b => lt a b = true
  | [] => List.Pairwise.nil
  | x :: xs => insO_srt O (srtO_srt O xs)
theorem ordr_uniq (O : Ordr lt) : ∀ {a b : List A}, a.Pairwise (fun x y => lt x y = true) → b.Pairwise (fun x y => lt x y = true) → (∀ z, z ∈ a ↔ z ∈ b) → a = b
  | [], [], _, _, _ => rfl
  | [], y :: b, _, _, h => by have := (h y).mpr List.mem_cons_self; cases this
  | x :: a, [], _, _, h => by have := (h x).mp List.mem_cons_self; cases this
  | x :: a, y :: b, ha, hb, h => by
    obtain ⟨a1, a2⟩ := List.pairwise_cons.mp ha
    obtain ⟨b1, b2⟩ := List.pairwise_cons.mp hb
    have no : ∀ u v, lt u v = true → lt v u = true → False := fun u v p q => by
      have := O.tr _ _ _ p q
      rw [O.irr] at this
      cases this
    have e : x = y := by
      rcases List.mem_cons.mp ((h x).mp List.mem_cons_self) with z | z
      · exact z
      · rcases List.mem_cons.mp ((h y).mpr List.mem_cons_self) with z2 | z2
        · exact z2.symm
        · exact (no _ _ (b1 x z) (a1 y z2)).elim
    subst e
    rw [ordr_uniq O a2 b2 fun z => ⟨fun hz => ?_, fun hz => ?_⟩]
    · rcases List.mem_cons.mp ((h z).mp (List.mem_cons_of_mem _ hz)) with q | q
      · subst q; exact (no _ _ (a1 z hz) (a1 z hz)).elim
      · exact q
    · rcases List.mem_cons.mp ((h z).mpr (List.mem_cons_of_mem _ hz)) with q | q
      · subst q; exact (no _ _ (b1 z hz) (b1 z hz)).elim
      · exact q
theorem insO_len (x : A) : ∀ l : List A, (insO lt x l).length ≤ l.length + 1
  | [] => by simp [insO]
  | y :: ys => by
    unfold insO
    split
    · simp
    · split
      · simp
      · have := insO_len x ys; simp; omega
theorem srtO_len : ∀ l : List A, (srtO lt l).length ≤ l.length
  | [] => by simp [srtO]
  | x :: l => by
    have h := srtO_len l
    have h2 := insO_len (lt := lt) x (srtO lt l)
    show (insO lt x (srtO lt l)).length ≤ _
    simp; omega
end
theorem ordI : Ordr ltI := ⟨fun a => by simp [ltI], fun a b c h h2 => by simp [ltI] at *; omega, fun a b h h2 => by simp [ltI] at *; omega⟩
theorem ordPr : Ordr ltPr := by
  refine ⟨fun a => ?_, fun a b c h h2 => ?_, fun a b h h2 => ?_⟩
  · simp only [ltPr, Bool.or_eq_false_iff, Bool.and_eq_false_iff, decide_eq_false_iff_not]
    exact ⟨by omega, .inr (nlt_irr _)⟩
  · simp only [ltPr, Bool.or_eq_true, Bool.and_eq_true, decide_eq_true_eq] at *
    rcases h with h | ⟨h, k⟩ <;> rcases h2 with h2 | ⟨h2, k2⟩
    · exact .inl (by omega)
    · exact .inl (by omega)
    · exact .inl (by omega)
    · exact .inr ⟨by omega, nlt_tr k k2⟩
  · obtain ⟨a1, a2⟩ := a
    obtain ⟨b1, b2⟩ := b
    simp only [ltPr, Bool.or_eq_false_iff, Bool.and_eq_false_iff, decide_eq_false_iff_not, Bool.or_eq_true, Bool.and_eq_true, decide_eq_true_eq] at *
    by_cases e : a1 = b1
    · subst e
      refine .inr ⟨rfl, ?_⟩
      rcases h.2 with z | z
      · exact absurd rfl z
      · refine nlt_of ?_ fun q => h2 (by rw [q])
        exact z
    · exact .inl (by omega)
end MP

/-! MP, part u: sorted(set(x)). -/
namespace MP
open PySem PySem.Spec PyProof.Rows L2
theorem isStrK {P : Program} {w : World} (k : Str) (u : Tok) : (PySem.strKind P w).is k (.str k u) = true := by
  show Value.isStrOf k (.str k u) = true
  simp [Value.isStrOf]
theorem perm_nodup {A : Type} [DecidableEq A] : ∀ {l m : List A}, l.Nodup → (∀ k ∈ l, k ∈ m) → m.length ≤ l.length → l.Perm m
  | [], m, _, _, h => by
    have : m = [] := List.length_eq_zero_iff.mp (Nat.le_zero.mp h)
    subst this
    exact .refl _
  | k :: l, m, hn, hs, h => by
    obtain ⟨h1, h2⟩ := List.nodup_cons.mp hn
    have hk := hs k List.mem_cons_self
    have p := List.perm_cons_erase hk
    refine (List.Perm.cons k (perm_nodup h2 (fun z hz => ?_) ?_)).trans p.symm
    · exact (List.mem_erase_of_ne (fun e => h1 (by rw [← e]; exact hz))).mpr (hs z (List.mem_cons_of_mem _ hz))
    · rw [List.length_erase_of_mem hk]
      simp at h
      omega
/-- keys met so far -/
def met {K : Type} [DecidableEq K] (ks : List K) (n : Nat) : List K := (ks.take n).foldl (fun l k => if k ∈ l then l else k :: l) []
theorem met_succ {K : Type} [DecidableEq K] {ks : List K} {i : Nat} {k : K} (h : ks[i]? = some k) : met ks (i + 1) = if k ∈ met ks i then met ks i else k :: met ks i := by
  unfold met
  rw [List.take_add_one, h]
  simp
theorem met_mem {K : Type} [DecidableEq K] {ks : List K} {z : K} : ∀ n, z ∈ met ks n ↔ z ∈ ks.take n
  | 0 => by simp [met]
  | n + 1 => by
    cases h : ks[n]? with
    | none =>
      have e : ks.take (n + 1) = ks.take n := by rw [List.take_add_one, h]; simp
      unfold met
      rw [e]
      exact met_mem n
    | some k =>
      rw [met_succ h, List.take_add_one, h]
      have ih := met_mem (ks := ks) (z := z) n
      split
      · rename_i hk
        rw [ih]
        constructor
        · intro q; exact List.mem_append_left _ q
        · intro q
          rcases List.mem_append.mp q with q | q
          · exact q
          · have : z = k := by simpa using q
            subst this
            exact (met_mem n).mp hk
      · rw [List.mem_cons, ih]
        constructor
        · rintro (rfl | q)
          · exact List.mem_append_right _ (by simp)
          · exact List.mem_append_left _ q
        · intro q
          rcases List.mem_append.mp q with q | q
          · exact .inr q
          · exact .inl (by simpa using q)
theorem met_len {K : Type} [DecidableEq K] {ks : List K} : ∀ n, (met ks n).length ≤ n
  | 0 => by simp [met]
  | n + 1 => by
    have ih := met_len (ks := ks) n
    cases h : ks[n]? with
    | none =>
      have e : ks.take (n + 1) = ks.take n := by rw [List.take_add_one, h]; simp
      unfold met at ih ⊢
      rw [e]
      omega
    | some k =>
      rw [met_succ h]
      split
      · omega
      · simp; omega
theorem strs_at : ∀ {vs : List Value} {ks : List Str}, Vals (ks.map V.str) vs → ∀ {i : Nat} {v : Value}, vs[i]? = some v → ∃ k t, ks[i]? = some k ∧ v = .str k t
  | [], [], _, _, _, h => by simp at h
  | v :: vs, k :: ks, .cons ⟨t, e⟩ q, 0, u, h => by
    have : v = u := by simpa using h
    subst this
    exact ⟨k, t, rfl, e⟩
  | v :: vs, k :: ks, .cons _ q, i + 1, u, h => by
    obtain ⟨k', t, h1, h2⟩ := strs_at q (i := i) (v := u) (by simpa using h)
    exact ⟨k', t, by simpa using h1, h2⟩
theorem strsAre_of : ∀ (vs : List Value), (∀ v ∈ vs, ∃ k t, v = Value.str k t) → ∃ ss, StrsAre vs ss
  | [], _ => ⟨[], .nil⟩
  | v :: vs, h => by
    obtain ⟨k, t, rfl⟩ := h v List.mem_cons_self
    obtain ⟨ss, q⟩ := strsAre_of vs fun u hu => h u (List.mem_cons_of_mem _ hu)
    exact ⟨k :: ss, .cons k t q⟩
theorem strsAre_is {P : Program} {w : World} : ∀ {vs : List Value} {ss : List Str}, StrsAre vs ss → ∀ k, k ∈ ss ↔ ∃ v ∈ vs, (PySem.strKind P w).is k v = true
  | _, _, .nil, k => by simp
  | _, _, .cons y t q, k => by
    rw [List.mem_cons, strsAre_is (P := P) (w := w) q k]
    constructor
    · rintro (rfl | ⟨v, hv, e⟩)
      · exact ⟨_, List.mem_cons_self, isStrK _ _⟩
      · exact ⟨v, List.mem_cons_of_mem _ hv, e⟩
    · rintro ⟨v, hv, e⟩
      rcases List.mem_cons.mp hv with rfl | hv
      · exact .inl ((PySem.strKind P w).inj _ k y e (isStrK _ _))
      · exact .inr ⟨v, hv, e⟩
theorem strKind_shape {P : Program} {w : World} {k : Str} {v : Value} (h : (PySem.strKind P w).is k v = true) : ∃ t, v = .str k t := by
  have h : Value.isStrOf k v = true := h
  cases v <;> simp [Value.isStrOf] at h
  subst h
  exact ⟨_, rfl⟩
theorem vals_strs : ∀ {vs : List Value} {ss : List Str}, StrsAre vs ss → Vals (ss.map V.str) vs
  | _, _, .nil => .nil
  | _, _, .cons y t q => .cons ⟨t, rfl⟩ (vals_strs q)
/-- sorted of a set of texts -/
theorem sorted_setS {P : Program} {w : World} {A : Around} {E : Value → Shared → Prop} {s : Shared} {a : Addr} {l : List Str} {Q : Value → Shared → Prop} (R : SetK (PySem.strKind P w) s.heap a l) (hh : A.handled = none)
    (hQ : ∀ s' p (out : Array Value) (c : Nat) (ys : List Str), (∀ b o, s.heap.get? b = some o → s'.heap.get? b = some o) → s'.gens = s.gens → s'.os = s.os → s.heap.objs.size ≤ p →
      s'.heap.get? p = some (seqObj "list" out c) → StrsAre out.toList ys → ys.Perm l → sortedS ys = true → Q (.ref p) s') : wpAny (model P w) A (call (.builtin "sorted") [.ref a]) Q E s := by
  obtain ⟨es, ep, t, ax, hel, hmem, hnd, hsz⟩ := R
  obtain ⟨o, ho, hex, hd⟩ := ax.ob
  refine Calls.call_function_entry kind_sorted plain_sorted entry_sorted (args_sorted1 _) ?_
  unfold Builtin.«sorted»
  refine wpAny_bind (m := checkCount "sorted" 1 1 _) (wpAny_pure ?_)
  refine wpAny_bind (collect_set (A := A.in1) hh ⟨o, ho, hex.1, hd⟩ ax.fits ax.few ax.ris ax.led fun s1 vs k1 hz g1 o1 pm => ?_)
  have few : vs.length ≤ sizeLine := by
    rw [pm.length_eq, List.length_map, Array.length_toList]
    exact fits_of_scanBound ax.few
  obtain ⟨ss, hss⟩ := strsAre_of vs fun v hv => by
    obtain ⟨e, he, q⟩ := List.mem_map.mp (pm.mem_iff.mp hv)
    obtain ⟨⟨k, hk, _⟩, _⟩ := hel e he
    obtain ⟨tk, e2⟩ := strKind_shape hk
    exact ⟨k, tk, by rw [← q]; exact e2⟩
  have lens : ss.length = l.length := by
    have e1 : vs.length = ss.length := by
      clear hQ k1 pm few
      induction hss with
      | nil => rfl
      | cons y t _ ih => simp [ih]
    rw [← e1, pm.length_eq, List.length_map, Array.length_toList, hsz]
  have memss : ∀ k, k ∈ ss ↔ k ∈ l := fun k => by
    rw [strsAre_is (P := P) (w := w) hss k, hmem k]
    constructor
    · rintro ⟨v, hv, q⟩
      obtain ⟨e, he, e2⟩ := List.mem_map.mp (pm.mem_iff.mp hv)
      exact ⟨e, he, by rw [e2]; exact q⟩
    · rintro ⟨e, he, q⟩
      exact ⟨e.2, pm.mem_iff.mpr (List.mem_map.mpr ⟨e, he, rfl⟩), q⟩
  have pss : l.Perm ss := perm_nodup hnd (fun k hk => (memss k).mpr hk) (by omega)
  refine wpAny_bind (wpAny_newList ?_ few)
  have oL : (s1.heap.push (seqObj "list" vs.toArray 0)).get? s1.heap.objs.size = some (seqObj "list" vs.toArray 0) := Heap.get?_push_size _ rfl
  refine wpAny_bind (wpAny_holding (wpAny_call_entry slot_list_sort ⟨_, oL, rfl⟩ entry_list_sort (list_sort_treeKAny strKind_oneLt oL hss.keysOf (fun v1 v2 rest e => keyKind_strs (by rw [← e]; exact hss)) few fun st' hp hs => ⟨_, rfl, ?_⟩) (args_list_sort _)))
  obtain ⟨ys, b1, b2, b3⟩ := sorted_out_str hss hp hs
  obtain ⟨c, hc⟩ := sortedHeap_at (vs := vs) (out := (arrOf st').map (·.2)) oL
  refine wpAny_pure ⟨_, rfl, hQ _ s1.heap.objs.size _ c ys (fun b u e => ?_) g1 o1 hz hc b1 (b2.trans pss.symm) b3⟩
  have q := k1 b u e
  have hlt := Heap.lt_size q
  show (sortedHeap (s1.heap.push (seqObj "list" vs.toArray 0)) s1.heap.objs.size vs _).get? b = some u
  rw [sortedHeap_old (Nat.ne_of_lt hlt) (by rw [size_push']; exact Nat.lt_succ_of_lt hlt)]
  exact Heap.get?_push_of_some _ q
section
variable {C : CT} {X : Cx} {W : WX} {k : Nat} {e : Expr} {pos : Pos} {f : Env → Sto → Res PV}
def rSrtS (K : PySem.W.Frag) : V → Hp → VK → Prop := fun x H Q => ∃ (a : Addr) (ks : List Str) (cs : List (List Nat)), x = .ref a ∧ SqL K H a (ks.map V.str) ∧ ks.length < 4000 ∧ (ks = cs.map fun s => ⟨s.toArray⟩) ∧ ∀ p, H p = none → Q (.ref p) (upd H p (.lst ((srtS cs).map fun s => V.str ⟨s.toArray⟩)))
theorem pe_srtS {te : TE} {p p2 q : Pos} (hc : X.calm = true) (hg : Gl X "sorted") (hm : X.mg "sorted" = none) (hg2 : Gl X "set") (hm2 : X.mg "set" = none) (ha : PE X e te) (na : starEach [e] X.env = (false, eval e X.env) :: starEach [] X.env) :
    PE X (.Call (.Name "sorted" p) [.Call (.Name "set" p2) [e] [] q] [] pos) (fun σ H Q => te σ H fun x H1 => rSrtS X.K x H1 Q) := by
  refine ⟨fun pins s σ H Q I h => Call_ (ld_blt I hg hm PyProof.Rows.boot_sorted (PyProof.Rows.callWith_builtin1 (PyProof.Rows.args_cons (Call_ (ld_blt I hg2 hm2 PyProof.Rows.boot_set ?_)) rfl) rfl rfl))⟩
  refine PyProof.Rows.callWith_type1 (PyProof.Rows.args_cons (thn (ha.run pins s σ H _ I h) fun v s1 ⟨x, H1, I1, r1, q1⟩ => PyProof.Rows.args_nil ?_) na) na rfl
  obtain ⟨a, ks, cs, rfl, hq, few, ecs, q1⟩ := q1
  cases r1
  obtain ⟨its, rv, pl, hz⟩ := I1.list hq
  have lens : its.toArray.size = ks.length := by rw [List.size_toArray, ← rv.length, List.length_map]
  refine call_set_any (I1.ok.hd hc) pl.isList (fun i h => SetK (PySem.strKind X.prog X.w) h s1.heap.objs.size (met ks i)) (fun h ho _ => freshK ho) (fun i h h' hs hk => hs.at fun o e => hk _ o (Nat.ne_of_lt (Nat.lt_succ_self _)) e) (fun i v s2 Q2 E2 hv hS hQ2 => ?_) fun h' tk hS hk => PyProof.Rows.args_nil ?_
  · obtain ⟨k1, t1, e1, rfl⟩ := strs_at (by simpa using rv) (i := i) (v := v) (by simpa using hv)
    have hi := (List.getElem?_eq_some_iff.mp e1).1
    unfold setAdd
    refine wpAny_holding (wpAny_bind ((PySem.strKind X.prog X.w).pyHash (k := k1) (isStrK k1 t1) ?_))
    refine addK_hashed (s := { s2 with toks := s2.toks + 1 }) (isStrK k1 t1) rfl hS (by have := met_len (ks := ks) i; unfold scanBound; omega) fun h2 b sb r => hQ2 b h2 _ (Nat.le_succ _) sb ?_
    rw [met_succ e1]
    exact r
  · have I2 : Inv X pins σ H1 { s1 with heap := h', toks := tk } := I1.kept fun b o e => hk b o e
    rw [lens] at hS
    refine sorted_setS hS (I1.ok.hd hc) fun s' p' out c ys kk g o hp hget hys pm hsrt => ?_
    have mem : ∀ z : Str, z ∈ met ks ks.length ↔ z.cps.toList ∈ cs := fun z => by
      rw [met_mem, List.take_length, ecs, List.mem_map]
      constructor
      · rintro ⟨y, hy, rfl⟩; simpa using hy
      · intro hy; exact ⟨_, hy, by cases z; simp⟩
    have hnd : (met ks ks.length).Nodup := hS.choose_spec.choose_spec.choose_spec.2.2.2.1
    have ey := sorted_is pm hsrt hnd mem
    have hv : Vals (((srtS cs).map fun s => V.str ⟨s.toArray⟩)) out.toList := by
      have := vals_strs hys
      rw [ey, List.map_map] at this
      exact this
    have hlen : ((srtS cs).map fun s => V.str ⟨s.toArray⟩).length ≤ sizeLine := by
      have e1 : ys.length = (srtS cs).length := by rw [ey, List.length_map]
      rw [List.length_map, ← e1, pm.length_eq]
      have := met_len (ks := ks) ks.length
      rw [sizeLine_eq]; omega
    have hn : H1 p' = none := I2.hok.fresh hp
    have J : Inv X pins σ (upd H1 p' (.lst ((srtS cs).map fun s => V.str ⟨s.toArray⟩))) { ({ s1 with heap := h', toks := tk } : Shared) with heap := s'.heap, gens := s'.gens, drawn := s'.drawn, toks := s'.toks } :=
      I2.call (ch := []) (Un.laid kk hp hn) (I2.hok.laid kk hp ⟨hlen, out.toList, c, hv, hget⟩) (by rw [g]; exact I2.bare) (fun _ z => nomatch z)
    have es : s' = { ({ s1 with heap := h', toks := tk } : Shared) with heap := s'.heap, gens := s'.gens, drawn := s'.drawn, toks := s'.toks } := by
      cases s'
      cases s1
      cases o
      rfl
    rw [es]
    exact ⟨.ref p', _, J, rfl, q1 p' hn⟩
theorem reps_strs {K : PySem.W.Frag} {r : Rg} {H : Hp} : ∀ cs : List (List Nat), Reps K r H (cs.map .str) (cs.map fun s => V.str ⟨s.toArray⟩)
  | [] => .nil
  | c :: cs => .cons (.str c) (reps_strs cs)
end
end MP

/-! MP, part v: sets whose elements are tuples of ints and texts. -/
namespace MP
open PySem PySem.Spec PyProof.Rows L2
section
variable {P : Program} {w : World} {A : Around} {E : Value → Shared → Prop} {s : Shared}
abbrev kHash (P : Program) (w : World) (k : List Key) : Int := tupleKeyHash (mixKind P w) k
abbrev KAt (P : Program) (w : World) (h : Heap) (k : List Key) (b : Addr) : Prop := IsTupleKey (mixKind P w) h k b
theorem flat_items {k : List Key} {vs : List Value} (h : ItemsAre (mixKind P w) k vs) : ∀ v ∈ vs, (∃ i u, v = Value.int i u) ∨ ∃ z u, v = Value.str z u := by
  induction h with
  | nil => exact fun v hv => (List.not_mem_nil hv).elim
  | @cons a b as bs h1 _ ih =>
    intro v hv
    rcases List.mem_cons.mp hv with rfl | hv
    · rcases keyIs_shape h1 with ⟨i, u, _, e⟩ | ⟨z, u, _, e⟩
      · exact .inl ⟨i, u, e⟩
      · exact .inr ⟨z, u, e⟩
    · exact ih v hv
/-- loops that leave early by an option, as the model writes them -/
theorem notClass_tup {k : List Key} {b : Addr} {Q : Bool → Shared → Prop} (hk : KAt P w s.heap k b) (h : Q false s) : wpAny (model P w) A (ofAClassStatement 8 (.ref b)) Q E s := by
  have ty := hk.typeIs
  obtain ⟨o, its, n, g1, _, g2, g3⟩ := hk
  have fl := flat_items g3
  unfold ofAClassStatement
  refine wpAny_bind (wpAny_typeOf ty ?_)
  dsimp only
  rw [show (("tuple" : String) == "tuple") = true from rfl]
  simp only [↓reduceIte, Bool.not_true, Bool.false_eq_true]
  try refine wpAny_bind (wpAny_pure ?_)
  try simp only [↓reduceIte, Bool.not_true, Bool.false_eq_true]
  change wpAny _ _ (seqItems? (.ref b) >>= _) _ _ s
  refine wpAny_bind (wpAny_seqItems g1 g2 (wpAny_bind ?_))
  change wpAny _ _ (forIn its _ _) _ _ s
  rw [← Array.forIn_toList]
  refine wpAny_forIn_list _ (fun left r s1 => r.1 = none ∧ s1 = s ∧ ∀ v ∈ left, (∃ i u, v = Value.int i u) ∨ ∃ z u, v = Value.str z u) _ ?_ ?_ _ _ ⟨rfl, rfl, fl⟩
  · rintro v left r s1 ⟨e, rfl, al⟩
    have ev : ofAClassStatement 7 v = pure false := by rcases al v List.mem_cons_self with ⟨i, u, rfl⟩ | ⟨z, u, rfl⟩ <;> rfl
    rw [ev]
    refine wpAny_bind (wpAny_pure ?_)
    simp only [Bool.false_eq_true, ↓reduceIte]
    exact wpAny_pure ⟨rfl, rfl, fun z hz => al z (List.mem_cons_of_mem _ hz)⟩
  · rintro ⟨r1, r2⟩ s1 ⟨e, rfl, _⟩
    dsimp only at e
    subst e
    exact wpAny_pure h
theorem hashBy_any {k : List Key} {b : Addr} {Q : Bool → Shared → Prop} (hk : KAt P w s.heap k b) (h : ∀ r, Q r s) : wpAny (model P w) A (hashByValue 8 (.ref b)) Q E s := by
  have ty := hk.typeIs
  obtain ⟨o, its, n, g1, _, g2, g3⟩ := hk
  have fl := flat_items g3
  unfold hashByValue
  refine wpAny_bind (wpAny_specialOf ty PySem.F.slot_tuple_hash.lookup ?_)
  change wpAny _ _ (seqItems? (.ref b) >>= _) _ _ s
  refine wpAny_bind (wpAny_seqItems g1 g2 (wpAny_bind ?_))
  change wpAny _ _ (forIn its _ _) _ _ s
  rw [← Array.forIn_toList]
  refine wpAny_forIn_list _ (fun left r s1 => r.1 = none ∧ s1 = s ∧ ∀ v ∈ left, (∃ i u, v = Value.int i u) ∨ ∃ z u, v = Value.str z u) _ ?_ ?_ _ _ ⟨rfl, rfl, fl⟩
  · rintro v left r s1 ⟨e, rfl, al⟩
    rcases al v List.mem_cons_self with ⟨i, u, rfl⟩ | ⟨z, u, rfl⟩
    · rw [show hashByValue 7 (.int i u) = pure true from rfl]
      refine wpAny_bind (wpAny_pure ?_)
      simp only [↓reduceIte, Bool.not_true, Bool.false_eq_true]
      exact wpAny_pure ⟨rfl, rfl, fun z hz => al z (List.mem_cons_of_mem _ hz)⟩
    · rw [show hashByValue 7 (.str z u) = pure false from rfl]
      refine wpAny_bind (wpAny_pure ?_)
      simp only [↓reduceIte, Bool.not_false]
      exact wpAny_pure (wpAny_pure (h _))
  · rintro ⟨r1, r2⟩ s1 ⟨e, rfl, _⟩
    dsimp only at e
    subst e
    exact wpAny_pure (h _)
theorem unseen_tup {k : List Key} {b : Addr} {Q : Bool → Shared → Prop} (hk : KAt P w s.heap k b) {ys : List Value} (hy : ∀ y ∈ ys, ∃ k' c, y = Value.ref c ∧ KAt P w s.heap k' c) (h : Q false s) :
    wpAny (model P w) A (searchCouldBeSeen (.ref b) ys) Q E s := by
  unfold searchCouldBeSeen
  refine wpAny_bind (wpAny_forIn_list _ (fun left r s1 => r.1 = none ∧ s1 = s ∧ ∀ y ∈ left, ∃ k' c, y = Value.ref c ∧ KAt P w s.heap k' c) _ ?_ ?_ _ _ ⟨rfl, rfl, hy⟩)
  · rintro v left r s1 ⟨e, rfl, al⟩
    obtain ⟨k2, c, rfl, hc⟩ := al v List.mem_cons_self
    have al2 : ∀ y ∈ left, ∃ k' c, y = Value.ref c ∧ KAt P w s1.heap k' c := fun z hz => al z (List.mem_cons_of_mem _ hz)
    dsimp only
    by_cases q : (b == c || (carriedByValue (.ref b) && carriedByValue (.ref c))) = true
    · exact wp_if_pos q (wpAny_pure ⟨rfl, rfl, al2⟩)
    · refine wp_if_neg q (wpAny_bind (wpAny_eqIsQuiet_tuple hk ?_))
      simp only [↓reduceIte, Bool.not_true, Bool.false_eq_true]
      refine wpAny_bind (wpAny_eqIsQuiet_tuple hc ?_)
      simp only [↓reduceIte, Bool.not_true, Bool.false_eq_true]
      refine wpAny_bind (notClass_tup hk ?_)
      simp only [Bool.false_eq_true, ↓reduceIte]
      refine wpAny_bind (notClass_tup hc ?_)
      simp only [Bool.false_eq_true, ↓reduceIte]
      exact wpAny_pure ⟨rfl, rfl, al2⟩
  · rintro ⟨r1, r2⟩ s1 ⟨e, rfl, _⟩
    dsimp only at e
    subst e
    exact wpAny_pure h
/-- the rows of a table that holds the tuples L -/
def kRows (P : Program) (w : World) (L : List (Addr × List Key)) : List (Int × Value) := L.map fun q => (kHash P w q.2, Value.ref q.1)
/-- a set at a that holds the tuples L, in the order of its table -/
structure TSet (P : Program) (w : World) (h : Heap) (a : Addr) (L : List (Addr × List Key)) (es : Array (Int × Value)) (ep : Nat) (t : SetTable) : Prop where
  ob : ∃ o, h.get? a = some o ∧ o.ExactSet ∧ o.data = .set es ep t
  rows : es.toList = kRows P w L
  tab : TabOk t (L.map fun q => kHash P w q.2)
  nd : (L.map Prod.snd).Nodup
  keys : ∀ q ∈ L, KAt P w h q.2 q.1
  led : w.params.followText "set-order" = true ∨ t.led = true
  room : L.length * 5 < t.mask * 3
  few : L.length < 64
section
variable {a : Addr} {L : List (Addr × List Key)} {es : Array (Int × Value)} {ep : Nat} {t : SetTable} {h : Heap}
theorem kRows_len (hr : es.toList = kRows P w L) : es.size = L.length := by
  rw [← Array.length_toList, hr, kRows, List.length_map]
theorem kRows_at (hr : es.toList = kRows P w L) {i : Nat} {q : Addr × List Key} (g : L[i]? = some q) : es[i]? = some (kHash P w q.2, Value.ref q.1) := by
  rw [← Array.getElem?_toList, hr, kRows, List.getElem?_map, g]
  rfl
theorem tab_fits {hs : List Int} (T : TabOk t hs) {n : Nat} (hn : hs.length = n) (hm : n ≤ t.mask) : t.fits n = true := by
  have z := T.sz
  unfold SetTable.fits SetTable.fill
  rw [T.dm, Bool.and_eq_true, beq_iff_eq, decide_eq_true_eq]
  exact ⟨by omega, by show t.place.size + 0 ≤ t.mask; omega⟩
theorem TSet.fits (R : TSet P w h a L es ep t) : t.fits es.size = true := by
  have e := kRows_len R.rows
  have m := R.room
  exact tab_fits R.tab (by rw [List.length_map, e]) (by omega)
/-- the c-th place on the way of a hash -/
abbrev onWay (m : Nat) (v : Int) (c : Nat) : SetTable.Probe := nth m (runAt m (SetTable.bits v % (m + 1)) (SetTable.bits v)) c
theorem onWay_dummy (m : Nat) (v : Int) (c : Nat) : (onWay m v c).dummy = none := by
  have gen : ∀ (n : Nat) (p : SetTable.Probe), p.dummy = none → (nth m p n).dummy = none := by
    intro n
    induction n with
    | zero => exact fun p e => e
    | succ n ih => exact fun p e => ih (adv m p) (by unfold adv; split <;> exact e)
  exact gen c _ rfl
theorem tsearch_from (R : TSet P w s.heap a L es ep t) {x : Addr} {k : List Key} (hx : KAt P w s.heap k x) (hu : A.units < cLine) {v : Int} (hv : v = kHash P w k) {K : Nat} (k1 : K < 10 * SetTable.turns t.mask)
    (k2 : way t.mask v K ∉ t.place.toList) (k3 : ∀ c, c < K → way t.mask v c ∈ t.place.toList) {Q : SetFound → Shared → Prop} (yes : k ∈ L.map Prod.snd → Q (.there none) s) (no : k ∉ L.map Prod.snd → Q (.free (way t.mask v K) false) s) :
    ∀ (f c : Nat) (from' : Option SetTable.Probe), from'.getD (t.probeStart v) = onWay t.mask v c → c ≤ K → K - c < f →
      (∀ (i : Nat) q, L[i]? = some q → q.2 = k → ∃ d, c ≤ d ∧ d < K ∧ t.place.toList[i]? = some (way t.mask v d)) → wpAny (model P w) A (setSearchFrom a (.ref x) v true f from') Q E s
  | 0, _, _, _, _, z, _ => (Nat.not_lt_zero _ z).elim
  | f + 1, c, from', st, hc, hf, ahead => by
    obtain ⟨o, o1, o2, o3⟩ := R.ob
    rw [setSearchFrom_succ]
    refine wpAny_bind (wpAny_setState_of o1 o3 R.fits ?_)
    dsimp only
    refine wp_if_neg (by unfold SetTable.gaveWay; rw [mask_odd R.tab.mok]; decide) ?_
    try refine wpAny_bind (wpAny_pure ?_)
    have go : ∀ q, nth t.mask (onWay t.mask v c) q = onWay t.mask v (c + q) := fun q => (nth_add t.mask c _ q).symm
    have goj : ∀ q, (nth t.mask (onWay t.mask v c) q).j = way t.mask v (c + q) := fun q => congrArg SetTable.Probe.j (go q)
    have met := go_spec t R.tab.ris R.tab.dm (fun i => (es[i]?.map (·.1)).getD 0) v (10 * SetTable.turns t.mask) (K - c) (onWay t.mask v c) (onWay_dummy _ _ _) (by omega)
      (fun q hq => by rw [goj]; exact k3 _ (by omega)) (by rw [goj, show c + (K - c) = K by omega]; exact k2)
    have hashOf : ∀ (i : Nat) q, L[i]? = some q → (es[i]?.map (·.1)).getD 0 = kHash P w q.2 := fun i q g => by rw [kRows_at R.rows g]; rfl
    rcases met with ⟨q, i, m1, m2, m3, m4, m5⟩ | ⟨m4, m5⟩
    · have pr : t.probe (fun i => (es[i]?.map (·.1)).getD 0) v (from'.getD (t.probeStart v)) = some (.candidate (way t.mask v (c + q)) i (onWay t.mask v (c + (q + 1)))) := by
        rw [st, ← goj, ← go]; exact m5
      rw [pr]
      dsimp only
      rw [goj] at m2
      have il : i < L.length := by
        have z1 := (List.getElem?_eq_some_iff.mp m2).1
        have z2 := R.tab.sz
        rw [Array.length_toList] at z1
        rw [List.length_map] at z2
        omega
      obtain ⟨y, hy⟩ : ∃ y, L[i]? = some y := ⟨_, List.getElem?_eq_getElem il⟩
      have ym : y ∈ L := List.mem_of_getElem? hy
      have later : wpAny (model P w) A (searchRest a (.ref x) v true f es t (way t.mask v (c + q)) i (onWay t.mask v (c + (q + 1)))) Q E s := by
        unfold searchRest
        rw [kRows_at R.rows hy]
        dsimp only
        refine wpAny_bind (wpAny_holding (wpAny_eqBool_tuple hu (R.keys y ym) hx (wpAny_bind (wpAny_setState_of o1 o3 R.fits ?_))))
        dsimp only
        by_cases same : y.2 = k
        · exact wp_if_pos (by simp [same]) (wpAny_pure (yes (List.mem_map.mpr ⟨y, ym, same⟩)))
        · refine wp_if_neg (by simp [same]) ?_
          try refine wpAny_bind (wpAny_pure ?_)
          have sl : t.slot (way t.mask v (c + q)) = .live i := slot_live R.tab.ris m2
          rw [L2.sameMem]
          simp only [↓reduceIte, sl, kRows_at R.rows hy]
          refine wpAny_bind (wpAny_isSame_ref_self (wpAny_bind (wpAny_pure ?_)))
          simp only [↓reduceIte]
          refine wp_if_neg (by simp [same]) (tsearch_from R hx hu hv k1 k2 k3 yes no f (c + (q + 1)) _ rfl (by omega) (by omega) fun i2 q2 g1 g2 => ?_)
          obtain ⟨d, d1, d2, d3⟩ := ahead i2 q2 g1 g2
          refine ⟨d, Classical.byContradiction fun z => ?_, d2, d3⟩
          by_cases z2 : d = c + q
          · rw [z2] at d3
            have z3 := slot_live R.tab.ris d3
            rw [sl] at z3
            injection z3 with z3
            subst z3
            rw [hy] at g1
            cases g1
            exact same g2
          · refine m4 (d - c) i2 (by omega) (by rw [goj, show c + (d - c) = d by omega]; exact d3) ?_
            show (es[i2]?.map (·.1)).getD 0 = v
            rw [hashOf i2 q2 g1, g2, hv]
      by_cases ld : t.led = true
      · refine wp_if_neg (by simp [ld]) ?_
        try refine wpAny_bind (wpAny_pure ?_)
        exact later
      · refine wp_if_pos (by simp [ld]) (wpAny_bind (unseen_tup hx (fun z hz => ?_) ?_))
        · obtain ⟨e, e1, e2⟩ := List.mem_map.mp hz
          have e3 : e ∈ es.toList := by
            have : e ∈ es ∧ e.1 = v := by simpa using e1
            simpa using this.1
          rw [R.rows, kRows] at e3
          obtain ⟨q2, f1, f2⟩ := List.mem_map.mp e3
          exact ⟨q2.2, q2.1, by rw [← e2, ← f2], R.keys q2 f1⟩
        · refine wp_if_neg (by decide) ?_
          try refine wpAny_bind (wpAny_pure ?_)
          exact later
    · have pr : t.probe (fun i => (es[i]?.map (·.1)).getD 0) v (from'.getD (t.probeStart v)) = some (.empty (way t.mask v K) none) := by
        have : way t.mask v K = (nth t.mask (onWay t.mask v c) (K - c)).j := by rw [goj, show c + (K - c) = K by omega]
        rw [st, this]; exact m5
      rw [pr]
      dsimp only
      refine wpAny_pure (no fun z => ?_)
      obtain ⟨q2, f1, f2⟩ := List.mem_map.mp z
      obtain ⟨i2, g0⟩ := List.mem_iff_getElem?.mp f1
      obtain ⟨d, d1, d2, d3⟩ := ahead i2 q2 g0 f2
      refine m4 (d - c) i2 (by omega) (by rw [goj, show c + (d - c) = d by omega]; exact d3) ?_
      show (es[i2]?.map (·.1)).getD 0 = v
      rw [hashOf i2 q2 g0, f2, hv]
theorem tsearch (R : TSet P w s.heap a L es ep t) {x : Addr} {k : List Key} (hx : KAt P w s.heap k x) (hu : A.units < cLine) {Q : SetFound → Shared → Prop} (yes : k ∈ L.map Prod.snd → Q (.there none) s)
    (no : ∀ K, k ∉ L.map Prod.snd → way t.mask (kHash P w k) K ∉ t.place.toList → (∀ c, c < K → way t.mask (kHash P w k) c ∈ t.place.toList) → Q (.free (way t.mask (kHash P w k) K) false) s) :
    wpAny (model P w) A (setSearch a (.ref x) (kHash P w k) true) Q E s := by
  have rm := R.room
  obtain ⟨K, k1, k2, k3⟩ := R.tab.first (by rw [List.length_map]; omega) (kHash P w k)
  have big : 10 * SetTable.turns t.mask ≤ 1420 := by
    unfold SetTable.turns
    rcases R.tab.mok with e | e | e <;> omega
  unfold setSearch
  refine tsearch_from R hx hu rfl k1 k2 k3 yes (fun z => no K z k2 k3) 100000 0 none rfl (Nat.zero_le _) (by omega) fun i q g1 g2 => ?_
  have lt : i < t.place.toList.length := by
    have z1 := (List.getElem?_eq_some_iff.mp g1).1
    have z2 := R.tab.sz
    rw [List.length_map] at z2
    rw [Array.length_toList]; omega
  obtain ⟨d, d1, d2⟩ := R.tab.before k2 (i := i) (j := t.place.toList[i]) (by rw [List.getElem?_map, g1, ← g2]; rfl) (List.getElem?_eq_getElem lt)
  exact ⟨d, Nat.zero_le _, d1, by rw [d2]; exact List.getElem?_eq_getElem lt⟩
theorem KAt.but {h h' : Heap} {k : List Key} {b : Addr} {o : Obj} (x : KAt P w h k b) (o1 : h.get? a = some o) (o3 : o.data = .set es ep t) (sb : Heap.SameBut a h h') : KAt P w h' k b := by
  obtain ⟨o', its, n, g1, g2, g3, g4⟩ := x
  refine ⟨o', its, n, (sb.2 b fun e => ?_).trans g1, g2, g3, g4⟩
  subst e
  rw [o1] at g1
  cases g1
  rw [o3] at g3
  cases g3
theorem kRows_ins (p : Nat) (x : Addr) (k : List Key) : kRows P w (L.take p ++ (x, k) :: L.drop p) = (kRows P w L).take p ++ (kHash P w k, Value.ref x) :: (kRows P w L).drop p := by
  simp only [kRows, List.map_append, List.map_cons, List.map_take, List.map_drop]
/-- rows told in another order -/
theorem kRows_order {order : Array Nat} (hr : es.toList = kRows P w L) (hp : order.toList.Perm (List.range L.length)) :
    ∃ M : List (Addr × List Key), (order.filterMap (es[·]?)).toList = kRows P w M ∧ M.Perm L ∧ (M.map fun q => kHash P w q.2) = order.toList.map fun i => (es.map (·.1)).getD i 0 := by
  have gen : ∀ l : List Nat, (∀ i ∈ l, i < L.length) → l.filterMap (fun i => es[i]?) = kRows P w (l.filterMap fun i => L[i]?) ∧ ((l.filterMap fun i => L[i]?).map fun q => kHash P w q.2) = l.map fun i => (es.map (·.1)).getD i 0 := by
    intro l
    induction l with
    | nil => exact fun _ => ⟨rfl, rfl⟩
    | cons i l ih =>
      intro hl
      obtain ⟨q, hq⟩ : ∃ q, L[i]? = some q := ⟨_, List.getElem?_eq_getElem (hl i List.mem_cons_self)⟩
      have he := kRows_at hr hq
      obtain ⟨i1, i2⟩ := ih fun j hj => hl j (List.mem_cons_of_mem _ hj)
      refine ⟨?_, ?_⟩
      · rw [List.filterMap_cons_some he, List.filterMap_cons_some hq, i1]; rfl
      · rw [List.filterMap_cons_some hq, List.map_cons, List.map_cons, i2]
        have : (es.map (·.1)).getD i 0 = kHash P w q.2 := by
          have e2 : (es.map (·.1))[i]? = some (kHash P w q.2) := by rw [Array.getElem?_map, he]; rfl
          rw [Array.getD_eq_getD_getElem?, e2]; rfl
        rw [this]
  obtain ⟨g1, g2⟩ := gen order.toList fun i hi => List.mem_range.mp (hp.mem_iff.mp hi)
  refine ⟨order.toList.filterMap fun i => L[i]?, by first | (rw [Array.toList_filterMap]; exact g1) | simpa using g1, ?_, g2⟩
  have all : ∀ n, n ≤ L.length → (List.range n).filterMap (fun i => L[i]?) = L.take n := by
    intro n
    induction n with
    | zero => exact fun _ => rfl
    | succ n ih =>
      intro hn
      rw [List.range_succ, List.filterMap_append, ih (by omega), List.take_add_one]
      obtain ⟨q, hq⟩ : ∃ q, L[n]? = some q := ⟨_, List.getElem?_eq_getElem hn⟩
      rw [hq, List.filterMap_cons_some hq]; rfl
  have := hp.filterMap fun i => L[i]?
  rwa [all L.length (Nat.le_refl _), List.take_length] at this
theorem trelay {o : Obj} (o1 : s.heap.get? a = some o) (o2 : o.ExactSet) (o3 : o.data = .set es ep t) (hr : es.toList = kRows P w L) (T : TabOk t (L.map fun q => kHash P w q.2)) (hm : L.length ≤ t.mask)
    (nd : (L.map Prod.snd).Nodup) (ks : ∀ q ∈ L, KAt P w s.heap q.2 q.1) (ld : w.params.followText "set-order" = true ∨ t.led = true) (few : L.length < 64) {n M : Nat} (n1 : SetTable.sizeAbove n - 1 = M) (n2 : MaskOk M) (n3 : SetTable.sizeAbove n ≤ 128)
    (n4 : L.length * 5 < M * 3) {Q : Unit → Shared → Prop} (hQ : ∀ h' L' es' ep' t', Heap.SameBut a s.heap h' → TSet P w h' a L' es' ep' t' → L'.Perm L → Q () { s with heap := h' }) : wpAny (model P w) A (setRelay a n) Q E s := by
  have ez := kRows_len hr
  obtain ⟨t2, order, r1, r2, r3, r4, r5, r6, r7⟩ := relaid_ok t (hs := es.map (·.1)) (wanted := n) n1 n2 (by rw [Array.size_map, ez]; omega)
  rw [Array.size_map, ez] at r2
  obtain ⟨L2, w1, w2, w3⟩ := kRows_order hr r2
  rw [← w3] at r3
  have ez2 : (order.filterMap (es[·]?)).size = es.size := by rw [kRows_len w1, w2.length_eq, ez]
  rw [setRelay_eq]
  refine wpAny_bind (wpAny_setState_of o1 o3 (tab_fits T (by rw [List.length_map, ez]) (by omega)) ?_)
  dsimp only
  refine wp_if_neg (by rw [sizeLine_eq]; omega) ?_
  try refine wpAny_bind (wpAny_pure ?_)
  rw [r1]
  dsimp only
  refine wpAny_bind (wp_if_neg (by rw [ez2]; simp) ?_)
  try refine wpAny_bind (wpAny_pure ?_)
  refine wpAny_pure (wpAny_storeSet_of o1 o3 ?_ (by rw [ez2, ez, sizeLine_eq]; omega))
  have sb : Heap.SameBut a s.heap (s.heap.update a (Obj.putSet (order.filterMap (es[·]?)) t2)) := Heap.SameBut.update ..
  refine hQ _ L2 _ (ep + 1) t2 sb ⟨⟨_, store_at o1 o3, ⟨o2.1, o2.2.1, o2.2.2⟩, rfl⟩, w1, r3, (w2.map Prod.snd).nodup_iff.mpr nd, fun q hq => (ks q (w2.mem_iff.mp hq)).but o1 o3 sb, by rw [r5]; exact ld, ?_, ?_⟩ w2
  · rw [w2.length_eq, r4]; exact n4
  · rw [w2.length_eq]; exact few
theorem tab_unplain {hs : List Int} (T : TabOk t hs) (b : Bool) : TabOk (if b then t else { t with plain := false }) hs := by
  cases b
  · exact ⟨T.ris, T.dm, T.sz, T.mok, T.bd, T.reach⟩
  · exact T
theorem tadd (R : TSet P w s.heap a L es ep t) {x : Addr} {k : List Key} (hx : KAt P w s.heap k x) (hu : A.units < cLine) (few : L.length + 1 < 64) {Q : Bool → Shared → Prop}
    (hQ : ∀ b h' L' es' ep' t', Heap.SameBut a s.heap h' → TSet P w h' a L' es' ep' t' → (k ∈ L.map Prod.snd → L' = L) → (k ∉ L.map Prod.snd → L'.Perm ((x, k) :: L)) → Q b { s with heap := h' }) :
    wpAny (model P w) A (setAddHashed a (.ref x) (kHash P w k)) Q E s := by
  obtain ⟨o, o1, o2, o3⟩ := R.ob
  have ez := kRows_len R.rows
  have rm := R.room
  unfold setAddHashed
  refine wpAny_holding ?_
  rw [show (100000 : Nat) = 99999 + 1 from rfl, setAddHashedIn_succ]
  refine wpAny_bind (wpAny_setState_of o1 o3 R.fits ?_)
  dsimp only
  refine wp_if_neg (by simp [byScan, Value.scannable]) ?_
  try refine wpAny_bind (wpAny_pure ?_)
  refine wpAny_bind (tsearch R hx hu (fun z => ?_) fun K z z2 z3 => ?_)
  · exact wpAny_pure (hQ false s.heap L es ep t (Heap.SameBut.refl a s.heap) R (fun _ => rfl) fun q => absurd z q)
  · dsimp only
    refine wpAny_bind (wpAny_setState_of o1 o3 R.fits ?_)
    dsimp only
    obtain ⟨q1, q2, q3, q4, q5, q6, q7, q8, q9⟩ := R.tab.put z2 z3
    generalize t.put (way t.mask (kHash P w k) K) = pt at q1 q3 q4 q5 q6 q7 q8 q9 ⊢
    obtain ⟨t1, p⟩ := pt
    dsimp only at q1 q3 q4 q5 q6 q7 q8 q9 ⊢
    rw [← q1] at q2 q3
    clear q1
    have end' : ∀ byV : Bool, wpAny (model P w) A (do
        storeSet a (SetTable.insertAt es p (kHash P w k, Value.ref x)) (if byV then t1 else { t1 with plain := false })
        if (!false && (if byV then t1 else { t1 with plain := false }).tooFull) = true then setRelay a (SetTable.grown (es.size + 1))
        return true) Q E s := by
      intro byV
      have T1 := tab_unplain q3 byV
      have em : (if byV then t1 else { t1 with plain := false }).mask = t.mask := by cases byV <;> exact q4
      have el : (if byV then t1 else { t1 with plain := false }).led = t.led := by cases byV <;> exact q5
      have ef : (if byV then t1 else { t1 with plain := false }).fill = L.length + 1 := by rw [List.length_map] at q9; cases byV <;> exact q9
      generalize (if byV then t1 else { t1 with plain := false }) = t2 at T1 em el ef ⊢
      have pm := put_perm L p (x, k)
      have hin : (SetTable.insertAt es p (kHash P w k, Value.ref x)).toList = kRows P w (L.take p ++ (x, k) :: L.drop p) := by rw [SetTable.toList_insertAt, kRows_ins, R.rows]
      have hh : (L.map fun q => kHash P w q.2).take p ++ kHash P w k :: (L.map fun q => kHash P w q.2).drop p = (L.take p ++ (x, k) :: L.drop p).map fun q => kHash P w q.2 := by
        simp only [List.map_append, List.map_cons, List.map_take, List.map_drop]
      rw [hh] at T1
      generalize SetTable.insertAt es p (kHash P w k, Value.ref x) = es1 at hin ⊢
      generalize L.take p ++ (x, k) :: L.drop p = L1 at pm hin T1
      have ln : L1.length = L.length + 1 := pm.length_eq
      have ez1 := kRows_len hin
      have nd1 : (L1.map Prod.snd).Nodup := (pm.map Prod.snd).nodup_iff.mpr (List.nodup_cons.mpr ⟨z, R.nd⟩)
      refine wpAny_bind (wpAny_storeSet_of o1 o3 ?_ (by rw [ez1, ln, sizeLine_eq]; omega))
      have sb : Heap.SameBut a s.heap (s.heap.update a (Obj.putSet es1 t2)) := Heap.SameBut.update ..
      have ho := store_at (es' := es1) (t' := t2) o1 o3
      generalize s.heap.update a (Obj.putSet es1 t2) = h1 at sb ho ⊢
      have ks1 : ∀ q ∈ L1, KAt P w h1 q.2 q.1 := fun q hq => (List.mem_cons.mp (pm.mem_iff.mp hq)).elim (fun e => by rw [e]; exact hx.but o1 o3 sb) fun e => (R.keys q e).but o1 o3 sb
      have ld1 : w.params.followText "set-order" = true ∨ t2.led = true := by rw [el]; exact R.led
      by_cases full : t2.tooFull = true
      · have fu : (L.length + 1) * 5 ≥ t.mask * 3 := by
          have := full
          unfold SetTable.tooFull at this
          rw [decide_eq_true_eq, ef, em] at this
          exact this
        have two : (t.mask = 7 ∧ L.length = 4) ∨ (t.mask = 31 ∧ L.length = 18) := by
          rcases R.tab.mok with e | e | e <;> rw [e] at fu rm
          · exact .inl ⟨e, by omega⟩
          · exact .inr ⟨e, by omega⟩
          · omega
        have act : ∀ M, SetTable.sizeAbove (SetTable.grown (L.length + 1)) - 1 = M → MaskOk M → SetTable.sizeAbove (SetTable.grown (L.length + 1)) ≤ 128 → (L.length + 1) * 5 < M * 3 →
            wpAny (model P w) A (setRelay a (SetTable.grown (L.length + 1))) (fun _ s' => wpAny (model P w) A (pure true) Q E s') E { s with heap := h1 } := fun M a1 a2 a3 a4 =>
          trelay (s := { s with heap := h1 }) ho ⟨o2.1, o2.2.1, o2.2.2⟩ rfl hin T1 (by rw [ln, em]; rcases two with ⟨e, e2⟩ | ⟨e, e2⟩ <;> omega) nd1 ks1 ld1 (by omega) a1 a2 a3 (by rw [ln]; exact a4)
            fun h2 L2 es2 ep2 t3 sb2 R2 pm2 => wpAny_pure (hQ true h2 L2 es2 ep2 t3 (sb.trans sb2) R2 (fun q => absurd q z) fun _ => pm2.trans pm)
        rw [ez]
        first
          | (refine wpAny_bind ?_; refine wp_if_pos (by simp [full]) ?_)
          | (refine wp_if_pos (by simp [full]) ?_; refine wpAny_bind ?_)
        rcases two with ⟨_, e⟩ | ⟨_, e⟩
        · exact act 31 (by rw [e, size_20]) (.inr (.inl rfl)) (by rw [e, size_20]; decide) (by omega)
        · exact act 127 (by rw [e, size_76]) (.inr (.inr rfl)) (by rw [e, size_76]; decide) (by omega)
      · first
          | refine wp_if_neg (by simp [full]) ?_
          | (refine wpAny_bind ?_; refine wp_if_neg (by simp [full]) ?_; refine wpAny_pure ?_)
        refine wpAny_pure (hQ true h1 L1 es1 (ep + 1) t2 sb ⟨⟨_, ho, ⟨o2.1, o2.2.1, o2.2.2⟩, rfl⟩, hin, T1, nd1, ks1, ld1, ?_, by omega⟩ (fun q => absurd q z) fun _ => pm)
        have := full
        unfold SetTable.tooFull at this
        rw [decide_eq_true_eq, ef] at this
        omega
    by_cases pl : t1.plain = true
    · first
        | (refine wpAny_bind ?_; refine wp_if_pos pl ?_; refine hashBy_any hx fun r => ?_)
        | refine wp_if_pos pl (wpAny_bind (hashBy_any hx fun r => ?_))
      exact end' r
    · first
        | (refine wpAny_bind ?_; refine wp_if_neg pl ?_; refine wpAny_pure ?_)
        | refine wp_if_neg pl ?_
      exact end' true
end
end
end MP

/-! MP, part w: sorted of a set of data. -/
namespace MP
open PySem PySem.Spec PyProof.Rows L2
section
variable {α β : Type} {R R' : α → β → Prop}
theorem each_and : ∀ {as : List α} {bs : List β}, PySem.W.EachIs (fun a b => R a b ∧ R' a b) as bs → PySem.W.EachIs R as bs ∧ PySem.W.EachIs R' as bs
  | _, _, .nil => ⟨.nil, .nil⟩
  | _, _, .cons h t => ⟨.cons h.1 (each_and t).1, .cons h.2 (each_and t).2⟩
/-- pairs follow a new order of the one side -/
theorem each_perm {as as' : List α} (p : as'.Perm as) : ∀ {bs : List β}, PySem.W.EachIs R as bs → ∃ bs', bs'.Perm bs ∧ PySem.W.EachIs R as' bs' := by
  induction p with
  | nil => intro bs h; exact ⟨bs, .refl _, h⟩
  | cons x _ ih =>
    intro bs h
    cases h with
    | cons h t =>
      obtain ⟨bs', q, r⟩ := ih t
      exact ⟨_ :: bs', q.cons _, .cons h r⟩
  | swap x y l =>
    intro bs h
    cases h with
    | cons h t =>
      cases t with
      | cons h2 t => exact ⟨_, .swap _ _ _, .cons h2 (.cons h t)⟩
  | trans _ _ ih1 ih2 =>
    intro bs h
    obtain ⟨b1, q1, r1⟩ := ih2 h
    obtain ⟨b2, q2, r2⟩ := ih1 r1
    exact ⟨b2, q2.trans q1, r2⟩
end
theorem sorted_setD {P : Program} {w : World} {A : Around} {E : Value → Shared → Prop} {s : Shared} {a : Addr} {es : Array (Int × Value)} {ep : Nat} {t : SetTable} {β : Type} {enc : β → PyData} {R : Value → β → Prop} {bs : List β} {Q : Value → Shared → Prop}
    (ob : ∃ o, s.heap.get? a = some o ∧ o.ExactSet ∧ o.data = .set es ep t) (few : es.size < scanBound) (fits : t.fits es.size = true) (ris : Ris t.place.toList) (led : w.params.followText "set-order" = true ∨ t.led = true) (hh : A.handled = none)
    (e : PySem.W.EachIs (fun v b => R v b ∧ Reads s.heap v (enc b) []) (es.toList.map (·.2)) bs) (hal : PySem.W.AllAlike (bs.map enc)) (hk : PySem.W.Sortable (bs.map enc)) (hu : ∀ b ∈ bs, A.units + 2 + (enc b).depth < cLine)
    (hQ : ∀ s' p (out : Array Value) (c : Nat) (bs' : List β), (∀ b o, s.heap.get? b = some o → s'.heap.get? b = some o) → s'.gens = s.gens → s'.os = s.os → s.heap.objs.size ≤ p →
      s'.heap.get? p = some (seqObj "list" out c) → bs'.Perm bs → PySem.W.EachIs R out.toList (bs'.mergeSort (PySem.W.dataLe false enc)) → Q (.ref p) s') : wpAny (model P w) A (call (.builtin "sorted") [.ref a]) Q E s := by
  obtain ⟨o, ho, hex, hd⟩ := ob
  refine Calls.call_function_entry kind_sorted plain_sorted entry_sorted (args_sorted1 _) ?_
  unfold Builtin.«sorted»
  refine wpAny_bind (m := checkCount "sorted" 1 1 _) (wpAny_pure ?_)
  refine wpAny_bind (collect_set (A := A.in1) hh ⟨o, ho, hex.1, hd⟩ fits few ris led fun s1 vs k1 hz g1 o1 pm => ?_)
  obtain ⟨bs', bp, be⟩ := each_perm pm e
  have len : vs.length = es.size := by rw [pm.length_eq, List.length_map, Array.length_toList]
  have lenb : bs'.length = es.size := by rw [← be.length, len]
  have fit : es.size ≤ sizeLine := fits_of_scanBound few
  refine wpAny_bind (wpAny_newList ?_ (by rw [len]; exact fit))
  have oL : (s1.heap.push (seqObj "list" vs.toArray 0)).get? s1.heap.objs.size = some (seqObj "list" vs.toArray 0) := Heap.get?_push_size _ rfl
  have kp : ∀ b u, s.heap.get? b = some u → (s1.heap.push (seqObj "list" vs.toArray 0)).get? b = some u := fun b u q => Heap.get?_push_of_some _ (k1 b u q)
  obtain ⟨bR, bD⟩ := each_and be
  have hal' : PySem.W.AllAlike (bs'.map enc) := fun d hd d' hd' => hal d ((bp.map enc).mem_iff.mp hd) d' ((bp.map enc).mem_iff.mp hd')
  have hk' : PySem.W.Sortable (bs'.map enc) := hk.imp (fun z d hd => z d ((bp.map enc).mem_iff.mp hd)) fun z d hd => z d ((bp.map enc).mem_iff.mp hd)
  refine wpAny_bind (wpAny_holding (PySem.W.list_sort_data (R := R) (enc := enc) (bs := bs') oL bR (bD.mono fun v b r => ⟨[], PyProof.Rows.Reads.keeps kp r, List.not_mem_nil⟩) hal' hk' (by rw [lenb]; exact fit)
    (fun b hb => by have := hu b (bp.mem_iff.mp hb); show A.units + 1 + 1 + (enc b).depth < cLine; omega) fun out hl ho2 => ?_))
  obtain ⟨c, hc⟩ := sortedHeap_at (vs := vs) (out := List.toArray out) oL
  refine wpAny_pure ⟨_, rfl, hQ _ s1.heap.objs.size _ c bs' (fun b u q => ?_) g1 o1 hz hc bp (by simpa using ho2)⟩
  have q2 := k1 b u q
  have lt := Heap.lt_size q2
  show (sortedHeap (s1.heap.push (seqObj "list" vs.toArray 0)) s1.heap.objs.size vs _).get? b = some u
  rw [sortedHeap_old (Nat.ne_of_lt lt) (by rw [size_push']; exact Nat.lt_succ_of_lt lt)]
  exact Heap.get?_push_of_some _ q2
/-! ### the orders -/
section
variable {A B : Type} [DecidableEq A] {lt : A → A → Bool}
theorem merge_is (O : Ordr lt) {le : B → B → Bool} {f : B → A} (hle : ∀ a b, le a b = !lt (f b) (f a)) {bs : List B} (nd : (bs.map f).Nodup) {xs : List A} (mem : ∀ z, z ∈ bs.map f ↔ z ∈ xs) : (bs.mergeSort le).map f = srtO lt xs := by
  have tr : ∀ a b c, le a b = true → le b c = true → le a c = true := fun a b c h1 h2 => by
    rw [hle, Bool.not_eq_true'] at h1 h2 ⊢
    cases q : lt (f c) (f a) with
    | false => rfl
    | true =>
      by_cases e : f b = f a
      · rw [e, q] at h2; cases h2
      · have := O.tot _ _ h1 e
        rw [O.tr _ _ _ q this] at h2
        cases h2
  have tot : ∀ a b, (le a b || le b a) = true := fun a b => by
    rw [hle, hle]
    cases q : lt (f b) (f a) with
    | false => rfl
    | true =>
      cases q2 : lt (f a) (f b) with
      | false => rfl
      | true =>
        have := O.tr _ _ _ q q2
        rw [O.irr] at this
        cases this
  have pm := List.mergeSort_perm bs le
  have pw := List.pairwise_mergeSort tr tot bs
  have nd2 : ((bs.mergeSort le).map f).Nodup := (pm.map f).nodup_iff.mpr nd
  refine ordr_uniq O ?_ (srtO_srt O xs) fun z => by rw [(pm.map f).mem_iff, mem, srtO_mem]
  refine List.pairwise_map.mpr ((pw.and (List.pairwise_map.mp nd2)).imp fun {a b} ⟨q1, q2⟩ => ?_)
  rw [hle, Bool.not_eq_true'] at q1
  exact O.tot _ _ q1 fun e => q2 e.symm
end
theorem dlt_int (x y : Int) : PySem.W.dataLt (.int x) (.int y) = ltI x y := by
  have h := congrFun (congrFun (PySem.W.dataLe_int (β := Int) id) y) x
  rw [PySem.W.dataLe_eq] at h
  simp only [id, cond_false] at h
  unfold ltI
  have e : decide (y ≤ x) = !decide (x < y) := by
    by_cases q : x < y
    · rw [decide_eq_true q, decide_eq_false (by omega)]; rfl
    · rw [decide_eq_false q, decide_eq_true (by omega)]; rfl
  rw [e] at h
  exact Bool.not_inj h
theorem dlt_str (x y : List Nat) : PySem.W.dataLt (.str ⟨x.toArray⟩) (.str ⟨y.toArray⟩) = decide (x < y) := by
  have h := congrFun (congrFun (PySem.W.dataLe_str (β := Str) id) ⟨y.toArray⟩) ⟨x.toArray⟩
  rw [PySem.W.dataLe_eq] at h
  simp only [id, cond_false] at h
  have e : decide (y ≤ x) = !decide (x < y) := by
    by_cases q : x < y
    · rw [decide_eq_true q, decide_eq_false fun z => List.not_lt.mpr z q]; rfl
    · rw [decide_eq_false q, decide_eq_true (List.not_lt.mp q)]; rfl
  rw [e] at h
  exact Bool.not_inj h
def prD (p : Int × List Nat) : PyData := .tuple [.int p.1, .str ⟨p.2.toArray⟩]
theorem dlt_pr (p q : Int × List Nat) : PySem.W.dataLt (prD p) (prD q) = ltPr p q := by
  unfold prD
  rw [PySem.W.dataLt_pair rfl rfl, dlt_int, dlt_str]
  have e1 : PyData.eqv (.int p.1) (.int q.1) = decide (p.1 = q.1) := by
    simp only [PyData.eqv]
    by_cases h : p.1 = q.1 <;> simp [h]
  have e2 : PyData.eqv (.str ⟨p.2.toArray⟩) (.str ⟨q.2.toArray⟩) = decide (p.2 = q.2) := by
    simp only [PyData.eqv]
    by_cases h : p.2 = q.2 <;> simp [h]
  rw [e1, e2]
  unfold ltPr ltI
  by_cases h : p.1 = q.1
  · rw [h]
    by_cases h2 : p.2 = q.2
    · rw [h2]; simp [nlt_irr]
    · simp [h2]
  · simp [h]
/-! ### sorted(set(x)), whatever x is known to be -/
section
variable {C : CT} {X : Cx} {W : WX} {k : Nat} {e : Expr} {pos : Pos} {f : Env → Sto → Res PV}
def SrtCore (X : Cx) (r : V → Hp → VK → Prop) : Prop := ∀ (pins : List (Addr × Obj)) (s : Shared) (σ : L2.St) (H : Hp) (Q : VK) (x : V) (v : Value), Inv X pins σ H s → RelV x v → r x H Q →
  wpAny (model X.prog X.w) X.A (call (.type "set") [v]) (fun sv s2 => wpAny (model X.prog X.w) X.A (call (.builtin "sorted") [sv]) (EP X pins σ Q) X.xe s2) X.xe s
theorem pe_srtG {te : TE} {r : V → Hp → VK → Prop} {p p2 q : Pos} (core : SrtCore X r) (hg : Gl X "sorted") (hm : X.mg "sorted" = none) (hg2 : Gl X "set") (hm2 : X.mg "set" = none) (ha : PE X e te) (na : starEach [e] X.env = (false, eval e X.env) :: starEach [] X.env) :
    PE X (.Call (.Name "sorted" p) [.Call (.Name "set" p2) [e] [] q] [] pos) (fun σ H Q => te σ H fun x H1 => r x H1 Q) := by
  refine ⟨fun pins s σ H Q I h => Call_ (ld_blt I hg hm PyProof.Rows.boot_sorted (PyProof.Rows.callWith_builtin1 (PyProof.Rows.args_cons (Call_ (ld_blt I hg2 hm2 PyProof.Rows.boot_set ?_)) rfl) rfl rfl))⟩
  refine PyProof.Rows.callWith_type1 (PyProof.Rows.args_cons (thn (ha.run pins s σ H _ I h) fun v s1 ⟨x, H1, I1, r1, q1⟩ => PyProof.Rows.args_nil ?_) na) na rfl
  exact thn (core pins s1 σ H1 Q x v I1 r1 q1) fun sv s2 h2 => PyProof.Rows.args_nil h2
/-- the new list, behind it all -/
theorem srt_done {pins : List (Addr × Obj)} {s s' : Shared} {σ : L2.St} {H : Hp} {Q : VK} {p : Addr} {out : Array Value} {c : Nat} {vs : List V} (I : Inv X pins σ H s) (kk : ∀ b o, s.heap.get? b = some o → s'.heap.get? b = some o) (g : s'.gens = s.gens) (o : s'.os = s.os)
    (hp : s.heap.objs.size ≤ p) (hget : s'.heap.get? p = some (seqObj "list" out c)) (hv : Vals vs out.toList) (hlen : vs.length ≤ sizeLine) (q : ∀ p, H p = none → Q (.ref p) (upd H p (.lst vs))) : EP X pins σ Q (.ref p) s' := by
  have hn : H p = none := I.hok.fresh hp
  have J : Inv X pins σ (upd H p (.lst vs)) { s with heap := s'.heap, gens := s'.gens, drawn := s'.drawn, toks := s'.toks } :=
    I.call (ch := []) (Un.laid kk hp hn) (I.hok.laid kk hp ⟨hlen, out.toList, c, hv, hget⟩) (by rw [g]; exact I.bare) (fun _ z => nomatch z)
  have es : s' = { s with heap := s'.heap, gens := s'.gens, drawn := s'.drawn, toks := s'.toks } := by
    cases s'
    cases s
    cases o
    rfl
  rw [es]
  exact ⟨.ref p, _, J, rfl, q p hn⟩
def rSrtI (K : PySem.W.Frag) : V → Hp → VK → Prop := fun x H Q => ∃ (a : Addr) (is : List Int), x = .ref a ∧ SqL K H a (is.map V.int) ∧ is.length < 4000 ∧ ∀ p, H p = none → Q (.ref p) (upd H p (.lst ((srtO ltI is).map V.int)))
theorem ints_at : ∀ {vs : List Value} {is : List Int}, Vals (is.map V.int) vs → ∀ {i : Nat} {v : Value}, vs[i]? = some v → ∃ k t, is[i]? = some k ∧ v = .int k t
  | [], [], _, _, _, h => by simp at h
  | v :: vs, k :: is, .cons ⟨t, e⟩ q, 0, u, h => by
    have : v = u := by simpa using h
    subst this
    exact ⟨k, t, rfl, e⟩
  | v :: vs, k :: is, .cons _ q, i + 1, u, h => by
    obtain ⟨k', t, h1, h2⟩ := ints_at q (i := i) (v := u) (by simpa using h)
    exact ⟨k', t, by simpa using h1, h2⟩
theorem each_ints {P : Program} {w : World} {h : Heap} : ∀ {l : List (Int × Value)}, ElemsOf (PySem.intKind P w) l → ∃ bs : List Int, PySem.W.EachIs (fun v b => RelV (V.int b) v ∧ Reads h v (.int b) []) (l.map (·.2)) bs ∧ ∀ k, k ∈ bs ↔ ∃ e ∈ l, (PySem.intKind P w).is k e.2 = true
  | [], _ => ⟨[], .nil, fun k => by simp⟩
  | e :: l, hl => by
    obtain ⟨bs, h1, h2⟩ := each_ints (l := l) fun x hx => hl x (List.mem_cons_of_mem _ hx)
    obtain ⟨⟨b, hb, _⟩, _⟩ := hl e List.mem_cons_self
    obtain ⟨t, et⟩ := Value.isInt_shape hb
    refine ⟨b :: bs, .cons ⟨⟨t, et⟩, by show Reads h e.2 _ _; rw [et]; exact .int b t⟩ h1, fun k => ?_⟩
    rw [List.mem_cons, h2 k]
    constructor
    · rintro (rfl | ⟨x, hx, q⟩)
      · exact ⟨e, List.mem_cons_self, hb⟩
      · exact ⟨x, List.mem_cons_of_mem _ hx, q⟩
    · rintro ⟨x, hx, q⟩
      rcases List.mem_cons.mp hx with rfl | hx
      · exact .inl ((PySem.intKind P w).inj _ _ _ q hb)
      · exact .inr ⟨x, hx, q⟩
theorem vals_each : ∀ {vs : List Value} {bs : List Int}, PySem.W.EachIs (fun v b => RelV (V.int b) v) vs bs → Vals (bs.map V.int) vs
  | _, _, .nil => .nil
  | _, _, .cons h t => .cons h (vals_each t)
theorem core_int (c : Cxt X W k) : SrtCore X (rSrtI X.K) := by
  intro pins s σ H Q x v I rx h
  obtain ⟨a, is, rfl, hq, few, q⟩ := h
  cases rx
  obtain ⟨its, rv, pl, hz⟩ := I.list hq
  have lens : its.toArray.size = is.length := by rw [List.size_toArray, ← rv.length, List.length_map]
  refine call_set_any (I.ok.hd c.calm) pl.isList (fun i h => SetK (PySem.intKind X.prog X.w) h s.heap.objs.size (met is i)) (fun h ho _ => freshK ho) (fun i h h' hs hk => hs.at fun o e => hk _ o (Nat.ne_of_lt (Nat.lt_succ_self _)) e) (fun i v s2 Q2 E2 hv hS hQ2 => ?_) fun h' tk hS hk => ?_
  · obtain ⟨k1, t1, e1, rfl⟩ := ints_at (by simpa using rv) (i := i) (v := v) (by simpa using hv)
    have hi := (List.getElem?_eq_some_iff.mp e1).1
    have isk : (PySem.intKind X.prog X.w).is k1 (.int k1 t1) = true := by simp [PySem.intKind, Value.isInt]
    unfold setAdd
    refine wpAny_holding (wpAny_bind ((PySem.intKind X.prog X.w).pyHash isk ?_))
    refine addK_hashed (s := { s2 with toks := s2.toks + 1 }) isk rfl hS (by have := met_len (ks := is) i; unfold scanBound; omega) fun h2 b sb r => hQ2 b h2 _ (Nat.le_succ _) sb ?_
    rw [met_succ e1]
    exact r
  · have I2 : Inv X pins σ H { s with heap := h', toks := tk } := I.kept fun b o e => hk b o e
    rw [lens] at hS
    obtain ⟨es, ep, t, ax, hel, hmem, hnd, hsz⟩ := hS
    obtain ⟨bs, b1, b2⟩ := each_ints (h := h') hel
    have bl : bs.length = (met is is.length).length := by rw [← b1.length, List.length_map, Array.length_toList, hsz]
    have mb : ∀ z, z ∈ bs ↔ z ∈ met is is.length := fun z => (b2 z).trans (hmem z).symm
    have pm : (met is is.length).Perm bs := perm_nodup hnd (fun z hz => (mb z).mpr hz) (by omega)
    have un := c.room.un
    refine sorted_setD (s := { s with heap := h', toks := tk }) (enc := PyData.int) (R := fun v b => RelV (V.int b) v) (bs := bs) ax.ob ax.few ax.fits ax.ris ax.led (I.ok.hd c.calm) b1 (PySem.W.AllAlike.of fun _ _ => rfl) (PySem.W.Sortable.others fun b => ⟨fun z => (nomatch z), fun _ z => (nomatch z)⟩)
      (fun b _ => by show X.A.units + 2 + 0 < cLine; omega) fun s' p out cc bs' kk g o hp hget bp ho => ?_
    have ey : (bs'.mergeSort (PySem.W.dataLe false PyData.int)).map id = srtO ltI is := by
      refine merge_is ordI (fun a b => ?_) ?_ fun z => ?_
      · rw [PySem.W.dataLe_eq]
        simp only [cond_false, id, dlt_int]
      · rw [List.map_id]; exact (bp.trans pm.symm).nodup_iff.mpr hnd
      · rw [List.map_id, bp.mem_iff, mb, met_mem, List.take_length]
    rw [List.map_id] at ey
    rw [ey] at ho
    exact srt_done I2 kk g o hp hget (vals_each ho) (by rw [List.length_map, sizeLine_eq]; have := srtO_len (lt := ltI) is; omega) q
/-! ### pairs of a number and a text -/
abbrev PrA := Addr × (Int × List Nat)
def keyOf (p : Int × List Nat) : List Key := [Sum.inl p.1, Sum.inr ⟨p.2.toArray⟩]
theorem keyOf_inj {p q : Int × List Nat} (h : keyOf p = keyOf q) : p = q := by
  simp only [keyOf, List.cons.injEq, Sum.inl.injEq, Sum.inr.injEq, and_true] at h
  obtain ⟨h1, h2⟩ := h
  injection h2 with h2
  obtain ⟨a, b⟩ := p
  obtain ⟨c, d⟩ := q
  simp only at h1 h2
  have : b = d := by
    have := congrArg Array.toList h2
    simpa using this
  rw [h1, this]
theorem len_sub {A : Type} [DecidableEq A] : ∀ {l m : List A}, l.Nodup → (∀ x ∈ l, x ∈ m) → l.length ≤ m.length
  | [], _, _, _ => Nat.zero_le _
  | x :: l, m, hl, h => by
    rw [List.nodup_cons] at hl
    have hx : x ∈ m := h x List.mem_cons_self
    have := len_sub (l := l) (m := m.erase x) hl.2 fun y hy => by
      have hne : y ≠ x := fun e => hl.1 (by rw [← e]; exact hy)
      exact (List.mem_erase_of_ne hne).mpr (h y (List.mem_cons_of_mem _ hy))
    rw [List.length_erase_of_mem hx] at this
    have := List.length_pos_of_mem hx
    simp only [List.length_cons]
    omega
/-- how many pairs a set of some pairs can have -/
theorem set_few {L : List (Addr × List Key)} {ps : List (Int × List Nat)} (hn : (L.map Prod.snd).Nodup) (h : ∀ q ∈ L, ∃ p ∈ ps, q.2 = keyOf p) : L.length ≤ (srtO ltPr ps).length := by
  have := len_sub (l := L.map Prod.snd) (m := (srtO ltPr ps).map keyOf) hn fun x hx => by
    obtain ⟨q, hq, rfl⟩ := List.mem_map.mp hx
    obtain ⟨p, hp, e⟩ := h q hq
    exact List.mem_map.mpr ⟨p, srtO_mem.mpr hp, e.symm⟩
  simpa using this
def rSrtT (K : PySem.W.Frag) : V → Hp → VK → Prop := fun x H Q => ∃ (a : Addr) (ks : List PrA), x = .ref a ∧ SqL K H a (ks.map fun p => V.ref p.1) ∧ (∀ p ∈ ks, SqT K H p.1 [V.int p.2.1, V.str ⟨p.2.2.toArray⟩]) ∧ (ks.length < 4000 ∧ (srtO ltPr (ks.map (·.2))).length < 63) ∧
  ∀ (p : Addr) (cs : List PrA), H p = none → (∀ c ∈ cs, c ∈ ks) → cs.map (·.2) = srtO ltPr (ks.map (·.2)) → Q (.ref p) (upd H p (.lst (cs.map fun c => V.ref c.1)))
theorem refs_at {ks : List PrA} : ∀ {vs : List Value}, Vals (ks.map fun p => V.ref p.1) vs → vs = ks.map fun p => Value.ref p.1 := by
  induction ks with
  | nil => intro vs h; cases h; rfl
  | cons p ks ih =>
    intro vs h
    cases h with
    | cons r t => cases r; rw [List.map_cons, ih t]
theorem pair_key {pins : List (Addr × Obj)} {σ : L2.St} {H : Hp} {s : Shared} (I : Inv X pins σ H s) {c : Addr} {p : Int × List Nat} (h : SqT X.K H c [V.int p.1, V.str ⟨p.2.toArray⟩]) : KAt X.prog X.w s.heap (keyOf p) c ∧ Reads s.heap (.ref c) (prD p) [] := by
  obtain ⟨its, r, ⟨o, g1, g2, n, g3⟩, _⟩ := I.tuple h
  cases r with
  | cons r1 t1 => cases t1 with
    | cons r2 t2 =>
      cases t2
      obtain ⟨u1, rfl⟩ := r1
      obtain ⟨u2, rfl⟩ := r2
      exact ⟨⟨o, _, n, g1, g2, g3, .cons (by simp [mixKind, keyIs, Value.isInt]) (.cons (by simp [mixKind, keyIs, Value.isStrOf]) .nil)⟩, .tuple g1 g2 g3 (.cons (.int _ _) (.cons (.str _ _) .nil))⟩
theorem TSet.kept {P : Program} {w : World} {h h' : Heap} {a : Addr} {L es ep t} (R : TSet P w h a L es ep t) (ha : ∀ o, h.get? a = some o → h'.get? a = some o) (hk : ∀ q ∈ L, ∀ o, h.get? q.1 = some o → h'.get? q.1 = some o) : TSet P w h' a L es ep t := by
  obtain ⟨o, o1, o2, o3⟩ := R.ob
  refine ⟨⟨o, ha o o1, o2, o3⟩, R.rows, R.tab, R.nd, fun q hq => ?_, R.led, R.room, R.few⟩
  obtain ⟨o', its, n, g1, g2, g3, g4⟩ := R.keys q hq
  exact ⟨o', its, n, hk q hq o' g1, g2, g3, g4⟩
theorem tset_new {P : Program} {w : World} {h : Heap} {a : Addr} (ho : h.get? a = some (newSetObj w)) : ∃ es ep t, TSet P w h a [] es ep t := by
  refine ⟨#[], 0, _, ⟨_, ho, ⟨rfl, rfl, rfl⟩, rfl⟩, rfl, ⟨List.Pairwise.nil, rfl, rfl, .inl rfl, fun x hx => (by cases hx), fun i h j hi => (by simp at hi)⟩, List.nodup_nil, fun q hq => (by cases hq), ?_, by show 0 * 5 < 7 * 3; decide, by show 0 < 64; decide⟩
  show _ ∨ (!w.params.followText "set-order") = true
  cases w.params.followText "set-order"
  · exact .inr rfl
  · exact .inl rfl
/-- the set behind i of the pairs -/
def SetUp (P : Program) (w : World) (h : Heap) (a : Addr) (ks : List PrA) (i : Nat) : Prop :=
  ∃ L es ep t, TSet P w h a L es ep t ∧ L.length ≤ i ∧ (∀ q ∈ L, ∃ c ∈ ks.take i, q = (c.1, keyOf c.2)) ∧ ∀ c ∈ ks.take i, keyOf c.2 ∈ L.map Prod.snd
theorem each_rows {P : Program} {w : World} {h : Heap} {ks : List PrA} (hr : ∀ c ∈ ks, Reads h (.ref c.1) (prD c.2) []) : ∀ {L : List (Addr × List Key)}, (∀ q ∈ L, ∃ c ∈ ks, q = (c.1, keyOf c.2)) →
    ∃ bs : List PrA, PySem.W.EachIs (fun v (b : PrA) => (v = .ref b.1 ∧ b ∈ ks) ∧ Reads h v (prD b.2) []) ((kRows P w L).map (·.2)) bs ∧ bs.map (fun b => keyOf b.2) = L.map Prod.snd
  | [], _ => ⟨[], .nil, rfl⟩
  | q :: L, hl => by
    obtain ⟨c, hc, e⟩ := hl q List.mem_cons_self
    obtain ⟨bs, h1, h2⟩ := each_rows hr (L := L) fun x hx => hl x (List.mem_cons_of_mem _ hx)
    refine ⟨c :: bs, .cons ⟨⟨by rw [e], hc⟩, by rw [e]; exact hr c hc⟩ h1, ?_⟩
    rw [List.map_cons, List.map_cons, h2, e]
theorem vals_refs {ks : List PrA} : ∀ {vs : List Value} {bs : List PrA}, PySem.W.EachIs (fun v (b : PrA) => v = .ref b.1 ∧ b ∈ ks) vs bs → Vals (bs.map fun c => V.ref c.1) vs ∧ ∀ b ∈ bs, b ∈ ks
  | _, _, .nil => ⟨.nil, fun b hb => by cases hb⟩
  | _, _, .cons h t => by
    obtain ⟨h1, h2⟩ := vals_refs t
    refine ⟨.cons h.1 h1, fun b hb => ?_⟩
    rcases List.mem_cons.mp hb with rfl | hb
    · exact h.2
    · exact h2 b hb
theorem core_pair (c : Cxt X W k) : SrtCore X (rSrtT X.K) := by
  intro pins s σ H Q x v I rx h
  obtain ⟨a, ks, rfl, hq, hks, few, q⟩ := h
  cases rx
  obtain ⟨its, rv, pl, hz⟩ := I.list hq
  have eits := refs_at rv
  subst eits
  have un := c.room.un
  have lens : (ks.map fun p => Value.ref p.1).toArray.size = ks.length := by simp
  have key := fun p hp => pair_key I (hks p hp)
  have low : ∀ p ∈ ks, p.1 < s.heap.objs.size := fun p hp => by
    obtain ⟨o, _, _, g, _⟩ := (key p hp).1
    exact Heap.lt_size g
  refine call_set_any (I.ok.hd c.calm) pl.isList (fun i h => SetUp X.prog X.w h s.heap.objs.size ks i ∧ ∀ b o, s.heap.get? b = some o → h.get? b = some o) (fun h ho kp => ?_) (fun i h h' hs hk => ?_) (fun i v s2 Q2 E2 hv hS hQ2 => ?_) fun h' tk hS hk => ?_
  · obtain ⟨es, ep, t, R⟩ := tset_new (P := X.prog) ho
    exact ⟨⟨[], es, ep, t, R, Nat.zero_le _, ⟨fun q hq => (List.not_mem_nil hq).elim, fun c2 hc2 => (List.not_mem_nil (show c2 ∈ [] from hc2)).elim⟩⟩, kp⟩
  · obtain ⟨⟨L, es, ep, t, R, l1, l2, l3⟩, kp⟩ := hs
    refine ⟨⟨L, es, ep, t, R.kept (fun o e => hk _ o (Nat.ne_of_lt (Nat.lt_succ_self _)) e) fun q hq o e => ?_, l1, l2, l3⟩, fun b o e => hk b o (Nat.ne_of_lt (Nat.lt_succ_of_lt (Heap.lt_size e))) (kp b o e)⟩
    obtain ⟨c2, hc2, rfl⟩ := l2 q hq
    exact hk _ o (Nat.ne_of_lt (Nat.lt_succ_of_lt (low c2 (List.mem_of_mem_take hc2)))) e
  · obtain ⟨⟨L, es, ep, t, R, l1, l2, l3⟩, kp⟩ := hS
    have hv' : (ks.map fun p => Value.ref p.1)[i]? = some v := by simpa using hv
    rw [List.getElem?_map] at hv'
    obtain ⟨p, hp, rfl⟩ := Option.map_eq_some_iff.mp hv'
    have pm : p ∈ ks := List.mem_of_getElem? hp
    have hi := (List.getElem?_eq_some_iff.mp hp).1
    have kp2 : KAt X.prog X.w s2.heap (keyOf p.2) p.1 := by
      obtain ⟨o, it, n, g1, g2, g3, g4⟩ := (key p pm).1
      exact ⟨o, it, n, kp _ _ g1, g2, g3, g4⟩
    have tk1 : ks.take (i + 1) = ks.take i ++ [p] := by rw [List.take_add_one, hp]; rfl
    unfold setAdd
    refine wpAny_holding (wpAny_bind (wpAny_pyHash_tuple (by show X.A.units + 1 + 1 + 1 < cLine; omega) kp2 ?_))
    have lf := set_few (ps := ks.map (·.2)) R.nd fun q hq => by
      obtain ⟨c3, h3, e3⟩ := l2 q hq
      exact ⟨c3.2, List.mem_map.mpr ⟨c3, List.mem_of_mem_take h3, rfl⟩, by rw [e3]⟩
    refine tadd (s := { s2 with toks := s2.toks + ((keyOf p.2).length + 1) }) R kp2 (by show X.A.units + 1 + 1 + 1 < cLine; omega) (by omega) fun b h2 L2 es2 ep2 t2 sb R2 g1 g2 => hQ2 b h2 _ (Nat.le_add_right _ _) sb ⟨⟨L2, es2, ep2, t2, R2, ?_⟩, fun b o e => (sb.2 b (Nat.ne_of_lt (Heap.lt_size e))).trans (kp b o e)⟩
    by_cases hin : keyOf p.2 ∈ L.map Prod.snd
    · rw [g1 hin, tk1]
      refine ⟨by omega, fun q hq => ?_, fun c2 hc2 => ?_⟩
      · obtain ⟨c3, h3, e3⟩ := l2 q hq
        exact ⟨c3, List.mem_append_left _ h3, e3⟩
      · rcases List.mem_append.mp hc2 with z | z
        · exact l3 c2 z
        · rw [List.mem_singleton.mp z]; exact hin
    · have pm2 := g2 hin
      rw [tk1]
      refine ⟨by rw [pm2.length_eq]; simp; omega, fun q hq => ?_, fun c2 hc2 => ?_⟩
      · rcases List.mem_cons.mp (pm2.mem_iff.mp hq) with rfl | z
        · exact ⟨p, List.mem_append_right _ (List.mem_singleton.mpr rfl), rfl⟩
        · obtain ⟨c3, h3, e3⟩ := l2 q z
          exact ⟨c3, List.mem_append_left _ h3, e3⟩
      · refine (pm2.map Prod.snd).mem_iff.mpr ?_
        rcases List.mem_append.mp hc2 with z | z
        · exact List.mem_cons_of_mem _ (l3 c2 z)
        · rw [List.mem_singleton.mp z]; exact List.mem_cons_self
  · have I2 : Inv X pins σ H { s with heap := h', toks := tk } := I.kept fun b o e => hk b o e
    rw [lens] at hS
    obtain ⟨⟨L, es, ep, t, R, l1, l2, l3⟩, _⟩ := hS
    rw [List.take_length] at l2 l3
    have key2 := fun p hp => pair_key I2 (hks p hp)
    obtain ⟨bs, b1, b2⟩ := each_rows (P := X.prog) (w := X.w) (h := h') (fun c2 hc2 => (key2 c2 hc2).2) l2
    rw [← R.rows] at b1
    have ez := kRows_len R.rows
    have rm := R.few
    refine sorted_setD (s := { s with heap := h', toks := tk }) (enc := fun b : PrA => prD b.2) (R := fun v (b : PrA) => v = .ref b.1 ∧ b ∈ ks) (bs := bs) R.ob (by rw [ez]; unfold scanBound; omega) R.fits R.tab.ris R.led (I.ok.hd c.calm) b1 (PySem.W.AllAlike.of fun _ _ => rfl)
      (PySem.W.Sortable.tuples fun b => ⟨_, _, rfl⟩) (fun b _ => by show X.A.units + 2 + 1 < cLine; omega) fun s' p out cc bs' kk g o hp hget bp ho => ?_
    obtain ⟨v1, v2⟩ := vals_refs ho
    have nd : (bs'.map fun b => b.2).Nodup := by
      have n1 : (bs.map fun b => keyOf b.2).Nodup := by rw [b2]; exact R.nd
      have n2 : ((bs.map fun b => b.2).map keyOf).Nodup := by rw [List.map_map]; exact n1
      exact (bp.map _).nodup_iff.mpr (List.Pairwise.of_map keyOf (fun _ _ hne e => hne (congrArg keyOf e)) n2)
    have ey : (bs'.mergeSort (PySem.W.dataLe false fun b : PrA => prD b.2)).map (fun b => b.2) = srtO ltPr (ks.map (·.2)) := by
      refine merge_is ordPr (fun a b => ?_) nd fun z => ?_
      · rw [PySem.W.dataLe_eq]
        simp only [cond_false, dlt_pr]
      · rw [(bp.map _).mem_iff]
        constructor
        · intro hz
          have : keyOf z ∈ L.map Prod.snd := by
            rw [← b2]
            obtain ⟨b, hb, rfl⟩ := List.mem_map.mp hz
            exact List.mem_map.mpr ⟨b, hb, rfl⟩
          obtain ⟨q2, f1, f2⟩ := List.mem_map.mp this
          obtain ⟨c2, hc2, rfl⟩ := l2 q2 f1
          rw [← keyOf_inj f2]
          exact List.mem_map.mpr ⟨c2, hc2, rfl⟩
        · intro hz
          obtain ⟨c2, hc2, rfl⟩ := List.mem_map.mp hz
          have := l3 c2 hc2
          rw [← b2] at this
          obtain ⟨b, hb, e⟩ := List.mem_map.mp this
          exact List.mem_map.mpr ⟨b, hb, keyOf_inj e⟩
    have ln : (bs'.mergeSort (PySem.W.dataLe false fun b : PrA => prD b.2)).length ≤ 64 := by
      have e1 := congrArg List.length ey
      rw [List.length_map] at e1
      omega
    exact srt_done I2 kk g o hp hget v1 (by rw [List.length_map, sizeLine_eq]; omega) fun p' hp' => q p' _ hp' v2 ey
/-! ### the expression -/
theorem prs_rep {K : PySem.W.Frag} {r : Rg} {H : Hp} : ∀ {xs : List PV} {vs : List V} {ps : List (Int × List Nat)}, Reps K r H xs vs → prsOf xs = some ps → ∃ ks : List PrA, vs = ks.map (fun p => V.ref p.1) ∧ ks.map (·.2) = ps ∧ ∀ p ∈ ks, SqT K H p.1 [V.int p.2.1, V.str ⟨p.2.2.toArray⟩] ∧ Rep K r H (prV p.2) (.ref p.1)
  | _, _, _, .nil, e => by cases e; exact ⟨[], rfl, rfl, fun p hp => by cases hp⟩
  | x :: xs, _, ps, .cons (v := v) h t, e => by
    unfold prsOf at e
    split at e
    · rename_i heq; cases heq
    · rename_i i z ys heq
      cases heq
      obtain ⟨ps2, e2, rfl⟩ := Option.map_eq_some_iff.mp e
      obtain ⟨ks, k1, k2, k3⟩ := prs_rep t e2
      cases h with
      | tup im q =>
        have q' := q
        cases q with
        | cons q1 q2 => cases q2 with
          | cons q3 q4 =>
            cases q1; cases q3; cases q4
            refine ⟨(_, (i, z)) :: ks, by rw [k1]; rfl, by rw [← k2]; rfl, fun p hp => ?_⟩
            rcases List.mem_cons.mp hp with rfl | hp
            · exact ⟨im.sq, .tup im q'⟩
            · exact k3 p hp
    · cases e
theorem reps_prs {K : PySem.W.Frag} {r : Rg} {H : Hp} : ∀ {cs : List PrA}, (∀ c ∈ cs, Rep K r H (prV c.2) (.ref c.1)) → Reps K r H ((cs.map (·.2)).map prV) (cs.map fun c => V.ref c.1)
  | [], _ => .nil
  | c :: cs, h => .cons (h c List.mem_cons_self) (reps_prs fun d hd => h d (List.mem_cons_of_mem _ hd))
theorem reps_ints' {K : PySem.W.Frag} {r : Rg} {H : Hp} : ∀ zs : List Int, Reps K r H (zs.map .int) (zs.map V.int)
  | [] => .nil
  | z :: zs => .cons (.int z) (reps_ints' zs)
def rSrt (K : PySem.W.Frag) : V → Hp → VK → Prop := fun x H Q => rSrtS K x H Q ∨ rSrtI K x H Q ∨ rSrtT K x H Q
theorem core_str (c : Cxt X W k) : SrtCore X (rSrtS X.K) := by
  intro pins s σ H Q x v I rx q1
  obtain ⟨a, ks, cs, rfl, hq, few, ecs, q1⟩ := q1
  cases rx
  obtain ⟨its, rv, pl, hz⟩ := I.list hq
  have lens : its.toArray.size = ks.length := by rw [List.size_toArray, ← rv.length, List.length_map]
  refine call_set_any (I.ok.hd c.calm) pl.isList (fun i h => SetK (PySem.strKind X.prog X.w) h s.heap.objs.size (met ks i)) (fun h ho _ => freshK ho) (fun i h h' hs hk => hs.at fun o e => hk _ o (Nat.ne_of_lt (Nat.lt_succ_self _)) e) (fun i v s2 Q2 E2 hv hS hQ2 => ?_) fun h' tk hS hk => ?_
  · obtain ⟨k1, t1, e1, rfl⟩ := strs_at (by simpa using rv) (i := i) (v := v) (by simpa using hv)
    have hi := (List.getElem?_eq_some_iff.mp e1).1
    unfold setAdd
    refine wpAny_holding (wpAny_bind ((PySem.strKind X.prog X.w).pyHash (k := k1) (isStrK k1 t1) ?_))
    refine addK_hashed (s := { s2 with toks := s2.toks + 1 }) (isStrK k1 t1) rfl hS (by have := met_len (ks := ks) i; unfold scanBound; omega) fun h2 b sb r => hQ2 b h2 _ (Nat.le_succ _) sb ?_
    rw [met_succ e1]
    exact r
  · have I2 : Inv X pins σ H { s with heap := h', toks := tk } := I.kept fun b o e => hk b o e
    rw [lens] at hS
    have hnd : (met ks ks.length).Nodup := hS.choose_spec.choose_spec.choose_spec.2.2.2.1
    refine sorted_setS hS (I.ok.hd c.calm) fun s' p' out cc ys kk g o hp hget hys pm hsrt => ?_
    have mem : ∀ z : Str, z ∈ met ks ks.length ↔ z.cps.toList ∈ cs := fun z => by
      rw [met_mem, List.take_length, ecs, List.mem_map]
      constructor
      · rintro ⟨y, hy, rfl⟩; simpa using hy
      · intro hy; exact ⟨_, hy, by cases z; simp⟩
    have ey := sorted_is pm hsrt hnd mem
    have hv : Vals (((srtS cs).map fun s => V.str ⟨s.toArray⟩)) out.toList := by
      have := vals_strs hys
      rw [ey, List.map_map] at this
      exact this
    have hlen : ((srtS cs).map fun s => V.str ⟨s.toArray⟩).length ≤ sizeLine := by
      have e1 : ys.length = (srtS cs).length := by rw [ey, List.length_map]
      rw [List.length_map, ← e1, pm.length_eq]
      have := met_len (ks := ks) ks.length
      rw [sizeLine_eq]; omega
    exact srt_done I2 kk g o hp hget hv hlen q1
theorem core_all (c : Cxt X W k) : SrtCore X (rSrt X.K) := by
  intro pins s σ H Q x v I rx h
  rcases h with h | h | h
  · exact core_str c pins s σ H Q x v I rx h
  · exact core_int c pins s σ H Q x v I rx h
  · exact core_pair c pins s σ H Q x v I rx h
theorem good_srt (c : Cxt X W k) {p p2 q : Pos} (hg : Gl X "sorted") (hm : X.mg "sorted" = none) (hg2 : Gl X "set") (hm2 : X.mg "set" = none) (g1 : GoodE C X W e f) (hs' : isStar e = false) :
    GoodE C X W (.Call (.Name "sorted" p) [.Call (.Name "set" p2) [e] [] q] [] pos) (fun s st => (f s st).bnd fun x st1 => optR (srtP x st1) st1) := by
  intro r s σ st H he hs Q h
  refine w_pe (pe_srtG (core_all c) hg hm hg2 hm2 pe_w (starEach_plain hs' _ _)) (g1.use he hs (QB := fun r H => PostE X.K r H Q) h (fun g q => q.grow g) fun r1 H1 x u st1 gr1 he1 hs1 hu h1 => ?_)
  cases e1 : srtP x st1 with
  | none => rw [e1] at h1; exact h1.elim
  | some z =>
    rw [e1] at h1
    obtain ⟨⟨b, ys⟩, e2, e3⟩ := Option.bind_eq_some_iff.mp e1
    cases b with
    | false => simp at e3
    | true =>
      obtain ⟨a, vs, rfl, hy, hq⟩ := seqOf_rep hs1 hu e2
      have hq : SqL X.K H1 a vs := by simpa using hq
      simp only [if_true] at e3
      cases e4 : strsOf ys with
      | some cs =>
        simp only [e4] at e3
        split at e3
        · rename_i few
          cases e3
          have hv := strs_rep hy e4
          subst hv
          refine .inl ⟨a, cs.map fun s => ⟨s.toArray⟩, cs, rfl, ?_, by rw [List.length_map]; exact few, rfl, fun p' hp' => PostE.lst h1 hs1 (reps_strs _) hp'⟩
          rw [List.map_map]
          exact hq
        · cases e3
      | none =>
        cases e5 : intsOf ys with
        | some is =>
          simp only [e4, e5] at e3
          split at e3
          · rename_i few
            cases e3
            have hv := ints_rep hy e5
            subst hv
            exact .inr (.inl ⟨a, is, rfl, hq, few, fun p' hp' => PostE.lst h1 hs1 (reps_ints' _) hp'⟩)
          · cases e3
        | none =>
          cases e6 : prsOf ys with
          | none => simp only [e4, e5, e6] at e3; cases e3
          | some ps =>
            simp only [e4, e5, e6] at e3
            split at e3
            · rename_i few
              cases e3
              obtain ⟨ks, k1, k2, k3⟩ := prs_rep hy e6
              subst k1 k2
              rw [List.length_map] at few
              refine .inr (.inr ⟨a, ks, rfl, hq, fun p hp => (k3 p hp).1, few, fun p' cs hp' hc he2 => ?_⟩)
              rw [← he2] at h1
              exact PostE.lst h1 hs1 (reps_prs fun c2 hc2 => (k3 c2 (hc c2 hc2)).2) hp'
            · cases e3
theorem PostE.sto {K r H Q} {st : Sto} {xs : List PV} {vs : List V} {p : Addr} (q : PostE K r H Q (.loc st.length) (st ++ [.lst xs])) (hs : RepS K r H st) (h : Reps K r H xs vs) (e : H p = none) : Q (.ref p) (upd H p (.lst vs)) := by
  refine q _ _ _ (Grow.store hs e) (hs.store e h) (.loc ?_)
  show (r.pl ++ [p])[st.length]? = some p
  rw [← hs.len, List.getElem?_append_right (Nat.le_refl _)]
  simp
theorem good_srtN (c : Cxt X W k) {p p2 q : Pos} (hg : Gl X "sorted") (hm : X.mg "sorted" = none) (hg2 : Gl X "set") (hm2 : X.mg "set" = none) (g1 : GoodE C X W e f) (hs' : isStar e = false) :
    GoodE C X W (.Call (.Name "sorted" p) [.Call (.Name "set" p2) [e] [] q] [] pos) (fun s st => (f s st).bnd fun x st1 => newR (srtP x st1) st1) := by
  intro r s σ st H he hs Q h
  refine w_pe (pe_srtG (core_all c) hg hm hg2 hm2 pe_w (starEach_plain hs' _ _)) (g1.use he hs (QB := fun r H => PostE X.K r H Q) h (fun g q => q.grow g) fun r1 H1 x u st1 gr1 he1 hs1 hu h1 => ?_)
  cases e1 : srtP x st1 with
  | none => rw [e1] at h1; exact h1.elim
  | some z =>
    rw [e1] at h1
    obtain ⟨⟨b, ys⟩, e2, e3⟩ := Option.bind_eq_some_iff.mp e1
    cases b with
    | false => simp at e3
    | true =>
      obtain ⟨a, vs, rfl, hy, hq⟩ := seqOf_rep hs1 hu e2
      have hq : SqL X.K H1 a vs := by simpa using hq
      simp only [if_true] at e3
      cases e4 : strsOf ys with
      | some cs =>
        simp only [e4] at e3
        split at e3
        · rename_i few
          cases e3
          have hv := strs_rep hy e4
          subst hv
          refine .inl ⟨a, cs.map fun s => ⟨s.toArray⟩, cs, rfl, ?_, by rw [List.length_map]; exact few, rfl, fun p' hp' => PostE.sto h1 hs1 (reps_strs _) hp'⟩
          rw [List.map_map]
          exact hq
        · cases e3
      | none =>
        cases e5 : intsOf ys with
        | some is =>
          simp only [e4, e5] at e3
          split at e3
          · rename_i few
            cases e3
            have hv := ints_rep hy e5
            subst hv
            exact .inr (.inl ⟨a, is, rfl, hq, few, fun p' hp' => PostE.sto h1 hs1 (reps_ints' _) hp'⟩)
          · cases e3
        | none =>
          cases e6 : prsOf ys with
          | none => simp only [e4, e5, e6] at e3; cases e3
          | some ps =>
            simp only [e4, e5, e6] at e3
            split at e3
            · rename_i few
              cases e3
              obtain ⟨ks, k1, k2, k3⟩ := prs_rep hy e6
              subst k1 k2
              rw [List.length_map] at few
              refine .inr (.inr ⟨a, ks, rfl, hq, fun p hp => (k3 p hp).1, few, fun p' cs hp' hc he2 => ?_⟩)
              rw [← he2] at h1
              exact PostE.sto h1 hs1 (reps_prs fun c2 hc2 => (k3 c2 (hc c2 hc2)).2) hp'
            · cases e3
end
end MP

/-! MP, part l2: comprehensions of one and two fors, whatever they gather into. -/
namespace MP
open PySem PySem.Spec PyProof.Rows L2
/-- what is done with a turn's value -/
abbrev AccP := Addr → V → Hp → (Hp → Prop) → Prop
def tC1 (o0 : Addr → HO) (ap : AccP) (wi : TI) (g : TG) (tt : TT) (te : TE) (vs : List Nat) : TE := fun σ H Q => wi σ H fun J H1 => ∀ D, H1 D = none → ∃ W : Nat → Nat → Hp → Prop, (∃ m, W 0 m (upd H1 D (o0 D))) ∧ ∀ i m H, W i m H →
    (J.stop i H ∧ Q (.ref D) H) ∨ (J.go i H ∧ ∃ Nx : Hp → Prop, (∀ H', Nx H' → ∃ m', m' < m ∧ W (i + 1) m' H') ∧ ∀ x H', J.yld i H x H' → g x (wipe σ vs) H' fun σ2 H2 => wipe σ2 vs = wipe σ vs ∧ tt σ2 H2 fun b H3 =>
      if b = true then te σ2 H3 fun y H4 => ap D y H4 Nx else Nx H3)
def tC2 (o0 : Addr → HO) (ap : AccP) (wi : TI) (g : TG) (tt : TT) (wi1 : TI) (g1 : TG) (tt1 : TT) (te : TE) (vs vs1 : List Nat) : TE := fun σ H Q => wi σ H fun J H1 => ∀ D, H1 D = none → ∃ W : Nat → Nat → Hp → Prop, (∃ m, W 0 m (upd H1 D (o0 D))) ∧ ∀ i m H, W i m H →
    (J.stop i H ∧ Q (.ref D) H) ∨ (J.go i H ∧ ∃ Nx : Hp → Prop, (∀ H', Nx H' → ∃ m', m' < m ∧ W (i + 1) m' H') ∧ ∀ x H', J.yld i H x H' → g x (wipe σ vs) H' fun σ2 H2 => wipe σ2 vs = wipe σ vs ∧ tt σ2 H2 fun b H3 =>
      if b = true then wi1 σ2 H3 fun J1 H4 => ∃ W1 : Nat → Nat → Hp → Prop, (∃ m, W1 0 m H4) ∧ ∀ j k H, W1 j k H →
        (J1.stop j H ∧ Nx H) ∨ (J1.go j H ∧ ∃ Nx1 : Hp → Prop, (∀ H', Nx1 H' → ∃ k', k' < k ∧ W1 (j + 1) k' H') ∧ ∀ x H', J1.yld j H x H' → g1 x (wipe σ2 vs1) H' fun σ3 H5 => wipe σ3 vs1 = wipe σ2 vs1 ∧ tt1 σ3 H5 fun b H6 =>
          if b = true then te σ3 H6 fun y H7 => ap D y H7 Nx1 else Nx1 H6)
      else Nx H3)
/-- into what is gathered: I r H D don: at D lies what was gathered -/
structure Acum (K : PySem.W.Frag) (o0 : Addr → HO) (ap : AccP) where
  I : Rg → Hp → Addr → List PV → Prop
  ok : List PV → Prop
  start : ∀ (r : Rg) (H : Hp) (D : Addr), I r (upd H D (o0 D)) D []
  grow : ∀ {r r' : Rg} {H H' : Hp} {D : Addr} {don : List PV}, I r H D don → Carry r H r' H' → H' D = H D → I r' H' D don
  step : ∀ {r : Rg} {H : Hp} {D : Addr} {don rest : List PV} {y : PV} {yv : V} {Nx : Hp → Prop}, ok (don ++ ([y] ++ rest)) → I r H D don → D ∈ r.hid → Rep K r H y yv → (∀ o, I r (upd H D o) D (don ++ [y]) → Nx (upd H D o)) → ap D yv H Nx
theorem upd_self {H : Hp} {D : Addr} {o : HO} (h : H D = some o) : upd H D o = H := by
  funext b
  by_cases hb : b = D
  · subst hb; rw [upd_same, h]
  · rw [upd_ne hb]
theorem wipe_wipe {σ : L2.St} {own ws : List Nat} (h : ∀ v ∈ ws, v ∈ own) : wipe (wipe σ own) ws = wipe σ own := by
  induction ws with
  | nil => rfl
  | cons v ws ih =>
    show (wipe (wipe σ own) ws).set v none = _
    rw [ih fun z m => h z (List.mem_cons_of_mem _ m)]
    refine List.ext_getElem? fun j => ?_
    by_cases hj : v = j
    · subst hj
      by_cases hl : v < (wipe σ own).length
      · rw [List.getElem?_set_self hl]
        cases q : (wipe σ own)[v]? with
        | none => exact absurd (List.getElem?_eq_none_iff.mp q) (by omega)
        | some o =>
          cases o with
          | none => rfl
          | some z => exact absurd (h v List.mem_cons_self) (wipe_some q).2
      · rw [List.getElem?_eq_none (by simpa using hl), List.getElem?_eq_none (by simpa using hl)]
    · rw [List.getElem?_set_ne hj]
theorem yes_go {σ : L2.St} {H : Hp} {P Q : Hp → Prop} (h : P H) : tYes σ H fun b H3 => if b = true then P H3 else Q H3 := by
  show (if true = true then P H else Q H)
  rw [if_pos rfl]; exact h
/-- the state between two turns -/
structure Mid {K : PySem.W.Frag} {o0 : Addr → HO} {ap : AccP} (Ac : Acum K o0 ap) (r1 : Rg) (H1 : Hp) (D : Addr) (r2 : Rg) (H2 : Hp) (st2 : Sto) (don : List PV) : Prop where
  eh : r2.hid = D :: r1.hid
  gw : Grow r1 H1 (r2.cut r1.hid) H2
  cw : Carry r1 H1 r2 H2
  hs : RepS K r2 H2 st2
  ac : Ac.I r2 H2 D don
section
variable {K : PySem.W.Frag} {o0 : Addr → HO} {ap : AccP} {Ac : Acum K o0 ap} {r1 r2 r3 : Rg} {H1 H2 H3 : Hp} {D : Addr} {st1 st2 st3 : Sto} {don : List PV}
theorem Mid.memD (m : Mid Ac r1 H1 D r2 H2 st2 don) : D ∈ r2.hid := by rw [m.eh]; exact List.mem_cons_self
theorem Mid.start (hs1 : RepS K r1 H1 st1) (hD : H1 D = none) : Mid Ac r1 H1 D (r1.hide D) (upd H1 D (o0 D)) st1 [] :=
  ⟨rfl, Grow.fresh hs1 hD, Carry.hide hs1 hD, hs1.hide hD, Ac.start _ _ _⟩
/-- code ran -/
theorem Mid.ran (hs1 : RepS K r1 H1 st1) (hD : H1 D = none) (m : Mid Ac r1 H1 D r2 H2 st2 don) (g : Grow r2 H2 r3 H3) (hs : RepS K r3 H3 st3) : Mid Ac r1 H1 D r3 H3 st3 don := by
  have e := g.same D m.memD
  refine ⟨g.hid.trans m.eh, ?_, m.cw.trans g.carry, hs, Ac.grow m.ac g.carry e⟩
  obtain ⟨o, ho⟩ := Option.ne_none_iff_exists'.mp (hs.mem (show D ∈ r3 from .inr (by rw [g.hid]; exact m.memD)))
  have z := Grow.under (o := o) hs1 hD m.gw m.eh g
  rwa [upd_self ho] at z
/-- a value was gathered -/
theorem Mid.put (hs1 : RepS K r1 H1 st1) (hD : H1 D = none) (m : Mid Ac r1 H1 D r2 H2 st2 don) {o : HO} {y : PV} (h : Ac.I r2 (upd H2 D o) D (don ++ [y])) : Mid Ac r1 H1 D r2 (upd H2 D o) st2 (don ++ [y]) :=
  ⟨m.eh, Grow.under (o := o) hs1 hD m.gw m.eh (Grow.refl _ _), m.cw.trans (Carry.poke m.memD), m.hs.poke m.memD, h⟩
end
section
variable {C : CT} {X : Cx} {W : WX} {k : Nat} {tg tg1 : Expr} {o0 : Addr → HO} {ap : AccP}
/-- one for -/
theorem good_c1 (Ac : Acum X.K o0 ap) {iter : Expr} {own : List Nat} {fi : Env → Sto → Res Src} {ft : Env → Sto → Res Bool} {fe : Env → Sto → Res PV} {t : RT} {g : TG} {tt : TT} {te : TE}
    (hi : GoodI C X W tg iter fi) (hsl : ∀ i ∈ slotsT t, i ∈ own)
    (hg : ∀ (st : Sto) (r : Rg) (H1 : Hp) (s' : Env) (σ : L2.St) (v : PV) (u : V) (s1 : Env), RepE X.K r H1 s' σ → Rep X.K r H1 v u → bindT st t v s' = some s1 → ∀ Q : L2.St → Hp → Prop, (∀ σ1, RepE X.K r H1 s1 σ1 → (∀ vs : List Nat, (∀ i ∈ slotsT t, i ∈ vs) → wipe σ1 vs = wipe σ vs) → Q σ1 H1) → g u σ H1 Q)
    (ht : ∀ r s σ st H, RepE X.K r H s σ → RepS X.K r H st → ∀ Q, (ft s st).sat (PostT X.K r H Q) (fun _ _ => False) → tt σ H Q)
    (he : ∀ r s σ st H, RepE X.K r H s σ → RepS X.K r H st → ∀ Q, (fe s st).sat (PostE X.K r H Q) (fun _ _ => False) → te σ H Q)
    {r : Rg} {s : Env} {σ : L2.St} {st : Sto} {H : Hp} (hE : RepE X.K r H s σ) (hs : RepS X.K r H st) {Fin : List PV → Sto → Prop} {Q : VK}
    (h : ((fi s st).bnd fun src st1 => calmR (comp (lcF ft fe t (wipeE s own)) src st1)).sat (fun ys st2 => Ac.ok ys ∧ Fin ys st2) (PostX C X.K W σ r H))
    (hfin : ∀ (r2 : Rg) (H2 : Hp) (D : Addr) (don : List PV) (st2 : Sto), Grow r H r2 H2 → RepS X.K r2 H2 st2 → Ac.I r2 H2 D don → D ∉ r2 → H2 D ≠ none → Ac.ok don → Fin don st2 → Q (.ref D) H2) : tC1 o0 ap (wI X tg iter) g tt te own σ H Q := by
  refine hi r s σ st H hE hs _ (Res.sat_mono ((Res.sat_bnd _ _ _ _).mp h) (fun src st1 hx r1 H1 J g1 hs1 w => ?_) fun _ _ q => q)
  have hx := sat_calm hx
  have hE1 := hE.grow g1
  intro D hD
  refine ⟨fun i m H2 => ∃ r2 st2 don, mOf src i m ∧ Mid Ac r1 H1 D r2 H2 st2 don ∧ (runsC (lcF ft fe t (wipeE s own)) i m st2 src).sat (fun ys st3 => Ac.ok (don ++ ys) ∧ Fin (don ++ ys) st3) (fun _ _ => False), ?_, ?_⟩
  · cases src with
    | its xs => exact ⟨xs.length, r1.hide D, st1, [], ⟨rfl, Nat.zero_le _⟩, Mid.start hs1 hD, hx⟩
    | «at» n len e => exact ⟨len, r1.hide D, st1, [], trivial, Mid.start hs1 hD, hx⟩
  · rintro i m H2 ⟨r2, st2, don, hm, M, hrun⟩
    rcases turnC w M.cw M.hs hm hrun with ⟨hst, hend⟩ | ⟨x, m', rfl, hm', ⟨hgo, hy⟩, hrest⟩
    · refine .inl ⟨hst, ?_⟩
      rw [List.append_nil] at hend
      have hh : ∀ a ∈ r1.hid, a ∈ r2.hid := fun a m => by rw [M.eh]; exact List.mem_cons_of_mem _ m
      refine hfin (r2.cut r1.hid) H2 D don st2 (g1.trans M.gw) (M.hs.show hh) (Ac.grow M.ac (Carry.show hh) rfl) (fun m => ?_) (M.hs.mem (.inr M.memD)) hend.1 hend.2
      rcases m with m | m
      · exact (M.hs.hid D M.memD).1 m
      · exact hs1.notin hD (.inr m)
    · refine .inr ⟨hgo, fun H3 => ∃ r3 st3 don3, mOf src (i + 1) m' ∧ Mid Ac r1 H1 D r3 H3 st3 don3 ∧ (runsC (lcF ft fe t (wipeE s own)) (i + 1) m' st3 src).sat (fun ys st3 => Ac.ok (don3 ++ ys) ∧ Fin (don3 ++ ys) st3) (fun _ _ => False), fun H3 q => ⟨m', Nat.lt_succ_self _, q⟩, fun u H3 hyl => ?_⟩
      obtain ⟨gy, hs3, hu⟩ := hy u H3 hyl
      have M3 := M.ran hs1 hD gy hs3
      have hrest := (Res.sat_bnd _ _ _ _).mp hrest
      cases hb : bindT st2 t x (wipeE s own) with
      | none => simp only [lcF, hb] at hrest; exact hrest.elim
      | some s1 =>
        simp only [lcF, hb] at hrest
        have hrest := (Res.sat_bnd _ _ _ _).mp hrest
        have hEw : RepE X.K r2 H3 (wipeE s own) (wipe σ own) := ((hE1.carry M.cw).grow gy).wipe own
        refine hg st2 r2 H3 _ _ x u s1 hEw hu hb _ fun σ1 hE4 hw => ⟨?_, ?_⟩
        · rw [hw own hsl]; exact wipe_wipe fun _ m => m
        · refine ht r2 s1 σ1 st2 H3 hE4 hs3 _ (Res.sat_mono hrest (fun b st5 hb5 r5 H5 g5 hs5 => ?_) fun _ _ q => q.elim)
          have M5 := M3.ran hs1 hD g5 hs5
          cases b with
          | false =>
            simp only [Bool.false_eq_true, if_false] at hb5 ⊢
            have hb5 := (Res.sat_bnd _ _ _ _).mp hb5
            exact ⟨r5, st5, don, hm', M5, Res.sat_mono hb5 (fun ys st6 q => q) fun _ _ q => q⟩
          | true =>
            simp only [if_true] at hb5 ⊢
            have hb5 := (Res.sat_bnd _ _ _ _).mp hb5
            refine he r5 s1 σ1 st5 H5 (hE4.grow g5) hs5 _ (Res.sat_mono hb5 (fun y st6 hy6 r6 H6 yv g6 hs6 hyv => ?_) fun _ _ q => q.elim)
            have hy6 := (Res.sat_bnd _ _ _ _).mp (show (((runsC (lcF ft fe t (wipeE s own)) (i + 1) m' st6 src).bnd fun r st2 => (.ok ([y] ++ r) st2 : Res (List PV)))).sat _ _ from hy6)
            have M6 := M5.ran hs1 hD g6 hs6
            obtain ⟨ys, st7, _, q⟩ := sat_ok hy6
            have q : Ac.ok (don ++ ([y] ++ ys)) ∧ Fin (don ++ ([y] ++ ys)) st7 := q
            refine Ac.step q.1 M6.ac M6.memD hyv fun o ho => ⟨r6, st6, don ++ [y], hm', M6.put hs1 hD ho, ?_⟩
            exact Res.sat_mono hy6 (fun ys st7 q => by rw [List.append_assoc]; exact q) fun _ _ q => q
/-- a turn of the first of two fors -/
def lcF2 (fi1 : Env → Sto → Res Src) (fe : Env → Sto → Res PV) (t t1 : RT) (own1 : List Nat) (s0 : Env) : PV → Sto → Res (List PV) := fun x st2 => match bindT st2 t x s0 with
  | some s1 => (fi1 s1 st2).bnd fun src1 st3 => comp (lcF (fun _ st => .ok true st) fe t1 (wipeE s1 own1)) src1 st3
  | none => .bad
theorem good_c2 (Ac : Acum X.K o0 ap) {iter : Expr} {own own1 : List Nat} {fi fi1 : Env → Sto → Res Src} {fe : Env → Sto → Res PV} {t t1 : RT} {g g1 : TG} {wi1 : TI} {te : TE}
    (hi : GoodI C X W tg iter fi) (hsl : ∀ i ∈ slotsT t, i ∈ own) (hsl1 : ∀ i ∈ slotsT t1, i ∈ own1)
    (hg : ∀ (st : Sto) (r : Rg) (H1 : Hp) (s' : Env) (σ : L2.St) (v : PV) (u : V) (s1 : Env), RepE X.K r H1 s' σ → Rep X.K r H1 v u → bindT st t v s' = some s1 → ∀ Q : L2.St → Hp → Prop, (∀ σ1, RepE X.K r H1 s1 σ1 → (∀ vs : List Nat, (∀ i ∈ slotsT t, i ∈ vs) → wipe σ1 vs = wipe σ vs) → Q σ1 H1) → g u σ H1 Q)
    (hg1 : ∀ (st : Sto) (r : Rg) (H1 : Hp) (s' : Env) (σ : L2.St) (v : PV) (u : V) (s1 : Env), RepE X.K r H1 s' σ → Rep X.K r H1 v u → bindT st t1 v s' = some s1 → ∀ Q : L2.St → Hp → Prop, (∀ σ1, RepE X.K r H1 s1 σ1 → (∀ vs : List Nat, (∀ i ∈ slotsT t1, i ∈ vs) → wipe σ1 vs = wipe σ vs) → Q σ1 H1) → g1 u σ H1 Q)
    (hi1 : ∀ r s σ st H, RepE X.K r H s σ → RepS X.K r H st → ∀ R : It → Hp → Prop, (fi1 s st).sat (fun src st1 => ∀ r' H' J, Grow r H r' H' → RepS X.K r' H' st1 → WalkS X.K r' H' J src → R J H') (fun _ _ => False) → wi1 σ H R)
    (he : ∀ r s σ st H, RepE X.K r H s σ → RepS X.K r H st → ∀ Q, (fe s st).sat (PostE X.K r H Q) (fun _ _ => False) → te σ H Q)
    {r : Rg} {s : Env} {σ : L2.St} {st : Sto} {H : Hp} (hE : RepE X.K r H s σ) (hs : RepS X.K r H st) {Fin : List PV → Sto → Prop} {Q : VK}
    (h : ((fi s st).bnd fun src st1 => calmR (comp (lcF2 fi1 fe t t1 own1 (wipeE s own)) src st1)).sat (fun ys st2 => Ac.ok ys ∧ Fin ys st2) (PostX C X.K W σ r H))
    (hfin : ∀ (r2 : Rg) (H2 : Hp) (D : Addr) (don : List PV) (st2 : Sto), Grow r H r2 H2 → RepS X.K r2 H2 st2 → Ac.I r2 H2 D don → D ∉ r2 → H2 D ≠ none → Ac.ok don → Fin don st2 → Q (.ref D) H2) : tC2 o0 ap (wI X tg iter) g tYes wi1 g1 tYes te own own1 σ H Q := by
  refine hi r s σ st H hE hs _ (Res.sat_mono ((Res.sat_bnd _ _ _ _).mp h) (fun src st1 hx r1 H1 J g1' hs1 w => ?_) fun _ _ q => q)
  have hx := sat_calm hx
  have hE1 := hE.grow g1'
  intro D hD
  refine ⟨fun i m H2 => ∃ r2 st2 don, mOf src i m ∧ Mid Ac r1 H1 D r2 H2 st2 don ∧ (runsC (lcF2 fi1 fe t t1 own1 (wipeE s own)) i m st2 src).sat (fun ys st3 => Ac.ok (don ++ ys) ∧ Fin (don ++ ys) st3) (fun _ _ => False), ?_, ?_⟩
  · cases src with
    | its xs => exact ⟨xs.length, r1.hide D, st1, [], ⟨rfl, Nat.zero_le _⟩, Mid.start hs1 hD, hx⟩
    | «at» n len e => exact ⟨len, r1.hide D, st1, [], trivial, Mid.start hs1 hD, hx⟩
  · rintro i m H2 ⟨r2, st2, don, hm, M, hrun⟩
    rcases turnC w M.cw M.hs hm hrun with ⟨hst, hend⟩ | ⟨x, m', rfl, hm', ⟨hgo, hy⟩, hrest⟩
    · refine .inl ⟨hst, ?_⟩
      rw [List.append_nil] at hend
      have hh : ∀ a ∈ r1.hid, a ∈ r2.hid := fun a m => by rw [M.eh]; exact List.mem_cons_of_mem _ m
      refine hfin (r2.cut r1.hid) H2 D don st2 (g1'.trans M.gw) (M.hs.show hh) (Ac.grow M.ac (Carry.show hh) rfl) (fun m => ?_) (M.hs.mem (.inr M.memD)) hend.1 hend.2
      rcases m with m | m
      · exact (M.hs.hid D M.memD).1 m
      · exact hs1.notin hD (.inr m)
    · refine .inr ⟨hgo, fun H3 => ∃ r3 st3 don3, mOf src (i + 1) m' ∧ Mid Ac r1 H1 D r3 H3 st3 don3 ∧ (runsC (lcF2 fi1 fe t t1 own1 (wipeE s own)) (i + 1) m' st3 src).sat (fun ys st3 => Ac.ok (don3 ++ ys) ∧ Fin (don3 ++ ys) st3) (fun _ _ => False), fun H3 q => ⟨m', Nat.lt_succ_self _, q⟩, fun u H3 hyl => ?_⟩
      obtain ⟨gy, hs3, hu⟩ := hy u H3 hyl
      have M3 := M.ran hs1 hD gy hs3
      have hrest := (Res.sat_bnd _ _ _ _).mp hrest
      cases hb : bindT st2 t x (wipeE s own) with
      | none => simp only [lcF2, hb] at hrest; exact hrest.elim
      | some s1 =>
        simp only [lcF2, hb] at hrest
        have hrest := (Res.sat_bnd _ _ _ _).mp hrest
        have hEw : RepE X.K r2 H3 (wipeE s own) (wipe σ own) := ((hE1.carry M.cw).grow gy).wipe own
        refine hg st2 r2 H3 _ _ x u s1 hEw hu hb _ fun σ1 hE4 hw => ⟨?_, ?_⟩
        · rw [hw own hsl]; exact wipe_wipe fun _ m => m
        · refine yes_go ?_
          refine hi1 r2 s1 σ1 st2 H3 hE4 hs3 _ (Res.sat_mono hrest (fun src1 st5 hb5 r5 H5 J1 g5 hs5 w1 => ?_) fun _ _ q => q.elim)
          have M5 := M3.ran hs1 hD g5 hs5
          have hE5 := hE4.grow g5
          refine ⟨fun j k H6 => ∃ r6 st6 don6, mOf src1 j k ∧ Mid Ac r1 H1 D r6 H6 st6 don6 ∧ Carry r5 H5 r6 H6 ∧ (runsC (lcF (fun _ st => .ok true st) fe t1 (wipeE s1 own1)) j k st6 src1).sat (fun ys st7 => (runsC (lcF2 fi1 fe t t1 own1 (wipeE s own)) (i + 1) m' st7 src).sat (fun zs st8 => Ac.ok (don6 ++ ys ++ zs) ∧ Fin (don6 ++ ys ++ zs) st8) (fun _ _ => False)) (fun _ _ => False), ?_, ?_⟩
          · have hb6 : (comp (lcF (fun _ st => .ok true st) fe t1 (wipeE s1 own1)) src1 st5).sat (fun ys st7 => (runsC (lcF2 fi1 fe t t1 own1 (wipeE s own)) (i + 1) m' st7 src).sat (fun zs st8 => Ac.ok (don ++ ys ++ zs) ∧ Fin (don ++ ys ++ zs) st8) (fun _ _ => False)) (fun _ _ => False) := by
              refine Res.sat_mono hb5 (fun ys st7 q => ?_) fun _ _ q => q
              refine Res.sat_mono ((Res.sat_bnd _ _ _ _).mp q) (fun zs st8 q => ?_) fun _ _ q => q
              rw [List.append_assoc]; exact q
            cases src1 with
            | its xs => exact ⟨xs.length, r5, st5, don, ⟨rfl, Nat.zero_le _⟩, M5, (Grow.refl _ _).carry, hb6⟩
            | «at» n len e => exact ⟨len, r5, st5, don, trivial, M5, (Grow.refl _ _).carry, hb6⟩
          · rintro j k H6 ⟨r6, st6, don6, hm6, M6, c6, hrun6⟩
            rcases turnC w1 c6 M6.hs hm6 hrun6 with ⟨hst6, hend6⟩ | ⟨y, k', rfl, hk', ⟨hgo6, hy6⟩, hrest6⟩
            · refine .inl ⟨hst6, r6, st6, don6, hm', M6, ?_⟩
              exact Res.sat_mono hend6 (fun zs st8 q => by rw [List.append_nil] at q; exact q) fun _ _ q => q
            · refine .inr ⟨hgo6, fun H7 => ∃ r7 st7 don7, mOf src1 (j + 1) k' ∧ Mid Ac r1 H1 D r7 H7 st7 don7 ∧ Carry r5 H5 r7 H7 ∧ (runsC (lcF (fun _ st => .ok true st) fe t1 (wipeE s1 own1)) (j + 1) k' st7 src1).sat (fun ys st7 => (runsC (lcF2 fi1 fe t t1 own1 (wipeE s own)) (i + 1) m' st7 src).sat (fun zs st8 => Ac.ok (don7 ++ ys ++ zs) ∧ Fin (don7 ++ ys ++ zs) st8) (fun _ _ => False)) (fun _ _ => False), fun H7 q => ⟨k', Nat.lt_succ_self _, q⟩, fun u7 H7 hyl7 => ?_⟩
              obtain ⟨g7, hs7, hu7⟩ := hy6 u7 H7 hyl7
              have M7 := M6.ran hs1 hD g7 hs7
              have hrest6 := (Res.sat_bnd _ _ _ _).mp hrest6
              cases hb7 : bindT st6 t1 y (wipeE s1 own1) with
              | none => simp only [lcF, hb7] at hrest6; exact hrest6.elim
              | some s7 =>
                simp only [lcF, hb7] at hrest6
                have hEw7 : RepE X.K r6 H7 (wipeE s1 own1) (wipe σ1 own1) := ((hE5.carry c6).grow g7).wipe own1
                refine hg1 st6 r6 H7 _ _ y u7 s7 hEw7 hu7 hb7 _ fun σ7 hE7 hw7 => ⟨?_, ?_⟩
                · rw [hw7 own1 hsl1]; exact wipe_wipe fun _ m => m
                · refine yes_go ?_
                  have hrest6 := (Res.sat_bnd _ _ _ _).mp ((Res.sat_bnd _ _ _ _).mp hrest6 : (Res.ok true st6 : Res Bool).sat _ _)
                  refine he r6 s7 σ7 st6 H7 hE7 hs7 _ (Res.sat_mono hrest6 (fun v st9 hy9 r9 H9 vv g9 hs9 hvv => ?_) fun _ _ q => q.elim)
                  have M9 := M7.ran hs1 hD g9 hs9
                  have hy9 := (Res.sat_bnd _ _ _ _).mp (show (((runsC (lcF (fun _ st => .ok true st) fe t1 (wipeE s1 own1)) (j + 1) k' st9 src1).bnd fun r st2 => (.ok ([v] ++ r) st2 : Res (List PV)))).sat _ _ from hy9)
                  obtain ⟨ys, st10, _, q⟩ := sat_ok hy9
                  obtain ⟨zs, st11, _, q⟩ := sat_ok (show (runsC (lcF2 fi1 fe t t1 own1 (wipeE s own)) (i + 1) m' st10 src).sat (fun zs st8 => Ac.ok (don6 ++ ([v] ++ ys) ++ zs) ∧ Fin (don6 ++ ([v] ++ ys) ++ zs) st8) (fun _ _ => False) from q)
                  refine Ac.step (rest := ys ++ zs) (by have := q.1; simpa using this) M9.ac M9.memD hvv fun o ho => ⟨r9, st9, don6 ++ [v], hk', M9.put hs1 hD ho, ((c6.trans g7.carry).trans g9.carry).trans (Carry.poke M9.memD), ?_⟩
                  refine Res.sat_mono hy9 (fun ys st7 q => ?_) fun _ _ q => q
                  refine Res.sat_mono q (fun zs st8 q => ?_) fun _ _ q => q
                  simpa using q
end
end MP

/-! MP, part y: set comprehensions of one and two fors, whatever is gathered. -/
namespace MP
open PySem PySem.Spec PyProof.Rows L2
/-- the new set's object -/
def set0 (w : World) : Obj := { cls := .type "set", dict := none, data := .set #[] 0 (.fresh 0 0 (!w.params.followText "set-order")) }
/-- a set may be gathered into -/
structure SetAcc (X : Cx) (o0 : Addr → HO) (ap : AccP) : Prop where
  new : ∀ (H : Hp) (hp : Heap), ObjOk X.prog X.w H (hp.push (set0 X.w)) hp.objs.size (o0 hp.objs.size)
  add : ∀ (sh0 : Shared) (H0 : Hp) (sc : Scope) (ce : PySem.Env) (fp : List Addr) (pins : List (Addr × Obj)) (σ : L2.St) (H : Hp) (sh : Shared) (D : Addr) (y : V) (u : Value) (Nx : Hp → Prop) (Q : Value → Shared → Prop) (E : Value → Shared → Prop),
    Inv (X.blk sh0 H0 sc ce fp) pins σ H sh → RelV y u → ap D y H Nx → (∀ sh1 H1, Inv (X.blk sh0 H0 sc ce fp) pins σ H1 sh1 → Nx H1 → Q .none sh1) → wpAny (model X.prog X.w) X.A (call (.builtin "set.add") [.ref D, u]) Q E sh
section
variable {X : Cx} {o0 : Addr → HO} {ap : AccP}
abbrev BlkP (X : Cx) (scope : Scope) (P : Cx → Prop) : Prop := ∀ (s : Shared) (H : Hp) (C : Addr) (cl : List (Str × Addr)) (fp : List Addr), P (X.blk s H scope (compEnvC scope cl C X.env) fp)
/-- how the block begins, whatever its loop is -/
theorem set_begin {pins : List (Addr × Obj)} {sh : Shared} {σ : L2.St} {H : Hp} {elt tg iter : Expr} {ifs : List Expr} {more : List Comprehension} {scope : Scope} {own : List (Str × Nat)} {pos pos' : Pos} {wi : TI} {R : It → Hp → Prop} {use : Option (Value → Sem Unit)} {Qf : Value → Shared → Prop}
    (SA : SetAcc X o0 ap) (hN : X.N.Nodup) (I : Inv X pins σ H sh) (hi : PI X tg iter wi) (ok : BlkOk X.N X.env.scope scope own) (hs : ∀ x, foldedSetIterable iter X.env x = pure x) (hw : wi σ H R)
    (go : ∀ (s3 s4 : Shared) (H3 : Hp) (D it : Addr) (fp : List Addr) (tn : Nat → Heap → Prop) (J : It) (H2 : Hp) (cl : List (Str × Addr)), R J H2 → H2 D = none → H3 = upd H2 D (o0 D) → Turn X.prog X.w X.K tg J fp it tn → tn 0 s4.heap → (∀ b ∈ fp, H3 b = none) →
      Inv X pins σ H3 s3 → (∀ b ∈ fp, FpOk X pins H3 b) → Inv (X.blk s3 H3 scope (compEnvC scope cl s3.heap.objs.size X.env) fp) [] (wipe σ (own.map (·.2))) H3 s4 →
      codeAny (model X.prog X.w) X.A (.compLoop (.SetComp elt (⟨tg, iter, ifs, 0⟩ :: more) scope pos) 0 (.ref it) (.ref D) (compEnvC scope cl s3.heap.objs.size X.env)) (compPost (model X.prog X.w) X.A X.xe use Qf (.ref D) s3.heap.objs.size) s4) :
    wpAny (model X.prog X.w) X.A (comprehension (.SetComp elt (⟨tg, iter, ifs, 0⟩ :: more) scope pos) scope X.env pos' (newSet (.type "set")) false (eval iter X.env) use) Qf X.xe sh := by
  have clo : ∀ nm ∈ scope.names, nm.2 = .free → ∃ c, X.env.cells.lookup nm.1 = some c := fun nm hnm e => (ok.free nm hnm e).elim (fun z => I.ok.has _ (.inl z)) fun z => I.ok.has _ (.inr z)
  refine wpAny_comprehension_free (use := use) rfl hs (closure_ok clo) ok.kind (fun nm hnm e => (ok.uniq nm hnm).trans (by rw [e])) (thn (hi.run pins sh σ H _ I hw) fun xv s1 hx => thn hx fun itv s2 h2 => ?_)
  obtain ⟨it, fp, tn, J, H2, rfl, I2, T, st2, f2, q⟩ := h2
  refine PpSet.newSet_ok (newEnv_comp ?_)
  generalize hD : s2.heap.objs.size = D
  have hDn : H2 D = none := I2.hok.fresh (Nat.le_of_eq hD)
  obtain ⟨s3, hs3⟩ : ∃ s3 : Shared, s3 = { s2 with heap := s2.heap.push (set0 X.w) } := ⟨_, rfl⟩
  have hh3 : s3.heap = s2.heap.push (set0 X.w) := by rw [hs3]
  have I3 : Inv X pins σ (upd H2 D (o0 D)) s3 := by
    rw [hs3]
    refine I2.laid (t' := s2.toks) (fun b ob e => Heap.get?_push_of_some _ e) (Nat.le_of_eq hD) ?_
    subst hD
    exact SA.new _ _
  have low : ∀ b ∈ fp, b < s2.heap.objs.size := fun b hb => let ⟨_, e, _⟩ := T.obj _ _ st2 b hb; Heap.lt_size e
  have f3 : ∀ b ∈ fp, FpOk X pins (upd H2 D (o0 D)) b ∧ b < s3.heap.objs.size := fun b hb => by
    have hb2 := low b hb
    refine ⟨⟨(upd_ne (fun e => by rw [e, ← hD] at hb2; exact Nat.lt_irrefl _ hb2)).trans (f2 b hb).1, (f2 b hb).2⟩, ?_⟩
    rw [hh3, Heap.size_push]; exact Nat.lt_succ_of_lt hb2
  have st3 : tn 0 s3.heap := T.keep _ _ _ st2 fun b _ ob e => hh3 ▸ Heap.get?_push_of_some _ e
  have I4 := block_start I3 ok hN f3
  have st4 : tn 0 (pushCells (s3.heap.push { cls := .type "dict", data := .dict #[] }) scope.names) := T.keep _ _ _ st3 fun b _ ob e => pushCells_keeps _ _ _ _ (Heap.get?_push_of_some _ e)
  have lp := go s3 _ _ D it fp tn J H2 _ q hDn rfl T st4 (fun b hb => (f3 b hb).1.1) I3 (fun b hb => (f3 b hb).1) I4
  rw [hs3] at lp st4
  exact PpSet.codeAny_compStart_set lp (T.self X.A 0 _ _ _ st4 lp)
/-- what is known of the walked things within the block -/
theorem blk_stat {s3 : Shared} {H3 : Hp} {scope : Scope} {ce : PySem.Env} {fp : List Addr} {σ' : L2.St} {H' : Hp} {s' : Shared} (J' : Inv (X.blk s3 H3 scope ce fp) [] σ' H' s') (z : ∀ b ∈ fp, H' b = none) : ∀ b ∈ fp, FpOk (X.blk s3 H3 scope ce fp) [] H' b := fun b hb => by
  refine ⟨z b hb, (J'.ok.exf b hb).1, J'.ok.exfs b hb, .inl hb, fun nm c e => (J'.ok.exf b hb).2 nm c e, fun pr hp => ?_⟩
  have hp : pr ∈ ([] : List (Addr × Obj)) ++ [] := hp
  simp at hp
/-- the block's end -/
theorem blk_done {pins : List (Addr × Obj)} {σ σ' : L2.St} {s3 s6 : Shared} {H3 H5 : Hp} {scope : Scope} {cl : List (Str × Addr)} {fp : List Addr} {D : Addr} {Q : VK} (I3 : Inv X pins σ H3 s3) (f3 : ∀ b ∈ fp, FpOk X pins H3 b)
    (I6 : Inv (X.blk s3 H3 scope (compEnvC scope cl s3.heap.objs.size X.env) fp) [] σ' H5 s6) (q : Q (.ref D) H5) : compPost (model X.prog X.w) X.A X.xe none (EP X pins σ Q) (.ref D) s3.heap.objs.size (.ok .next) s6 := by
  have back : Inv X pins σ H5 s6 := I3.call' (ch := fp) I6.os I6.base I6.hok I6.bare fun b hb => ⟨(f3 b hb).2.2.2.1, (f3 b hb).2.1, (f3 b hb).2.2.2.2.1, (f3 b hb).2.2.2.2.2⟩
  have none5 : H5 s3.heap.objs.size = none := I6.free
  obtain ⟨m, hn, _⟩ := I6.loc
  obtain ⟨g0, g1, _, g3, g4, g5⟩ := I3.fpOk (Nat.le_refl _) none5
  exact ⟨m, hn, fun h2 sb => ⟨.ref D, H5, back.turned (t' := s6.toks) (fun b ob hb e => (sb.2 b hb).trans e) g0 g1 g3 g4 g5, rfl, q⟩⟩
/-- sets of one for -/
theorem pe_sc1 {elt tg iter : Expr} {ifs : List Expr} {scope : Scope} {own : List (Str × Nat)} {pos : Pos} {wi : TI} {g : TG} {tt : TT} {te : TE} (SA : SetAcc X o0 ap) (hc : X.calm = true) (hN : X.N.Nodup) (hi : PI X tg iter wi) (ok : BlkOk X.N X.env.scope scope own)
    (hg : BlkP X scope fun X' => PG X' tg g) (ht : BlkP X scope fun X' => PTs X' ifs tt) (he : BlkP X scope fun X' => PE X' elt te) (hs : ∀ x, foldedSetIterable iter X.env x = pure x) :
    PE X (.SetComp elt [⟨tg, iter, ifs, 0⟩] scope pos) (tC1 o0 ap wi g tt te (own.map (·.2))) := by
  refine ⟨fun pins sh σ H Q I hw => ?_⟩
  rw [PpSet.eval_SetComp]
  refine set_begin SA hN I hi ok hs hw fun s3 s4 H3 D it fp tn J H2 cl q hDn eH T st4 nfp I3 f3 I4 => ?_
  obtain ⟨W, ⟨m0, w0⟩, turn⟩ := q D hDn
  rw [← eH] at w0
  have pg := hg s3 H3 s3.heap.objs.size cl fp
  have pt := ht s3 H3 s3.heap.objs.size cl fp
  have pe := he s3 H3 s3.heap.objs.size cl fp
  have fin0 := fun σ' H5 s6 (I6 : Inv (X.blk s3 H3 scope (compEnvC scope cl s3.heap.objs.size X.env) fp) [] σ' H5 s6) (z : Q (.ref D) H5) => blk_done (D := D) I3 f3 I6 z
  generalize compEnvC scope cl s3.heap.objs.size X.env = ce at pg pt pe I4 fin0 ⊢
  refine PpSet.compLoopS_any (fun n s' => ∃ i H', Inv (X.blk s3 H3 scope ce fp) [] (wipe σ (own.map (·.2))) H' s' ∧ tn i s'.heap ∧ (∀ b ∈ fp, H' b = none) ∧ W i n H') ?_ m0 ⟨0, H3, I4, st4, nfp, w0⟩
  rintro n s5 ⟨i, H5, I5, st5, n5, w5⟩
  rcases turn i n H5 w5 with ⟨stp, qq⟩ | ⟨goes, Nx, hNx, step⟩
  · refine thnF (T.done (X.blk s3 H3 scope ce fp) rfl rfl rfl hc i [] s5 _ H5 (fun _ _ => False) I5 (blk_stat I5 n5) st5 stp) fun r s6 ⟨er, I6⟩ => ?_
    subst er
    exact fin0 _ _ _ I6 qq
  · refine thnF (T.item (X.blk s3 H3 scope ce fp) rfl rfl rfl hc i [] s5 _ H5 (fun _ _ => False) I5 (blk_stat I5 n5) st5 goes) fun r s6 ⟨u, er, h6⟩ => ?_
    subst er
    refine thnF h6 fun _ s7 ⟨x, H7, I7, r7, y7, st7, n7⟩ => ?_
    have I7p := I7.pinned (blk_stat I7 n7) (T.obj _ _ st7)
    refine thnF (pg.run _ s7 _ H7 x u _ I7p r7 (step x H7 y7)) fun _ s8 ⟨σ8, H8, I8, w8, q8⟩ => ?_
    refine thnF (pt.run _ s8 σ8 H8 _ I8 q8) fun b s9 ⟨H9, I9, q9⟩ => ?_
    have again : ∀ {s' : Shared} {H' : Hp}, Inv (X.blk s3 H3 scope ce fp) ([] ++ pinsAt fp s7.heap) σ8 H' s' → Nx H' → ∃ m, m < n ∧ ∃ i H', Inv (X.blk s3 H3 scope ce fp) [] (wipe σ (own.map (·.2))) H' s' ∧ tn i s'.heap ∧ (∀ b ∈ fp, H' b = none) ∧ W i m H' := fun {s' H'} J' nx => by
      obtain ⟨m', lt, w'⟩ := hNx H' nx
      have kept : ∀ b ∈ fp, ∀ ob, s7.heap.get? b = some ob → s'.heap.get? b = some ob ∧ H' b = none := fun b hb ob e => by
        have z := J'.pin (b, ob) (List.mem_append_right _ (List.mem_append_right _ (mem_pinsAt hb e)))
        exact ⟨z.1, z.2.1⟩
      refine ⟨m', lt, i + 1, H', (J'.unpinned (pins := [])).weak (by rw [← w8, wipe_length]) (fun j v e => ?_), T.keep _ _ _ st7 fun b hb ob e => (kept b hb ob e).1, fun b hb => ?_, w'⟩
      · rw [← w8] at e; exact (wipe_some e).1
      · obtain ⟨ob, e, _⟩ := T.obj _ _ st7 b hb
        exact (kept b hb ob e).2
    cases b with
    | false =>
      simp only [Bool.false_eq_true, if_false] at q9 ⊢
      exact again I9 q9
    | true =>
      simp only [if_true] at q9 ⊢
      refine thnF (pe.run _ s9 σ8 H9 _ I9 q9) fun z s10 ⟨yv, H10, I10, r10, q10⟩ => ?_
      exact SA.add _ _ _ _ _ _ _ _ _ D yv z Nx _ _ I10 r10 q10 fun s11 H11 I11 nx => again I11 nx
/-! two fors -/
theorem turn2_out (elt t0 i0 t1 i1 : Expr) (ifs0 ifs1 : List Expr) (scope : Scope) (pos : Pos) (it acc : Value) (env : PySem.Env) :
    compTurn (.SetComp elt [⟨t0, i0, ifs0, 0⟩, ⟨t1, i1, ifs1, 0⟩] scope pos) 0 it acc env = (do
      standAt i0.pos
      match ← pyNext it with
      | none => pure (.done .next)
      | some v =>
        letOwnedTupleGo t0 it v
        assign t0 env v
        let mut yes := true
        for cnd in ifs0 do
          if yes then yes ← isTrue cnd env (eval cnd env)
        if yes then
          let xs ← eval i1 env
          standAt i1.pos
          let xs ← foldedSetIterable i1 env xs
          let _ ← runOwn (.compStart (.SetComp elt [⟨t0, i0, ifs0, 0⟩, ⟨t1, i1, ifs1, 0⟩] scope pos) 1 (← holding [xs] (pyIter xs)) acc env) env
        again (.compLoop (.SetComp elt [⟨t0, i0, ifs0, 0⟩, ⟨t1, i1, ifs1, 0⟩] scope pos) 0 it acc env)) := by rfl
theorem turn2_in (elt t0 i0 t1 i1 : Expr) (ifs0 ifs1 : List Expr) (scope : Scope) (pos : Pos) (it acc : Value) (env : PySem.Env) :
    compTurn (.SetComp elt [⟨t0, i0, ifs0, 0⟩, ⟨t1, i1, ifs1, 0⟩] scope pos) 1 it acc env = (do
      standAt i1.pos
      match ← pyNext it with
      | none => pure (.done .next)
      | some v =>
        letOwnedTupleGo t1 it v
        assign t1 env v
        let mut yes := true
        for cnd in ifs1 do
          if yes then yes ← isTrue cnd env (eval cnd env)
        if yes then
          (do let v ← eval elt env; standAt elt.pos; let _ ← call (.builtin "set.add") [acc, v])
        again (.compLoop (.SetComp elt [⟨t0, i0, ifs0, 0⟩, ⟨t1, i1, ifs1, 0⟩] scope pos) 1 it acc env)) := by rfl
section
variable {prog : Program} {w : World} {A : Around} {R : Result → Shared → Prop} {sh : Shared} {elt t0 i0 t1 i1 : Expr} {ifs0 ifs1 : List Expr} {scope : Scope} {pos : Pos} {it acc : Value} {env : PySem.Env}
/-- an error of the block, with its place noted -/
abbrev NtE (prog : Program) (w : World) (A : Around) (env : PySem.Env) (R : Result → Shared → Prop) : Value → Shared → Prop := notedBy (model prog w) A env fun e s' => R (.error e) s'
abbrev tests (env : PySem.Env) (ifs : List Expr) : Sem Bool := forIn ifs true fun c r => if r = true then do let ok ← isTrue c env (eval c env); pure (ForInStep.yield ok) else pure (ForInStep.yield r)
theorem loop2_out (hf : ∀ x, foldedSetIterable i1 env x = pure x) (J : Nat → Shared → Prop)
    (turn : ∀ n s, J n s → wpAny (model prog w) A (pyNext it) (fun r s1 => match r with
      | none => R (.ok .next) s1
      | some v => wpAny (model prog w) A (letOwnedTupleGo t0 it v) (fun _ s1' => wpAny (model prog w) A (assign t0 env v) (fun _ s2 => wpAny (model prog w) A (tests env ifs0) (fun ok s3 =>
            if ok = true then wpAny (model prog w) A (eval i1 env) (fun x s4 => wpAny (model prog w) A (pyIter x) (fun it1 s5 =>
              codeAny (model prog w) A (.compStart (.SetComp elt [⟨t0, i0, ifs0, 0⟩, ⟨t1, i1, ifs1, 0⟩] scope pos) 1 it1 acc env) (fun r s' => match r with
                | .ok _ => ∃ m, m < n ∧ J m s'
                | .error _ => False) s5) (NtE prog w A env R) s4) (NtE prog w A env R) s3
            else ∃ m, m < n ∧ J m s3) (NtE prog w A env R) s2) (NtE prog w A env R) s1') (NtE prog w A env R) s1) (NtE prog w A env R) s)
    (n : Nat) (h : J n sh) : codeAny (model prog w) A (.compLoop (.SetComp elt [⟨t0, i0, ifs0, 0⟩, ⟨t1, i1, ifs1, 0⟩] scope pos) 0 it acc env) R sh := by
  refine codeAny_loop rfl J (fun n s hJ => wpAny_noted ?_) n h
  rw [turn2_out]
  refine wpAny_bind (wpAny_standAt (wpAny_bind (wpAny_mono (turn n s hJ) (fun r s1 g1 => ?_) fun _ _ z => z)))
  cases r with
  | none => exact wpAny_pure g1
  | some v =>
    refine wpAny_bind (wpAny_mono g1 (fun _ s1' g1' => wpAny_bind (wpAny_mono g1' (fun _ s2 g2 => wpAny_bind (wpAny_mono g2 (fun ok s3 g3 => ?_) fun _ _ z => z)) fun _ _ z => z)) fun _ _ z => z)
    cases ok with
    | false => exact wpAny_pure ⟨rfl, g3⟩
    | true =>
      refine wpAny_bind (wpAny_mono g3 (fun x s4 g4 => wpAny_bind (wpAny_standAt (wpAny_bind (wpAny_of_eq (hf x) (wpAny_bind (wpAny_holding (wpAny_mono g4 (fun it1 s5 g5 => wpAny_bind (wpAny_runOwn ?_)) fun _ _ z => z))))))) fun _ _ z => z)
      rw [Around.mark_none]
      refine codeAny_mono g5 fun r s' hr => ?_
      cases r with
      | error e => exact hr.elim
      | ok f => first | exact wpAny_pure ⟨rfl, hr⟩ | exact wpAny_bind (wpAny_pure (wpAny_pure ⟨rfl, hr⟩))
theorem loop2_in (J : Nat → Shared → Prop)
    (turn : ∀ n s, J n s → wpAny (model prog w) A (pyNext it) (fun r s1 => match r with
      | none => R (.ok .next) s1
      | some v => wpAny (model prog w) A (letOwnedTupleGo t1 it v) (fun _ s1' => wpAny (model prog w) A (assign t1 env v) (fun _ s2 => wpAny (model prog w) A (tests env ifs1) (fun ok s3 =>
            if ok = true then wpAny (model prog w) A (eval elt env) (fun x s4 => wpAny (model prog w) A (call (.builtin "set.add") [acc, x]) (fun _ s5 => ∃ m, m < n ∧ J m s5) (NtE prog w A env R) s4) (NtE prog w A env R) s3
            else ∃ m, m < n ∧ J m s3) (NtE prog w A env R) s2) (NtE prog w A env R) s1') (NtE prog w A env R) s1) (NtE prog w A env R) s)
    (n : Nat) (h : J n sh) : codeAny (model prog w) A (.compLoop (.SetComp elt [⟨t0, i0, ifs0, 0⟩, ⟨t1, i1, ifs1, 0⟩] scope pos) 1 it acc env) R sh := by
  refine codeAny_loop rfl J (fun n s hJ => wpAny_noted ?_) n h
  rw [turn2_in]
  refine wpAny_bind (wpAny_standAt (wpAny_bind (wpAny_mono (turn n s hJ) (fun r s1 g1 => ?_) fun _ _ z => z)))
  cases r with
  | none => exact wpAny_pure g1
  | some v =>
    refine wpAny_bind (wpAny_mono g1 (fun _ s1' g1' => wpAny_bind (wpAny_mono g1' (fun _ s2 g2 => wpAny_bind (wpAny_mono g2 (fun ok s3 g3 => ?_) fun _ _ z => z)) fun _ _ z => z)) fun _ _ z => z)
    cases ok with
    | false => exact wpAny_pure ⟨rfl, g3⟩
    | true => exact wpAny_bind (wpAny_bind (wpAny_mono g3 (fun x s4 g4 => wpAny_bind (wpAny_standAt (wpAny_bind (wpAny_mono g4 (fun _ s5 g5 => wpAny_pure (wpAny_pure ⟨rfl, g5⟩)) fun _ _ z => z)))) fun _ _ z => z))
theorem start2 (h0 : codeAny (model prog w) A (.compLoop (.SetComp elt [⟨t0, i0, ifs0, 0⟩, ⟨t1, i1, ifs1, 0⟩] scope pos) 1 it acc env) R sh)
    (h : wpAny (model prog w) A (pyIter it) (fun it' s' => codeAny (model prog w) A (.compLoop (.SetComp elt [⟨t0, i0, ifs0, 0⟩, ⟨t1, i1, ifs1, 0⟩] scope pos) 1 it' acc env) R s') (NtE prog w A env R) sh) :
    codeAny (model prog w) A (.compStart (.SetComp elt [⟨t0, i0, ifs0, 0⟩, ⟨t1, i1, ifs1, 0⟩] scope pos) 1 it acc env) R sh := by
  refine codeAny_of_tree (wpAny_notedAt ?_)
  unfold compStart
  refine (show wpAny _ _ (ask >>= _) _ _ sh from wpAny_bind (wpAny_askSetting (wpAny_ite ?_)))
  split
  · first | exact wpAny_bind (wpAny_pure (wpAny_pure ⟨rfl, h0⟩)) | exact wpAny_pure ⟨rfl, h0⟩
  · first
      | exact wpAny_bind (wpAny_rule (wpAny_bind (wpAny_standAt (wpAny_bind (wpAny_mono h (fun it' s' z => wpAny_pure ⟨rfl, z⟩) fun _ _ z => z)))))
      | exact wpAny_bind (wpAny_rule (show wpAny _ _ (standAt i1.pos >>= _) _ _ sh from wpAny_bind (wpAny_standAt (wpAny_bind (wpAny_mono h (fun it' s' z => wpAny_pure ⟨rfl, z⟩) fun _ _ z => z)))))
end
/-- sets of two fors -/
theorem pe_sc2 {elt tg iter tg1 iter1 : Expr} {scope : Scope} {own : List (Str × Nat)} {vs1 : List Nat} {pos : Pos} {wi wi1 : TI} {g g1 : TG} {te : TE} (SA : SetAcc X o0 ap) (hc : X.calm = true) (hN : X.N.Nodup) (hi : PI X tg iter wi) (ok : BlkOk X.N X.env.scope scope own) (hv : ∀ i ∈ vs1, i ∈ own.map (·.2))
    (hg : BlkP X scope fun X' => PG X' tg g) (hi1 : BlkP X scope fun X' => PI X' tg1 iter1 wi1) (hg1 : BlkP X scope fun X' => PG X' tg1 g1) (he : BlkP X scope fun X' => PE X' elt te) (hs : ∀ x, foldedSetIterable iter X.env x = pure x) (hs1 : ∀ env x, foldedSetIterable iter1 env x = pure x) :
    PE X (.SetComp elt [⟨tg, iter, [], 0⟩, ⟨tg1, iter1, [], 0⟩] scope pos) (tC2 o0 ap wi g tYes wi1 g1 tYes te (own.map (·.2)) vs1) := by
  refine ⟨fun pins sh σ H Q I hw => ?_⟩
  rw [PpSet.eval_SetComp]
  refine set_begin SA hN I hi ok hs hw fun s3 s4 H3 D it fp tn J H2 cl q hDn eH T st4 nfp I3 f3 I4 => ?_
  obtain ⟨W, ⟨m0, w0⟩, turn⟩ := q D hDn
  rw [← eH] at w0
  have pg := hg s3 H3 s3.heap.objs.size cl fp
  have pe := he s3 H3 s3.heap.objs.size cl fp
  have pi1 := hi1 s3 H3 s3.heap.objs.size cl fp
  have pg1 := hg1 s3 H3 s3.heap.objs.size cl fp
  have pt : PTs (X.blk s3 H3 scope (compEnvC scope cl s3.heap.objs.size X.env) fp) [] tYes := pts_nil
  have fin0 := fun σ' H5 s6 (I6 : Inv (X.blk s3 H3 scope (compEnvC scope cl s3.heap.objs.size X.env) fp) [] σ' H5 s6) (z : Q (.ref D) H5) => blk_done (D := D) I3 f3 I6 z
  generalize compEnvC scope cl s3.heap.objs.size X.env = ce at pg pt pe pi1 pg1 I4 fin0 ⊢
  refine loop2_out (hs1 ce) (fun n s' => ∃ i H', Inv (X.blk s3 H3 scope ce fp) [] (wipe σ (own.map (·.2))) H' s' ∧ tn i s'.heap ∧ (∀ b ∈ fp, H' b = none) ∧ W i n H') ?_ m0 ⟨0, H3, I4, st4, nfp, w0⟩
  rintro n s5 ⟨i, H5, I5, st5, n5, w5⟩
  rcases turn i n H5 w5 with ⟨stp, qq⟩ | ⟨goes, Nx, hNx, step⟩
  · refine thnF (T.done (X.blk s3 H3 scope ce fp) rfl rfl rfl hc i [] s5 _ H5 (fun _ _ => False) I5 (blk_stat I5 n5) st5 stp) fun r s6 ⟨er, I6⟩ => ?_
    subst er
    exact fin0 _ _ _ I6 qq
  · refine thnF (T.item (X.blk s3 H3 scope ce fp) rfl rfl rfl hc i [] s5 _ H5 (fun _ _ => False) I5 (blk_stat I5 n5) st5 goes) fun r s6 ⟨u, er, h6⟩ => ?_
    subst er
    refine thnF h6 fun _ s7 ⟨x, H7, I7, r7, y7, st7, n7⟩ => ?_
    have I7p := I7.pinned (blk_stat I7 n7) (T.obj _ _ st7)
    refine thnF (pg.run _ s7 _ H7 x u _ I7p r7 (step x H7 y7)) fun _ s8 ⟨σ8, H8, I8, w8, q8⟩ => ?_
    refine thnF (pt.run _ s8 σ8 H8 _ I8 q8) fun b s9 ⟨H9, I9, q9⟩ => ?_
    have ahead : ∀ {σ9 : L2.St} {s' : Shared} {H' : Hp}, Inv (X.blk s3 H3 scope ce fp) ([] ++ pinsAt fp s7.heap) σ9 H' s' → (wipe σ (own.map (·.2))).length = σ9.length → (∀ (j : Nat) v, (wipe σ (own.map (·.2)))[j]? = some (some v) → σ9[j]? = some (some v)) → Nx H' →
        ∃ m, m < n ∧ ∃ i H', Inv (X.blk s3 H3 scope ce fp) [] (wipe σ (own.map (·.2))) H' s' ∧ tn i s'.heap ∧ (∀ b ∈ fp, H' b = none) ∧ W i m H' := fun {σ9 s' H'} J' hl hk nx => by
      obtain ⟨m', lt, w'⟩ := hNx H' nx
      have kept : ∀ b ∈ fp, ∀ ob, s7.heap.get? b = some ob → s'.heap.get? b = some ob ∧ H' b = none := fun b hb ob e => by
        have z := J'.pin (b, ob) (List.mem_append_right _ (List.mem_append_right _ (mem_pinsAt hb e)))
        exact ⟨z.1, z.2.1⟩
      refine ⟨m', lt, i + 1, H', (J'.unpinned (pins := [])).weak hl hk, T.keep _ _ _ st7 fun b hb ob e => (kept b hb ob e).1, fun b hb => ?_, w'⟩
      obtain ⟨ob, e, _⟩ := T.obj _ _ st7 b hb
      exact (kept b hb ob e).2
    have l8 : (wipe σ (own.map (·.2))).length = σ8.length := by rw [← w8, wipe_length]
    have k8 : ∀ (j : Nat) v, (wipe σ (own.map (·.2)))[j]? = some (some v) → σ8[j]? = some (some v) := fun j v e => by rw [← w8] at e; exact (wipe_some e).1
    have k9 : ∀ (j : Nat) v, (wipe σ (own.map (·.2)))[j]? = some (some v) → (wipe σ8 vs1)[j]? = some (some v) := fun j v e => by
      rw [← w8] at e
      obtain ⟨e1, e2⟩ := wipe_some e
      exact (wipe_out fun z => e2 (hv j z)).trans e1
    cases b with
    | false =>
      simp only [Bool.false_eq_true, if_false] at q9 ⊢
      exact ahead I9 l8 k8 q9
    | true =>
      simp only [if_true] at q9 ⊢
      refine thnF (pi1.run _ s9 σ8 H9 _ I9 q9) fun xv s10 hx => thnF hx fun itv s11 h11 => ?_
      obtain ⟨it1, fp1, tn1, J1, H11, rfl, I11, T1, st11, f11, W1, ⟨m1, w1⟩, turn1⟩ := h11
      have stat1 : ∀ {H' : Hp}, (∀ b ∈ fp1, H' b = none) → ∀ b ∈ fp1, FpOk (X.blk s3 H3 scope ce fp) ([] ++ pinsAt fp s7.heap) H' b := fun z b hb => ⟨z b hb, (f11 b hb).2⟩
      have inner : codeAny (model X.prog X.w) X.A (.compLoop (.SetComp elt [⟨tg, iter, [], 0⟩, ⟨tg1, iter1, [], 0⟩] scope pos) 1 (.ref it1) (.ref D) ce)
          (fun r s' => match r with
            | .ok _ => ∃ m, m < n ∧ ∃ i H', Inv (X.blk s3 H3 scope ce fp) [] (wipe σ (own.map (·.2))) H' s' ∧ tn i s'.heap ∧ (∀ b ∈ fp, H' b = none) ∧ W i m H'
            | .error _ => False) s11 := by
        refine loop2_in (fun k s' => ∃ j H', Inv (X.blk s3 H3 scope ce fp) ([] ++ pinsAt fp s7.heap) (wipe σ8 vs1) H' s' ∧ tn1 j s'.heap ∧ (∀ b ∈ fp1, H' b = none) ∧ W1 j k H') ?_ m1 ⟨0, H11, I11.weak (wipe_length _ _) (fun j v e => (wipe_some e).1), st11, fun b hb => (f11 b hb).1, w1⟩
        rintro k s12 ⟨j, H12, I12, st12, n12, w12⟩
        rcases turn1 j k H12 w12 with ⟨stp1, nx1⟩ | ⟨goes1, Nx1, hNx1, step1⟩
        · refine thnF (T1.done (X.blk s3 H3 scope ce fp) rfl rfl rfl hc j _ s12 (wipe σ8 vs1) H12 (fun _ _ => False) I12 (stat1 n12) st12 stp1) fun r s13 ⟨er, I13⟩ => ?_
          subst er
          exact ahead I13 (l8.trans (wipe_length σ8 vs1).symm) k9 nx1
        · refine thnF (T1.item (X.blk s3 H3 scope ce fp) rfl rfl rfl hc j _ s12 (wipe σ8 vs1) H12 (fun _ _ => False) I12 (stat1 n12) st12 goes1) fun r s13 ⟨u1, er, h13⟩ => ?_
          subst er
          refine thnF h13 fun _ s14 ⟨x1, H14, I14, r14, y14, st14, n14⟩ => ?_
          have I14p := I14.pinned (stat1 n14) (T1.obj _ _ st14)
          refine thnF (pg1.run _ s14 (wipe σ8 vs1) H14 x1 u1 _ I14p r14 (step1 x1 H14 y14)) fun _ s15 ⟨σ15, H15, I15, w15, q15⟩ => ?_
          have pt1 : PTs (X.blk s3 H3 scope ce fp) [] tYes := pts_nil
          refine thnF (pt1.run _ s15 σ15 H15 _ I15 q15) fun b1 s16 ⟨H16, I16, q16⟩ => ?_
          have again : ∀ {s' : Shared} {H' : Hp}, Inv (X.blk s3 H3 scope ce fp) (([] ++ pinsAt fp s7.heap) ++ pinsAt fp1 s14.heap) σ15 H' s' → Nx1 H' → ∃ m, m < k ∧ ∃ j H', Inv (X.blk s3 H3 scope ce fp) ([] ++ pinsAt fp s7.heap) (wipe σ8 vs1) H' s' ∧ tn1 j s'.heap ∧ (∀ b ∈ fp1, H' b = none) ∧ W1 j m H' := fun {s' H'} J' nx => by
            obtain ⟨m', lt, w'⟩ := hNx1 H' nx
            have kept : ∀ b ∈ fp1, ∀ ob, s14.heap.get? b = some ob → s'.heap.get? b = some ob ∧ H' b = none := fun b hb ob e => by
              have z := J'.pin (b, ob) (List.mem_append_right _ (List.mem_append_right _ (mem_pinsAt hb e)))
              exact ⟨z.1, z.2.1⟩
            refine ⟨m', lt, j + 1, H', J'.unpinned.weak (by rw [← w15, wipe_length]) (fun j v e => by rw [← w15] at e; exact (wipe_some e).1), T1.keep _ _ _ st14 fun b hb ob e => (kept b hb ob e).1, fun b hb => ?_, w'⟩
            obtain ⟨ob, e, _⟩ := T1.obj _ _ st14 b hb
            exact (kept b hb ob e).2
          cases b1 with
          | false =>
            simp only [Bool.false_eq_true, if_false] at q16 ⊢
            exact again I16 q16
          | true =>
            simp only [if_true] at q16 ⊢
            refine thnF (pe.run _ s16 σ15 H16 _ I16 q16) fun z s17 ⟨yv, H17, I17, r17, q17⟩ => ?_
            exact SA.add _ _ _ _ _ _ _ _ _ D yv z Nx1 _ _ I17 r17 q17 fun s18 H18 I18 nx => again I18 nx
      exact start2 inner (T1.self X.A 0 _ _ _ st11 inner)
end
end MP

/-! MP, part z: sorted({..}): sets of texts, numbers, pairs that are gathered. -/
namespace MP
open PySem PySem.Spec PyProof.Rows L2
section
variable {P : Program} {w : World} {Kt : Type} [DecidableEq Kt] {knd : KeyKind P w Kt}
/-- the set at D, tracked -/
def SO (knd : KeyKind P w Kt) (D : Addr) (l : List Kt) : HO := .ext fun h => SetK knd h D l
theorem so_ok {H : Hp} {h : Heap} {a : Addr} {l : List Kt} (R : SetK knd h a l) : ObjOk P w H h a (SO knd a l) := by
  obtain ⟨es, ep, t, q, r⟩ := R
  obtain ⟨o, ho, _⟩ := q.ob
  exact ⟨⟨es, ep, t, q, r⟩, ⟨o, ho⟩, fun h1 h2 p k => SetK.at p k⟩
theorem addK_call {A : Around} {E : Value → Shared → Prop} {s : Shared} {a : Addr} {l : List Kt} {k : Kt} {x : Value} {Q : Value → Shared → Prop} (hx : knd.is k x = true) (hsc : x.scannable = true) (R : SetK knd s.heap a l) (room : l.length + 1 < scanBound)
    (hQ : ∀ h', Heap.SameBut a s.heap h' → SetK knd h' a (if k ∈ l then l else k :: l) → Q .none { s with heap := h', toks := s.toks + 1 }) : wpAny (model P w) A (call (.builtin "set.add") [.ref a, x]) Q E s := by
  have ty : s.TypeIs (.ref a) "set" := by
    obtain ⟨es, ep, t, q, _⟩ := R
    obtain ⟨o, ho, hex, _⟩ := q.ob
    exact ⟨o, ho, hex.1⟩
  refine wpAny_call_entry F.slot_set_add ty F.entry_set_add ?_ (F.args_set_add_2 _ _)
  unfold Builtin.«set.add» Builtin.Frozenset.oneOther
  simp only [List.isEmpty_nil, bind_assoc]
  unfold Builtin.Frozenset.addrOf setAdd
  refine wpAny_bind (wpAny_pure ?_)
  try dsimp only
  refine wpAny_bind (wpAny_pure ?_)
  try dsimp only
  refine wpAny_bind (wpAny_holding (wpAny_bind (knd.pyHash hx ?_)))
  refine addK_hashed (s := { s with toks := s.toks + 1 }) hx hsc R room fun h' b sb r => ?_
  show wpAny _ _ (ret Value.none) _ _ _
  exact wpAny_pure ⟨_, rfl, hQ h' sb r⟩
def apK (knd : KeyKind P w Kt) (kv : Kt → V) : AccP := fun D y H Nx => ∃ k l, y = kv k ∧ H D = some (SO knd D l) ∧ l.length + 1 < scanBound ∧ Nx (upd H D (SO knd D (if k ∈ l then l else k :: l)))
end
section
variable {X : Cx}
theorem setAcc_K {Kt : Type} [DecidableEq Kt] {knd : KeyKind X.prog X.w Kt} {kv : Kt → V} (hk : ∀ k u, RelV (kv k) u → knd.is k u = true ∧ u.scannable = true) : SetAcc X (fun D => SO knd D []) (apK knd kv) where
  new := fun H hp => so_ok (freshK (Heap.get?_push_size _ rfl))
  add := fun sh0 H0 sc ce fp pins σ H sh D y u Nx Q E I ry h fin => by
    obtain ⟨k, l, rfl, hD, room, nx⟩ := h
    have R : SetK knd sh.heap D l := (I.hok D _ hD).1
    refine addK_call (hk k u ry).1 (hk k u ry).2 R room fun h' sb new => fin _ _ (I.write (e := D) (t' := sh.toks + 1) (by rw [hD]; trivial) (.inl rfl) (fun b u hb hu => (sb.2 b hb).trans hu) ?_ (so_ok new)) nx
    obtain ⟨es, ep, t, q, _⟩ := new
    obtain ⟨o, ho, _⟩ := q.ob
    exact ⟨o, ho⟩
theorem strs_app {a b : List PV} {cs : List (List Nat)} (h : strsOf (a ++ b) = some cs) : ∃ x y, strsOf a = some x ∧ strsOf b = some y ∧ cs = x ++ y := by
  induction a generalizing cs with
  | nil => exact ⟨[], cs, rfl, h, rfl⟩
  | cons z a ih =>
    cases z with
    | str s =>
      obtain ⟨c2, e, rfl⟩ := Option.map_eq_some_iff.mp (show (strsOf (a ++ b)).map (s :: ·) = some cs from h)
      obtain ⟨x, y, e1, e2, rfl⟩ := ih e
      exact ⟨s :: x, y, by simp [strsOf, e1], e2, rfl⟩
    | _ => cases h
theorem ints_app {a b : List PV} {cs : List Int} (h : intsOf (a ++ b) = some cs) : ∃ x y, intsOf a = some x ∧ intsOf b = some y ∧ cs = x ++ y := by
  induction a generalizing cs with
  | nil => exact ⟨[], cs, rfl, h, rfl⟩
  | cons z a ih =>
    cases z with
    | int s =>
      obtain ⟨c2, e, rfl⟩ := Option.map_eq_some_iff.mp (show (intsOf (a ++ b)).map (s :: ·) = some cs from h)
      obtain ⟨x, y, e1, e2, rfl⟩ := ih e
      exact ⟨s :: x, y, by simp [intsOf, e1], e2, rfl⟩
    | _ => cases h
abbrev kS (X : Cx) := PySem.strKind X.prog X.w
abbrev kI (X : Cx) := PySem.intKind X.prog X.w
def acumS (X : Cx) : Acum X.K (fun D => SO (kS X) D []) (apK (kS X) V.str) where
  I := fun r H D don => ∃ cs l, strsOf don = some cs ∧ H D = some (SO (kS X) D l) ∧ (∀ z : Str, z ∈ l ↔ z.cps.toList ∈ cs) ∧ l.length ≤ cs.length
  ok := fun ys => ∃ cs, strsOf ys = some cs ∧ cs.length < 4000
  start := fun r H D => ⟨[], [], rfl, upd_same, fun z => by simp, Nat.le_refl _⟩
  grow := fun ⟨cs, l, h1, h2, h3⟩ _ e => ⟨cs, l, h1, e.trans h2, h3⟩
  step := fun {r H D don rest y yv Nx} hok hI _ hy nx => by
    obtain ⟨cs, l, h1, h2, h3, h4⟩ := hI
    obtain ⟨cs2, e, few⟩ := hok
    obtain ⟨x, z, e1, e2, rfl⟩ := strs_app e
    obtain ⟨x2, z2, e3, e4, rfl⟩ := strs_app e2
    rw [h1] at e1
    cases e1
    cases hy with
    | str k =>
      simp [strsOf] at e3
      subst e3
      simp at few
      refine ⟨⟨k.toArray⟩, l, rfl, h2, by unfold scanBound; omega, nx _ ⟨cs ++ [k], _, ?_, upd_same, fun z => ?_, ?_⟩⟩
      · clear e2 e nx few h4 h3 h2 e4
        induction don generalizing cs with
        | nil => cases h1; rfl
        | cons d don ih =>
          cases d with
          | str s =>
            obtain ⟨c2, e, rfl⟩ := Option.map_eq_some_iff.mp (show (strsOf don).map (s :: ·) = some cs from h1)
            simp [strsOf, ih _ e]
          | _ => cases h1
      · have base : z.cps.toList = k ↔ z = ⟨k.toArray⟩ := by
          constructor
          · intro q; cases z; simp at q; simp [← q]
          · rintro rfl; simp
        split
        · rename_i m
          rw [h3, List.mem_append, List.mem_singleton]
          refine ⟨.inl, fun q => q.elim id fun q => ?_⟩
          rw [base] at q
          subst q
          exact (h3 _).mp m
        · rw [List.mem_cons, h3, List.mem_append, List.mem_singleton, base]
          exact Or.comm
      · split <;> simp <;> omega
    | _ => simp [strsOf] at e3
def acumI (X : Cx) : Acum X.K (fun D => SO (kI X) D []) (apK (kI X) V.int) where
  I := fun r H D don => ∃ cs l, intsOf don = some cs ∧ H D = some (SO (kI X) D l) ∧ (∀ z : Int, z ∈ l ↔ z ∈ cs) ∧ l.length ≤ cs.length
  ok := fun ys => ∃ cs, intsOf ys = some cs ∧ cs.length < 4000
  start := fun r H D => ⟨[], [], rfl, upd_same, fun z => by simp, Nat.le_refl _⟩
  grow := fun ⟨cs, l, h1, h2, h3⟩ _ e => ⟨cs, l, h1, e.trans h2, h3⟩
  step := fun {r H D don rest y yv Nx} hok hI _ hy nx => by
    obtain ⟨cs, l, h1, h2, h3, h4⟩ := hI
    obtain ⟨cs2, e, few⟩ := hok
    obtain ⟨x, z, e1, e2, rfl⟩ := ints_app e
    obtain ⟨x2, z2, e3, e4, rfl⟩ := ints_app e2
    rw [h1] at e1
    cases e1
    cases hy with
    | int k =>
      simp [intsOf] at e3
      subst e3
      simp at few
      refine ⟨k, l, rfl, h2, by unfold scanBound; omega, nx _ ⟨cs ++ [k], _, ?_, upd_same, fun z => ?_, ?_⟩⟩
      · clear e2 e nx few h4 h3 h2 e4
        induction don generalizing cs with
        | nil => cases h1; rfl
        | cons d don ih =>
          cases d with
          | int s =>
            obtain ⟨c2, e, rfl⟩ := Option.map_eq_some_iff.mp (show (intsOf don).map (s :: ·) = some cs from h1)
            simp [intsOf, ih _ e]
          | _ => cases h1
      · split
        · rename_i m
          rw [h3, List.mem_append, List.mem_singleton]
          refine ⟨.inl, fun q => q.elim id fun q => ?_⟩
          subst q
          exact (h3 _).mp m
        · rw [List.mem_cons, h3, List.mem_append, List.mem_singleton]
          exact Or.comm
      · split <;> simp <;> omega
    | _ => simp [intsOf] at e3
end
end MP

/-! MP, part z2: sorted of a set that was gathered; pairs. -/
namespace MP
open PySem PySem.Spec PyProof.Rows L2
section
variable {C : CT} {X : Cx} {W : WX} {k : Nat} {e : Expr} {pos : Pos} {f : Env → Sto → Res PV}
/-- sorted(x), whatever x is known to be -/
def SrtOne (X : Cx) (r : V → Hp → VK → Prop) : Prop := ∀ (pins : List (Addr × Obj)) (s : Shared) (σ : L2.St) (H : Hp) (Q : VK) (x : V) (v : Value), Inv X pins σ H s → RelV x v → r x H Q → wpAny (model X.prog X.w) X.A (call (.builtin "sorted") [v]) (EP X pins σ Q) X.xe s
theorem pe_srt1 {te : TE} {r : V → Hp → VK → Prop} {p : Pos} (core : SrtOne X r) (hg : Gl X "sorted") (hm : X.mg "sorted" = none) (ha : PE X e te) (na : starEach [e] X.env = (false, eval e X.env) :: starEach [] X.env) :
    PE X (.Call (.Name "sorted" p) [e] [] pos) (fun σ H Q => te σ H fun x H1 => r x H1 Q) := by
  refine ⟨fun pins s σ H Q I h => Call_ (ld_blt I hg hm PyProof.Rows.boot_sorted (PyProof.Rows.callWith_builtin1 (PyProof.Rows.args_cons (thn (ha.run pins s σ H _ I h) fun v s1 ⟨x, H1, I1, r1, q1⟩ => PyProof.Rows.args_nil ?_) na) na rfl))⟩
  exact core pins s1 σ H1 Q x v I1 r1 q1
def rOneS (X : Cx) : V → Hp → VK → Prop := fun x H Q => ∃ (D : Addr) (l : List Str) (cs : List (List Nat)), x = .ref D ∧ H D = some (SO (kS X) D l) ∧ (∀ z : Str, z ∈ l ↔ z.cps.toList ∈ cs) ∧ l.length ≤ cs.length ∧ cs.length < 4000 ∧ ∀ p, H p = none → Q (.ref p) (upd H p (.lst ((srtS cs).map fun s => V.str ⟨s.toArray⟩)))
theorem one_str (c : Cxt X W k) : SrtOne X (rOneS X) := by
  intro pins s σ H Q x v I rx h
  obtain ⟨D, l, cs, rfl, hD, mem, hl, few, q1⟩ := h
  cases rx
  have hS : SetK (kS X) s.heap D l := (I.hok D _ hD).1
  have hnd : l.Nodup := hS.choose_spec.choose_spec.choose_spec.2.2.2.1
  refine sorted_setS hS (I.ok.hd c.calm) fun s' p' out cc ys kk g o hp hget hys pm hsrt => ?_
  have ey := sorted_is pm hsrt hnd mem
  have hv : Vals (((srtS cs).map fun s => V.str ⟨s.toArray⟩)) out.toList := by
    have := vals_strs hys
    rw [ey, List.map_map] at this
    exact this
  have hlen : ((srtS cs).map fun s => V.str ⟨s.toArray⟩).length ≤ sizeLine := by
    have e1 : ys.length = (srtS cs).length := by rw [ey, List.length_map]
    rw [List.length_map, ← e1, pm.length_eq, sizeLine_eq]
    omega
  exact srt_done I kk g o hp hget hv hlen q1
def rOneI (X : Cx) : V → Hp → VK → Prop := fun x H Q => ∃ (D : Addr) (l : List Int) (cs : List Int), x = .ref D ∧ H D = some (SO (kI X) D l) ∧ (∀ z : Int, z ∈ l ↔ z ∈ cs) ∧ l.length ≤ cs.length ∧ cs.length < 4000 ∧ ∀ p, H p = none → Q (.ref p) (upd H p (.lst ((srtO ltI cs).map V.int)))
theorem one_int (c : Cxt X W k) : SrtOne X (rOneI X) := by
  intro pins s σ H Q x v I rx h
  obtain ⟨D, l, cs, rfl, hD, mem, hl, few, q1⟩ := h
  cases rx
  have hS : SetK (kI X) s.heap D l := (I.hok D _ hD).1
  obtain ⟨es, ep, t, ax, hel, hmem, hnd, hsz⟩ := hS
  obtain ⟨bs, b1, b2⟩ := each_ints (h := s.heap) hel
  have bl : bs.length = l.length := by rw [← b1.length, List.length_map, Array.length_toList, hsz]
  have mb : ∀ z, z ∈ bs ↔ z ∈ l := fun z => (b2 z).trans (hmem z).symm
  have pm : l.Perm bs := perm_nodup hnd (fun z hz => (mb z).mpr hz) (by omega)
  have un := c.room.un
  refine sorted_setD (enc := PyData.int) (R := fun v b => RelV (V.int b) v) (bs := bs) ax.ob ax.few ax.fits ax.ris ax.led (I.ok.hd c.calm) b1 (PySem.W.AllAlike.of fun _ _ => rfl) (PySem.W.Sortable.others fun b => ⟨fun z => (nomatch z), fun _ z => (nomatch z)⟩)
    (fun b _ => by show X.A.units + 2 + 0 < cLine; omega) fun s' p out cc bs' kk g o hp hget bp ho => ?_
  have ey : (bs'.mergeSort (PySem.W.dataLe false PyData.int)).map id = srtO ltI cs := by
    refine merge_is ordI (fun a b => ?_) ?_ fun z => ?_
    · rw [PySem.W.dataLe_eq]
      simp only [cond_false, id, dlt_int]
    · rw [List.map_id]; exact (bp.trans pm.symm).nodup_iff.mpr hnd
    · rw [List.map_id, bp.mem_iff, mb, mem]
  rw [List.map_id] at ey
  rw [ey] at ho
  exact srt_done I kk g o hp hget (vals_each ho) (by rw [List.length_map, sizeLine_eq]; have := srtO_len (lt := ltI) cs; omega) q1
/-! ### pairs -/
/-- what is known of the table, the keys' own tuples apart -/
structure TPure (P : Program) (w : World) (L : List (Addr × List Key)) (es : Array (Int × Value)) (t : SetTable) : Prop where
  rows : es.toList = kRows P w L
  tab : TabOk t (L.map fun q => kHash P w q.2)
  nd : (L.map Prod.snd).Nodup
  led : w.params.followText "set-order" = true ∨ t.led = true
  room : L.length * 5 < t.mask * 3
  few : L.length < 64
def TO (P : Program) (w : World) (D : Addr) (L : List (Addr × List Key)) : HO := .ext fun h => ∃ es ep t, (∃ o, h.get? D = some o ∧ o.ExactSet ∧ o.data = .set es ep t) ∧ TPure P w L es t
theorem to_of {P : Program} {w : World} {H : Hp} {h : Heap} {a : Addr} {L es ep t} (R : TSet P w h a L es ep t) : ObjOk P w H h a (TO P w a L) := by
  obtain ⟨o, o1, o2, o3⟩ := R.ob
  refine ⟨⟨es, ep, t, ⟨o, o1, o2, o3⟩, ⟨R.rows, R.tab, R.nd, R.led, R.room, R.few⟩⟩, ⟨o, o1⟩, fun h1 h2 p k => ?_⟩
  obtain ⟨es, ep, t, ⟨o, o1, r⟩, q⟩ := p
  exact ⟨es, ep, t, ⟨o, k o o1, r⟩, q⟩
def SqP (K : PySem.W.Frag) (H : Hp) (b : Addr) (p : Int × List Nat) : Prop := SqT K H b [V.int p.1, V.str ⟨p.2.toArray⟩]
def apT (X : Cx) : AccP := fun D y H Nx => ∃ (L : List (Addr × List Key)) (b : Addr) (p : Int × List Nat), y = .ref b ∧ H D = some (TO X.prog X.w D L) ∧ SqP X.K H b p ∧ (∀ q ∈ L, ∃ p', q.2 = keyOf p' ∧ SqP X.K H q.1 p') ∧ L.length + 1 < 64 ∧
  ∀ L', (keyOf p ∈ L.map Prod.snd → L' = L) → (keyOf p ∉ L.map Prod.snd → L'.Perm ((b, keyOf p) :: L)) → Nx (upd H D (TO X.prog X.w D L'))
theorem tset_of {pins : List (Addr × Obj)} {σ : L2.St} {H : Hp} {s : Shared} {D : Addr} {L : List (Addr × List Key)} (I : Inv X pins σ H s) (hD : H D = some (TO X.prog X.w D L)) (hk : ∀ q ∈ L, ∃ p', q.2 = keyOf p' ∧ SqP X.K H q.1 p') : ∃ es ep t, TSet X.prog X.w s.heap D L es ep t := by
  obtain ⟨es, ep, t, ob, p⟩ := (I.hok D _ hD).1
  refine ⟨es, ep, t, ob, p.rows, p.tab, p.nd, fun q hq => ?_, p.led, p.room, p.few⟩
  obtain ⟨p', e, h⟩ := hk q hq
  rw [e]
  exact (pair_key I h).1
theorem setAcc_T (c : Cxt X W k) : SetAcc X (fun D => TO X.prog X.w D []) (apT X) where
  new := fun H hp => by
    obtain ⟨es, ep, t, R⟩ := tset_new (P := X.prog) (w := X.w) (h := hp.push (set0 X.w)) (a := hp.objs.size) (Heap.get?_push_size _ rfl)
    exact to_of R
  add := fun sh0 H0 sc ce fp pins σ H sh D y u Nx Q E I ry h fin => by
    obtain ⟨L, b, p, rfl, hD, hb, hk, few, nx⟩ := h
    cases ry
    obtain ⟨es, ep, t, R⟩ := tset_of I hD hk
    have kp := (pair_key I hb).1
    have un := c.room.un
    obtain ⟨o, ho, hex, _⟩ := R.ob
    have ty : sh.TypeIs (.ref D) "set" := ⟨o, ho, hex.1⟩
    refine wpAny_call_entry F.slot_set_add ty F.entry_set_add ?_ (F.args_set_add_2 _ _)
    unfold Builtin.«set.add» Builtin.Frozenset.oneOther
    simp only [List.isEmpty_nil, bind_assoc]
    unfold Builtin.Frozenset.addrOf setAdd
    refine wpAny_bind (wpAny_pure ?_)
    try dsimp only
    refine wpAny_bind (wpAny_pure ?_)
    try dsimp only
    refine wpAny_bind (wpAny_holding (wpAny_bind (wpAny_pyHash_tuple (by have : X.A.in1.units = X.A.units + 1 := rfl; omega) kp ?_)))
    refine tadd (s := { sh with toks := sh.toks + ((keyOf p).length + 1) }) R kp (by have : X.A.in1.units = X.A.units + 1 := rfl; omega) few fun bb h2 L2 es2 ep2 t2 sb R2 g1 g2 => ?_
    show wpAny _ _ (ret Value.none) _ _ _
    refine wpAny_pure ⟨_, rfl, fin _ _ (I.write (e := D) (t' := sh.toks + ((keyOf p).length + 1)) (by rw [hD]; trivial) (.inl rfl) (fun b u hb hu => (sb.2 b hb).trans hu) ?_ (to_of R2)) (nx L2 g1 g2)⟩
    obtain ⟨o2, ho2, _⟩ := R2.ob
    exact ⟨o2, ho2⟩
end
end MP

/-! MP, part z3: pairs gathered and sorted; the expressions. -/
namespace MP
open PySem PySem.Spec PyProof.Rows L2
section
variable {C : CT} {X : Cx} {W : WX} {k : Nat} {e : Expr} {pos : Pos} {f : Env → Sto → Res PV}
theorem prs_app {a b : List PV} {cs : List (Int × List Nat)} (h : prsOf (a ++ b) = some cs) : ∃ x y, prsOf a = some x ∧ prsOf b = some y ∧ cs = x ++ y := by
  induction a generalizing cs with
  | nil => exact ⟨[], cs, rfl, h, rfl⟩
  | cons z a ih =>
    unfold prsOf at h
    split at h
    · rename_i e; cases e
    · rename_i i s xs e
      cases e
      obtain ⟨c2, e, rfl⟩ := Option.map_eq_some_iff.mp h
      obtain ⟨x, y, e1, e2, rfl⟩ := ih e
      exact ⟨(i, s) :: x, y, by simp [prsOf, e1], e2, rfl⟩
    · cases h
theorem prs_one {y : PV} {x : List (Int × List Nat)} (h : prsOf [y] = some x) : ∃ p, y = prV p ∧ x = [p] := by
  unfold prsOf at h
  split at h
  · rename_i e; cases e
  · rename_i i s xs e
    cases e
    simp [prsOf] at h
    exact ⟨(i, s), rfl, h.symm⟩
  · cases h
def acumT (X : Cx) : Acum X.K (fun D => TO X.prog X.w D []) (apT X) where
  I := fun r H D don => ∃ (ks : List PrA) (L : List (Addr × List Key)), don = ks.map (fun c => prV c.2) ∧ H D = some (TO X.prog X.w D L) ∧ (∀ c ∈ ks, Rep X.K r H (prV c.2) (.ref c.1)) ∧ (L.map Prod.snd).Nodup ∧ (∀ q ∈ L, ∃ c ∈ ks, q = (c.1, keyOf c.2)) ∧ ∀ c ∈ ks, keyOf c.2 ∈ L.map Prod.snd
  ok := fun ys => ∃ ps, prsOf ys = some ps ∧ ps.length < 4000 ∧ (srtO ltPr ps).length < 63
  start := fun r H D => ⟨[], [], rfl, upd_same, by simp, List.nodup_nil, by simp, by simp⟩
  grow := fun ⟨ks, L, h1, h2, h3, h4⟩ g e => ⟨ks, L, h1, e.trans h2, fun c hc => (h3 c hc).carry g, h4⟩
  step := fun {r H D don rest y yv Nx} hok hI mD hy nx => by
    obtain ⟨ks, L, rfl, h2, h3, h4, h5, h6⟩ := hI
    obtain ⟨ps, e, few⟩ := hok
    obtain ⟨x, z, e1, e2, rfl⟩ := prs_app e
    obtain ⟨x2, z2, e3, e4, rfl⟩ := prs_app e2
    obtain ⟨p, rfl, rfl⟩ := prs_one e3
    have lx : x = ks.map (·.2) := by
      clear e e2 few nx h6 h5 h4 h3 e4
      induction ks generalizing x with
      | nil => cases e1; rfl
      | cons c ks ih =>
        obtain ⟨c2, e, rfl⟩ := Option.map_eq_some_iff.mp (show (prsOf (ks.map fun c => prV c.2)).map (c.2 :: ·) = some x from e1)
        simp [ih _ e]
    have lf := set_few (ps := x ++ ([p] ++ z2)) h4 fun q hq => by
      obtain ⟨c, hc, rfl⟩ := h5 q hq
      exact ⟨c.2, List.mem_append_left _ (by rw [lx]; exact List.mem_map.mpr ⟨c, hc, rfl⟩), rfl⟩
    have few2 := few.2
    have sq : ∀ {c : Addr} {p : Int × List Nat}, Rep X.K r H (prV p) (.ref c) → SqP X.K H c p := fun {c p} h => by
      cases h with
      | tup im hq =>
        cases hq with
        | cons h1 t => cases t with
          | cons h2 t2 => cases t2; cases h1; cases h2; exact im.sq
    obtain ⟨b, rfl⟩ : ∃ b, yv = .ref b := by cases hy; exact ⟨_, rfl⟩
    refine ⟨L, b, p, rfl, h2, sq hy, fun q hq => ?_, by omega, fun L' g1 g2 => nx _ ⟨ks ++ [(b, p)], L', by simp, upd_same, fun c hc => ?_, ?_, ?_⟩⟩
    · obtain ⟨c, hc, rfl⟩ := h5 q hq
      exact ⟨c.2, rfl, sq (h3 c hc)⟩
    · rcases List.mem_append.mp hc with hc | hc
      · exact (h3 c hc).carry (Carry.poke mD)
      · rw [List.mem_singleton.mp hc]; exact hy.carry (Carry.poke mD)
    · by_cases hin : keyOf p ∈ L.map Prod.snd
      · rw [g1 hin]; exact h4
      · refine ((g2 hin).map Prod.snd).nodup_iff.mpr ?_
        rw [List.map_cons, List.nodup_cons]
        exact ⟨hin, h4⟩
    · by_cases hin : keyOf p ∈ L.map Prod.snd
      · rw [g1 hin]
        refine ⟨fun q hq => ?_, fun c hc => ?_⟩
        · obtain ⟨c, hc, e⟩ := h5 q hq
          exact ⟨c, List.mem_append_left _ hc, e⟩
        · rcases List.mem_append.mp hc with hc | hc
          · exact h6 c hc
          · rw [List.mem_singleton.mp hc]; exact hin
      · have pm := g2 hin
        refine ⟨fun q hq => ?_, fun c hc => ?_⟩
        · rcases List.mem_cons.mp (pm.mem_iff.mp hq) with rfl | z
          · exact ⟨(b, p), List.mem_append_right _ (List.mem_singleton.mpr rfl), rfl⟩
          · obtain ⟨c, hc, e⟩ := h5 q z
            exact ⟨c, List.mem_append_left _ hc, e⟩
        · refine (pm.map Prod.snd).mem_iff.mpr ?_
          rcases List.mem_append.mp hc with hc | hc
          · exact List.mem_cons_of_mem _ (h6 c hc)
          · rw [List.mem_singleton.mp hc]; exact List.mem_cons_self
def rOneT (X : Cx) : V → Hp → VK → Prop := fun x H Q => ∃ (D : Addr) (L : List (Addr × List Key)) (ks : List PrA), x = .ref D ∧ H D = some (TO X.prog X.w D L) ∧ (∀ c ∈ ks, SqP X.K H c.1 c.2) ∧ (srtO ltPr (ks.map (·.2))).length < 63 ∧ (∀ q ∈ L, ∃ c ∈ ks, q = (c.1, keyOf c.2)) ∧ (∀ c ∈ ks, keyOf c.2 ∈ L.map Prod.snd) ∧
  ∀ (p : Addr) (cs : List PrA), H p = none → (∀ c ∈ cs, c ∈ ks) → cs.map (·.2) = srtO ltPr (ks.map (·.2)) → Q (.ref p) (upd H p (.lst (cs.map fun c => V.ref c.1)))
theorem one_pair (c : Cxt X W k) : SrtOne X (rOneT X) := by
  intro pins s σ H Q x v I rx h
  obtain ⟨D, L, ks, rfl, hD, hks, few, l2, l3, q⟩ := h
  cases rx
  have un := c.room.un
  obtain ⟨es, ep, t, R⟩ := tset_of I hD fun q hq => by
    obtain ⟨c, hc, rfl⟩ := l2 q hq
    exact ⟨c.2, rfl, hks c hc⟩
  obtain ⟨bs, b1, b2⟩ := each_rows (P := X.prog) (w := X.w) (h := s.heap) (fun c2 hc2 => (pair_key I (hks c2 hc2)).2) l2
  rw [← R.rows] at b1
  have ez := kRows_len R.rows
  have rm := R.few
  refine sorted_setD (enc := fun b : PrA => prD b.2) (R := fun v (b : PrA) => v = .ref b.1 ∧ b ∈ ks) (bs := bs) R.ob (by rw [ez]; unfold scanBound; omega) R.fits R.tab.ris R.led (I.ok.hd c.calm) b1 (PySem.W.AllAlike.of fun _ _ => rfl)
    (PySem.W.Sortable.tuples fun b => ⟨_, _, rfl⟩) (fun b _ => by show X.A.units + 2 + 1 < cLine; omega) fun s' p out cc bs' kk g o hp hget bp ho => ?_
  obtain ⟨v1, v2⟩ := vals_refs ho
  have nd : (bs'.map fun b => b.2).Nodup := by
    have n1 : (bs.map fun b => keyOf b.2).Nodup := by rw [b2]; exact R.nd
    have n2 : ((bs.map fun b => b.2).map keyOf).Nodup := by rw [List.map_map]; exact n1
    exact (bp.map _).nodup_iff.mpr (List.Pairwise.of_map keyOf (fun _ _ hne e => hne (congrArg keyOf e)) n2)
  have ey : (bs'.mergeSort (PySem.W.dataLe false fun b : PrA => prD b.2)).map (fun b => b.2) = srtO ltPr (ks.map (·.2)) := by
    refine merge_is ordPr (fun a b => ?_) nd fun z => ?_
    · rw [PySem.W.dataLe_eq]
      simp only [cond_false, dlt_pr]
    · rw [(bp.map _).mem_iff]
      constructor
      · intro hz
        have : keyOf z ∈ L.map Prod.snd := by
          rw [← b2]
          obtain ⟨b, hb, rfl⟩ := List.mem_map.mp hz
          exact List.mem_map.mpr ⟨b, hb, rfl⟩
        obtain ⟨q2, f1, f2⟩ := List.mem_map.mp this
        obtain ⟨c2, hc2, rfl⟩ := l2 q2 f1
        rw [← keyOf_inj f2]
        exact List.mem_map.mpr ⟨c2, hc2, rfl⟩
      · intro hz
        obtain ⟨c2, hc2, rfl⟩ := List.mem_map.mp hz
        have := l3 c2 hc2
        rw [← b2] at this
        obtain ⟨b, hb, e⟩ := List.mem_map.mp this
        exact List.mem_map.mpr ⟨b, hb, keyOf_inj e⟩
  have ln : (bs'.mergeSort (PySem.W.dataLe false fun b : PrA => prD b.2)).length ≤ 64 := by
    have e1 := congrArg List.length ey
    rw [List.length_map] at e1
    omega
  exact srt_done I kk g o hp hget v1 (by rw [List.length_map, sizeLine_eq]; omega) fun p' hp' => q p' _ hp' v2 ey
/-! ### which kind -/
inductive SKind where
  | s | i | t
/-- the kinds of things that a sorted set may hold: one way for all -/
structure Way (X : Cx) (o0 : Addr → HO) (ap : AccP) where
  ac : Acum X.K o0 ap
  sa : SetAcc X o0 ap
  r : V → Hp → VK → Prop
  one : SrtOne X r
  fin : ∀ {r0 : Rg} {H : Hp} {D : Addr} {don : List PV} {st : Sto} {z : PV} {Q : VK}, RepS X.K r0 H st → ac.I r0 H D don → ac.ok don → srtP (.lst don) st = some z → PostE X.K r0 H Q z st → r (.ref D) H Q
theorem srt_lst (ys : List PV) (st : Sto) : srtP (.lst ys) st = (match strsOf ys, intsOf ys, prsOf ys with
    | some xs, _, _ => if xs.length < 4000 then some (.lst ((srtS xs).map .str)) else none
    | _, some xs, _ => if xs.length < 4000 then some (.lst ((srtO ltI xs).map .int)) else none
    | _, _, some xs => if xs.length < 4000 ∧ (srtO ltPr xs).length < 63 then some (.lst ((srtO ltPr xs).map prV)) else none
    | _, _, _ => none) := by
  simp only [srtP, seqOf, Option.bind_some, if_true]
  all_goals (cases strsOf ys <;> cases intsOf ys <;> cases prsOf ys <;> rfl)
def wayS (c : Cxt X W k) : Way X (fun D => SO (kS X) D []) (apK (kS X) V.str) where
  ac := acumS X
  sa := setAcc_K fun k u h => by obtain ⟨t, rfl⟩ := h; exact ⟨isStrK k t, rfl⟩
  r := rOneS X
  one := one_str c
  fin := fun {r0 H D don st z Q} hs hI hok e q => by
    obtain ⟨cs, l, h1, h2, h3, h4⟩ := hI
    obtain ⟨cs2, e2, few⟩ := hok
    have : cs = cs2 := by rw [h1] at e2; exact Option.some.inj e2
    subst this
    rw [srt_lst, h1] at e
    simp only [if_pos few] at e
    cases e
    exact ⟨D, l, cs, rfl, h2, h3, h4, few, fun p hp => PostE.lst q hs (reps_strs _) hp⟩
def wayI (c : Cxt X W k) : Way X (fun D => SO (kI X) D []) (apK (kI X) V.int) where
  ac := acumI X
  sa := setAcc_K fun k u h => by obtain ⟨t, rfl⟩ := h; exact ⟨by simp [PySem.intKind, Value.isInt], rfl⟩
  r := fun x H Q => rOneI X x H Q
  one := one_int c
  fin := fun {r0 H D don st z Q} hs hI hok e q => by
    obtain ⟨cs, l, h1, h2, h3, h4⟩ := hI
    obtain ⟨cs2, e2, few⟩ := hok
    have : cs = cs2 := by rw [h1] at e2; exact Option.some.inj e2
    subst this
    refine ⟨D, l, cs, rfl, h2, h3, h4, few, fun p hp => ?_⟩
    cases don with
    | nil =>
      simp [intsOf] at h1
      subst h1
      have : z = .lst [] := by simpa [srt_lst, strsOf, srtS] using e.symm
      subst this
      exact PostE.lst q hs .nil hp
    | cons d ds =>
      have hn : strsOf (d :: ds) = none := by cases d <;> first | rfl | (simp [intsOf] at h1)
      rw [srt_lst, hn, h1] at e
      simp only [if_pos few] at e
      cases e
      exact PostE.lst q hs (reps_ints' _) hp
def wayT (c : Cxt X W k) : Way X (fun D => TO X.prog X.w D []) (apT X) where
  ac := acumT X
  sa := setAcc_T c
  r := rOneT X
  one := one_pair c
  fin := fun {r0 H D don st z Q} hs hI hok e q => by
    obtain ⟨ks, L, rfl, h2, h3, h4, h5, h6⟩ := hI
    obtain ⟨ps, e2, few⟩ := hok
    have ep : ∀ ks : List PrA, prsOf (ks.map fun c => prV c.2) = some (ks.map (·.2)) := fun ks => by
      induction ks with
      | nil => rfl
      | cons c ks ih =>
        show (prsOf (ks.map fun c => prV c.2)).map (c.2 :: ·) = _
        rw [ih]; rfl
    rw [ep] at e2
    cases e2
    rw [List.length_map] at few
    have sq : ∀ c ∈ ks, SqP X.K H c.1 c.2 := fun c hc => by
      cases h3 c hc with
      | tup im hq =>
        cases hq with
        | cons h1 t => cases t with
          | cons h2 t2 => cases t2; cases h1; cases h2; exact im.sq
    refine ⟨D, L, ks, rfl, h2, sq, few.2, h5, h6, fun p cs hp hc he => ?_⟩
    have ez : z = .lst ((cs.map (·.2)).map prV) := by
      rw [he]
      cases ks with
      | nil => simpa [srt_lst, strsOf, srtS, srtO] using e.symm
      | cons c0 ks =>
        have h1 : strsOf ((c0 :: ks).map fun c => prV c.2) = none := rfl
        have h2 : intsOf ((c0 :: ks).map fun c => prV c.2) = none := rfl
        rw [srt_lst, h1, h2, ep] at e
        simp only [List.length_map, if_pos few] at e
        exact (Option.some.inj e).symm
    subst ez
    exact PostE.lst q hs (reps_prs fun c2 hc2 => h3 c2 (hc c2 hc2)) hp
/-- one of the three serves -/
theorem way_of {ys : List PV} {st : Sto} {z : PV} (c : Cxt X W k) (e : srtP (.lst ys) st = some z) : (wayS c).ac.ok ys ∨ (wayI c).ac.ok ys ∨ (wayT c).ac.ok ys := by
  rw [srt_lst] at e
  cases e1 : strsOf ys with
  | some cs =>
    rw [e1] at e
    simp only at e
    split at e
    · exact .inl ⟨cs, e1, by assumption⟩
    · cases e
  | none =>
    cases e2 : intsOf ys with
    | some cs =>
      rw [e1, e2] at e
      simp only at e
      split at e
      · exact .inr (.inl ⟨cs, e2, by assumption⟩)
      · cases e
    | none =>
      cases e3 : prsOf ys with
      | none => rw [e1, e2, e3] at e; cases e
      | some cs =>
        rw [e1, e2, e3] at e
        simp only at e
        split at e
        · exact .inr (.inr ⟨cs, e3, by assumption⟩)
        · cases e
/-- the three roads of a gathered and sorted set -/
theorem srt_roads (c : Cxt X W k) {R : Res (List PV)} {r : Rg} {H : Hp} {σ : L2.St} {Q : VK} {G : Prop} (h : (R.bnd fun ys st2 => optR (srtP (.lst ys) st2) st2).sat (PostE X.K r H Q) (PostX C X.K W σ r H))
    (go : ∀ {o0 : Addr → HO} {ap : AccP} (w : Way X o0 ap), R.sat (fun ys st2 => w.ac.ok ys ∧ ∃ z, srtP (.lst ys) st2 = some z ∧ PostE X.K r H Q z st2) (PostX C X.K W σ r H) → G) : G := by
  cases R with
  | bad => exact h.elim
  | exc x st => exact go (wayS c) h
  | ok ys st2 =>
    cases e : srtP (.lst ys) st2 with
    | none =>
      have h : (optR (srtP (.lst ys) st2) st2).sat (PostE X.K r H Q) (PostX C X.K W σ r H) := h
      rw [e] at h; exact h.elim
    | some z =>
      have h : (optR (srtP (.lst ys) st2) st2).sat (PostE X.K r H Q) (PostX C X.K W σ r H) := h
      rw [e] at h
      rcases way_of c e with q | q | q
      · exact go (wayS c) ⟨q, z, e, h⟩
      · exact go (wayI c) ⟨q, z, e, h⟩
      · exact go (wayT c) ⟨q, z, e, h⟩
end
end MP

/-! MP, part z4: comprehensions with two fors, sorted sets: the expressions. -/
namespace MP
open PySem PySem.Spec PyProof.Rows L2
section
variable {C : CT} {X : Cx} {W : WX} {k : Nat}
/-- what holds in every block of this comprehension -/
abbrev gB (X : Cx) (scope : Scope) (tg : Expr) : TG := fun v σ H Q => BlkP X scope fun X' => wG X' tg v σ H Q
abbrev iB (X : Cx) (scope : Scope) (tg iter : Expr) : TI := fun σ H R => BlkP X scope fun X' => wI X' tg iter σ H R
abbrev eB (X : Cx) (scope : Scope) (elt : Expr) : TE := fun σ H Q => BlkP X scope fun X' => wE X' elt σ H Q
abbrev tB (X : Cx) (scope : Scope) (ifs : List Expr) : TT := fun σ H Q => BlkP X scope fun X' => ∀ pins sh, Inv X' pins σ H sh → wpAny (model X'.prog X'.w) X'.A (tests X'.env ifs) (TP X' pins σ Q) X'.xe sh
variable {scope : Scope} {tg tg1 iter iter1 elt : Expr} {ifs : List Expr}
theorem pgB : BlkP X scope fun X' => PG X' tg (gB X scope tg) := fun s' H' D cl fp => ⟨fun pins s σ H v u Q I rv h => h s' H' D cl fp pins s u I rv⟩
theorem piB : BlkP X scope fun X' => PI X' tg iter (iB X scope tg iter) := fun s' H' D cl fp => ⟨fun pins s σ H R I h => h s' H' D cl fp pins s I⟩
theorem peB : BlkP X scope fun X' => PE X' elt (eB X scope elt) := fun s' H' D cl fp => ⟨fun pins s σ H Q I h => h s' H' D cl fp pins s I⟩
theorem ptB : BlkP X scope fun X' => PTs X' ifs (tB X scope ifs) := fun s' H' D cl fp => ⟨fun pins s σ H Q I h => h s' H' D cl fp pins s I⟩
/-- a target in every block -/
def TgtB (X : Cx) (scope : Scope) (tg : Expr) (t : RT) : Prop := BlkP X scope fun X' => ∀ (st : Sto) (r : Rg) (H1 : Hp) (s' : Env) (σ : L2.St) (v : PV) (u : V) (s1 : Env), RepE X.K r H1 s' σ → Rep X.K r H1 v u → bindT st t v s' = some s1 →
  ∀ Q : L2.St → Hp → Prop, (∀ σ1, RepE X.K r H1 s1 σ1 → (∀ vs : List Nat, (∀ i ∈ slotsT t, i ∈ vs) → wipe σ1 vs = wipe σ vs) → Q σ1 H1) → wG X' tg u σ H1 Q
theorem own_map (N : List Str) (own : List Nat) : (ownPairs N own).map (·.2) = own := by
  unfold ownPairs
  rw [List.map_map]
  exact List.map_id' own
theorem good_ssc (c : Cxt X W k) {p pos pos2 : Pos} {own : List Nat} {N : List Str} {fi : Env → Sto → Res Src} {ft : Env → Sto → Res Bool} {fe : Env → Sto → Res PV} {t : RT} (hg : Gl X "sorted") (hm : X.mg "sorted" = none)
    (hi : GoodI C X W tg iter fi) (ok : BlkOk X.N X.env.scope scope (ownPairs N own)) (hsl : ∀ i ∈ slotsT t, i ∈ own) (htg : TgtB X scope tg t) (ht : BlkP X scope fun X' => GoodTs C X' noX ifs ft) (he : BlkP X scope fun X' => GoodE C X' noX elt fe)
    (hf : ∀ x, foldedSetIterable iter X.env x = pure x) :
    GoodE C X W (.Call (.Name "sorted" p) [.SetComp elt [⟨tg, iter, ifs, 0⟩] scope pos2] [] pos) (fun s st => (fi s st).bnd fun src st1 => (calmR (comp (lcF ft fe t (wipeE s own)) src st1)).bnd fun ys st2 => optR (srtP (.lst ys) st2) st2) := by
  intro r s σ st H hE hs Q h
  dsimp only at h
  rw [← Res.bnd_assoc] at h
  refine srt_roads c h fun w h => ?_
  refine w_pe (pe_srt1 w.one hg hm (pe_sc1 w.sa c.calm c.nd pi_w ok pgB ptB peB hf) (starEach_plain rfl _ _)) ?_
  rw [own_map]
  refine good_c1 w.ac hi hsl (fun st r H1 s' σ v u s1 a b d Q q s' H' D cl fp => htg s' H' D cl fp st r H1 _ σ v u s1 a b d Q q) (fun r s σ st H a b Q q s' H' D cl fp pins sh I => ht s' H' D cl fp r s σ st H a b Q (Res.sat_mono q (fun _ _ z => z) fun _ _ z => z.elim) pins sh I)
    (fun r s σ st H a b Q q s' H' D cl fp => he s' H' D cl fp r s σ st H a b Q (Res.sat_mono q (fun _ _ z => z) fun _ _ z => z.elim)) hE hs (Fin := fun ys st2 => ∃ z, srtP (.lst ys) st2 = some z ∧ PostE X.K r H Q z st2) h fun r2 H2 D don st2 g hs2 hI _ _ hok ⟨z, e, q⟩ => ?_
  exact w.fin hs2 hI hok e (q.grow g)
theorem good_ssc2 (c : Cxt X W k) {p pos pos2 : Pos} {own own1 : List Nat} {N : List Str} {fi fi1 : Env → Sto → Res Src} {fe : Env → Sto → Res PV} {t t1 : RT} (hg : Gl X "sorted") (hm : X.mg "sorted" = none)
    (hi : GoodI C X W tg iter fi) (ok : BlkOk X.N X.env.scope scope (ownPairs N own)) (hsl : ∀ i ∈ slotsT t, i ∈ own) (hsl1 : ∀ i ∈ slotsT t1, i ∈ own1) (hv : ∀ i ∈ own1, i ∈ own) (htg : TgtB X scope tg t) (htg1 : TgtB X scope tg1 t1)
    (hi1 : BlkP X scope fun X' => GoodI C X' noX tg1 iter1 fi1) (he : BlkP X scope fun X' => GoodE C X' noX elt fe) (hf : ∀ x, foldedSetIterable iter X.env x = pure x) (hf1 : ∀ env x, foldedSetIterable iter1 env x = pure x) :
    GoodE C X W (.Call (.Name "sorted" p) [.SetComp elt [⟨tg, iter, [], 0⟩, ⟨tg1, iter1, [], 0⟩] scope pos2] [] pos) (fun s st => (fi s st).bnd fun src st1 => (calmR (comp (lcF2 fi1 fe t t1 own1 (wipeE s own)) src st1)).bnd fun ys st2 => optR (srtP (.lst ys) st2) st2) := by
  intro r s σ st H hE hs Q h
  dsimp only at h
  rw [← Res.bnd_assoc] at h
  refine srt_roads c h fun w h => ?_
  refine w_pe (pe_srt1 w.one hg hm (pe_sc2 (vs1 := own1) w.sa c.calm c.nd pi_w ok (by rw [own_map]; exact hv) pgB piB pgB peB hf hf1) (starEach_plain rfl _ _)) ?_
  rw [own_map]
  refine good_c2 w.ac hi hsl hsl1 (fun st r H1 s' σ v u s1 a b d Q q s' H' D cl fp => htg s' H' D cl fp st r H1 _ σ v u s1 a b d Q q) (fun st r H1 s' σ v u s1 a b d Q q s' H' D cl fp => htg1 s' H' D cl fp st r H1 _ σ v u s1 a b d Q q)
    (fun r s σ st H a b R q s' H' D cl fp => hi1 s' H' D cl fp r s σ st H a b R (Res.sat_mono q (fun _ _ z => z) fun _ _ z => z.elim))
    (fun r s σ st H a b Q q s' H' D cl fp => he s' H' D cl fp r s σ st H a b Q (Res.sat_mono q (fun _ _ z => z) fun _ _ z => z.elim)) hE hs (Fin := fun ys st2 => ∃ z, srtP (.lst ys) st2 = some z ∧ PostE X.K r H Q z st2) h fun r2 H2 D don st2 g hs2 hI _ _ hok ⟨z, e, q⟩ => ?_
  exact w.fin hs2 hI hok e (q.grow g)
/-! lists of two fors -/
def accL : AccP := fun D y H Nx => ∃ acc, H D = some (.lst acc) ∧ acc.length < sizeLine ∧ Nx (upd H D (.lst (acc ++ [y])))
def acumL (K : PySem.W.Frag) : Acum K (fun _ => .lst []) accL where
  I := fun r H D don => ∃ acc, H D = some (.lst acc) ∧ Reps K r H don acc
  ok := fun ys => ys.length ≤ sizeLine
  start := fun r H D => ⟨[], upd_same, .nil⟩
  grow := fun ⟨acc, h1, h2⟩ g e => ⟨acc, e.trans h1, h2.carry g⟩
  step := fun {r H D don rest y yv Nx} hok hI mD hy nx => by
    obtain ⟨acc, h1, h2⟩ := hI
    refine ⟨acc, h1, ?_, nx _ ⟨acc ++ [yv], upd_same, (h2.append (.cons hy .nil)).carry (Carry.poke mD)⟩⟩
    rw [← h2.length]
    simp at hok
    omega
theorem good_lc2 (c : Cxt X W k) {own own1 : List Nat} {N : List Str} {fi fi1 : Env → Sto → Res Src} {fe : Env → Sto → Res PV} {t t1 : RT}
    (hi : GoodI C X W tg iter fi) (hsl : ∀ i ∈ slotsT t, i ∈ own) (hsl1 : ∀ i ∈ slotsT t1, i ∈ own1) (htg : TgtB X scope tg t) (htg1 : TgtB X scope tg1 t1)
    (hi1 : BlkP X scope fun X' => GoodI C X' noX tg1 iter1 fi1) (he : BlkP X scope fun X' => GoodE C X' noX elt fe) {r : Rg} {s : Env} {σ : L2.St} {st : Sto} {H : Hp} (hE : RepE X.K r H s σ) (hs : RepS X.K r H st) {Q : VK}
    (h : ((fi s st).bnd fun src st1 => (calmR (comp (lcF2 fi1 fe t t1 own1 (wipeE s own)) src st1)).bnd fun ys st2 => if ys.length ≤ sizeLine then .ok (.lst ys) st2 else .bad).sat (PostE X.K r H Q) (PostX C X.K W σ r H)) :
    tLc2 (wI X tg iter) (gB X scope tg) tYes (iB X scope tg1 iter1) (gB X scope tg1) tYes (eB X scope elt) ((ownPairs N own).map (·.2)) own1 σ H Q := by
  rw [own_map]
  rw [← Res.bnd_assoc] at h
  show tC2 (fun _ => .lst []) accL _ _ _ _ _ _ _ _ _ σ H Q
  have h2 : ((fi s st).bnd fun src st1 => calmR (comp (lcF2 fi1 fe t t1 own1 (wipeE s own)) src st1)).sat (fun ys st2 => (acumL X.K).ok ys ∧ PostE X.K r H Q (.lst ys) st2) (PostX C X.K W σ r H) := by
    refine Res.sat_mono ((Res.sat_bnd _ _ _ _).mp h) (fun ys st2 q => ?_) fun _ _ q => q
    split at q
    · exact ⟨by assumption, q⟩
    · exact q.elim
  refine good_c2 (acumL X.K) hi hsl hsl1 (fun st r H1 s' σ v u s1 a b d Q q s' H' D cl fp => htg s' H' D cl fp st r H1 _ σ v u s1 a b d Q q) (fun st r H1 s' σ v u s1 a b d Q q s' H' D cl fp => htg1 s' H' D cl fp st r H1 _ σ v u s1 a b d Q q)
    (fun r s σ st H a b R q s' H' D cl fp => hi1 s' H' D cl fp r s σ st H a b R (Res.sat_mono q (fun _ _ z => z) fun _ _ z => z.elim))
    (fun r s σ st H a b Q q s' H' D cl fp => he s' H' D cl fp r s σ st H a b Q (Res.sat_mono q (fun _ _ z => z) fun _ _ z => z.elim)) hE hs (Fin := fun ys st2 => PostE X.K r H Q (.lst ys) st2) h2 fun r2 H2 D don st2 g hs2 hI hD _ hok q => ?_
  obtain ⟨acc, h1, h3⟩ := hI
  exact q r2 H2 (.ref D) g hs2 (.lst (.inl ⟨.inl h1, hD⟩) h3)
end
end MP

/-! MP, part r: dicts of the module, read by texts. -/
namespace MP
open PySem PySem.Spec PyProof.Rows L2

/-- a dict of the module by its text keys -/
def DctK (K : PySem.W.Frag) (w : World) (mg : Str → Option Value) (x : Str) (kvs : List (List Nat × PV)) : Prop :=
  ∃ d es n, mg x = some (.ref d) ∧ KDict K w d es n ∧ ∀ z : List Nat, match kvs.lookup z with
    | some v => ∃ u V, PySem.W.nsIn K d ⟨z.toArray⟩ = some (some u) ∧ RelV V u ∧ ∀ r H, Rep K r H v V
    | none => PySem.W.nsIn K d ⟨z.toArray⟩ = some none
section
variable {C : CT} {X : Cx} {W : WX} {k : Nat} {e : Expr} {p pos : Pos} {f : Env → Sto → Res PV}
theorem good_dsub {x : Str} {kvs : List (List Nat × PV)} (hg : Gl X x) (hd : (x == ("__debug__" : Str)) = false) (D : DctK X.K X.w X.mg x kvs) (g1 : GoodE C X W e f) (hp : PlainIx e) :
    GoodE C X W (.Subscript (.Name x p) e pos) (fun s st => (f s st).bnd fun x st1 => match x with
      | .str z => optR (kvs.lookup z) st1
      | _ => .bad) := by
  intro r s σ st H he hs Q h
  obtain ⟨d, es, n, hm, hk, hz⟩ := D
  refine w_pe (pe_ix ix_kdict (pe_glob (v := .ref d) hg hm rfl hd) pe_w hp) ?_
  refine g1.use he hs (QB := fun r H => PostE X.K r H Q) h (fun g q => q.grow g) fun r1 H1 y u st1 gr1 he1 hs1 hu h1 => ?_
  cases hu <;> try exact h1.elim
  rename_i z
  dsimp only at h1
  have q := hz z
  cases hl : kvs.lookup z with
  | none => rw [hl] at h1; exact h1.elim
  | some v =>
    rw [hl] at h1 q
    obtain ⟨u0, V, e1, e2, e3⟩ := q
    exact ⟨d, ⟨z.toArray⟩, V, rfl, rfl, ⟨es, n, u0, hk.at_, hk.lit, e1, e2⟩, h1 r1 H1 V (Grow.refl _ _) hs1 (e3 r1 H1)⟩
theorem isSome_of {K : PySem.W.Frag} {d : Addr} {z : List Nat} {kvs : List (List Nat × PV)} (q : match kvs.lookup z with
    | some v => ∃ u V, PySem.W.nsIn K d ⟨z.toArray⟩ = some (some u) ∧ RelV V u ∧ ∀ r H, Rep K r H v V
    | none => PySem.W.nsIn K d ⟨z.toArray⟩ = some none) : ∃ o, PySem.W.nsIn K d ⟨z.toArray⟩ = some o ∧ o.isSome = (kvs.lookup z).isSome := by
  cases hl : kvs.lookup z with
  | none => rw [hl] at q; exact ⟨none, q, rfl⟩
  | some v =>
    rw [hl] at q
    obtain ⟨u0, V, e1, e2, e3⟩ := q
    exact ⟨some u0, e1, rfl⟩
def rDin (K : PySem.W.Frag) (d : Addr) (neg : Bool) : R2 := fun x y H Q => ∃ (z : Str) (r : Option Value), x = .str z ∧ y = .ref d ∧ PySem.W.nsIn K d z = some r ∧ Q (.bl (neg != r.isSome)) H
theorem op_din {d : Addr} {es : Array DictEntry} {n : Nat} (D : KDict X.K X.w d es n) (neg : Bool) : OpR X (compareOp (if neg then .NotIn else .In)) (rDin X.K d neg) := by
  cases neg with
  | true =>
    intro pins s σ H x y v u Q I rx ry ⟨z, r, h1, h2, h3, q⟩
    exact op_notIn_kd D pins s σ H x y v u Q I rx ry ⟨z, r, h1, h2, h3, by simpa using q⟩
  | false =>
    intro pins s σ H x y v u Q I rx ry ⟨z, r, h1, h2, h3, q⟩
    exact op_in_kd D pins s σ H x y v u Q I rx ry ⟨z, r, h1, h2, h3, by simpa using q⟩
theorem name_marks {op : CmpOp} {x : Str} : behindInMarks op (.Name x p) = false := rfl
theorem good_din {x : Str} {kvs : List (List Nat × PV)} (neg : Bool) (hg : Gl X x) (hd : (x == ("__debug__" : Str)) = false) (D : DctK X.K X.w X.mg x kvs) (g1 : GoodE C X W e f) :
    GoodE C X W (.Compare e [if neg then .NotIn else .In] [.Name x p] pos) (fun s st => (f s st).bnd fun x st1 => match x with
      | .str z => .ok (.bl (neg != (kvs.lookup z).isSome)) st1
      | _ => .bad) := by
  intro r s σ st H he hs Q h
  obtain ⟨d, es, n, hm, hk, hz⟩ := D
  refine w_pe (pe_cmpR (op_din hk neg) pe_w (pe_glob (v := .ref d) hg hm rfl hd) name_marks) ?_
  refine g1.use he hs (QB := fun r H => PostE X.K r H Q) h (fun g q => q.grow g) fun r1 H1 y u st1 gr1 he1 hs1 hu h1 => ?_
  cases hu <;> try exact h1.elim
  rename_i z
  obtain ⟨o, e1, e2⟩ := isSome_of (hz z)
  refine ⟨⟨z.toArray⟩, o, rfl, rfl, e1, ?_⟩
  rw [e2]
  exact h1 r1 H1 _ (Grow.refl _ _) hs1 (.bl _)
theorem goodT_din {x : Str} {kvs : List (List Nat × PV)} (neg : Bool) (hg : Gl X x) (hd : (x == ("__debug__" : Str)) = false) (D : DctK X.K X.w X.mg x kvs) (g1 : GoodE C X W e f) :
    GoodT C X W (.Compare e [if neg then .NotIn else .In] [.Name x p] pos) (fun s st => ((f s st).bnd fun x st1 => match x with
      | .str z => .ok (.bl (neg != (kvs.lookup z).isSome)) st1
      | _ => .bad).bnd fun x st1 => optR (truP st1 x) st1) := by
  intro r s σ st H he hs Q h
  obtain ⟨d, es, n, hm, hk, hz⟩ := D
  refine w_pt (pt_cmpR (op_din hk neg) pe_w (pe_glob (v := .ref d) hg hm rfl hd) name_marks) ?_
  dsimp only at h
  rw [Res.bnd_assoc] at h
  refine g1.use he hs (QB := fun r H => PostT X.K r H Q) h (fun g q => q.grow g) fun r1 H1 y u st1 gr1 he1 hs1 hu h1 => ?_
  cases hu <;> try exact h1.elim
  rename_i z
  obtain ⟨o, e1, e2⟩ := isSome_of (hz z)
  refine ⟨⟨z.toArray⟩, o, rfl, rfl, e1, _, rfl, ?_⟩
  rw [e2]
  exact h1 r1 H1 (Grow.refl _ _) hs1
end
end MP

/-! MP, part r2: find, rstrip, get; dicts that are told; a slice as a place; calls with defaults. -/
namespace MP
open PySem PySem.Spec PyProof.Rows L2
section
variable {C : CT} {X : Cx} {W : WX} {k : Nat} {e o : Expr} {es : List Expr} {pos ap cp : Pos} {f fo : Env → Sto → Res PV} {g : Env → Sto → Res (List PV)}
theorem good_find (hl : (ap.endLine == cp.line) = true) (hc : isCall0 o = false) (go : GoodE C X W o fo) (gl : GoodL C X W [e] g) (hs' : isStar e = false) :
    GoodE C X W (.Call (.Attribute o "find" ap) [e] [] cp) (fun s st => (fo s st).bnd fun x st1 => if mOk .find x st1 then (g s st1).bnd fun xs st2 => mthP .find x xs st2 else .bad) := by
  intro r s σ st H he hs Q h
  refine w_pe (pe_bm PySem.F.plainAttrs_str PySem.F.slot_str_find PySem.F.type_str_find mt_find pe_w pa_w (base_plain hc) (by rw [starEach_plain hs']; rfl) hl (starEach_plain hs' _ _) rfl) ?_
  refine go.use he hs (QB := fun r H => PostE X.K r H Q) h (fun g q => q.grow g) fun r1 H1 x u st1 gr1 he1 hs1 hu h1 => ?_
  cases hu with
  | str z =>
    refine ⟨rfl, ?_⟩
    have h1 : ((g s st1).bnd fun xs st2 => mthP .find (.str z) xs st2).sat (PostE X.K r1 H1 Q) (PostX C X.K W σ r1 H1) := h1
    refine gl.use he1 hs1 (QB := fun r H => PostE X.K r H Q) h1 (fun g q => q.grow g) fun r2 H2 xs us st2 gr2 he2 hs2 hus h2 => ?_
    cases hus with
    | nil => exact h2.elim
    | cons ha hb =>
      cases hb with
      | cons _ _ => cases ha <;> exact h2.elim
      | nil =>
        cases ha with
        | str y => exact ⟨_, _, rfl, rfl, PostE.val h2 hs2 (.int _)⟩
        | _ => exact h2.elim
  | _ => exact h1.elim
theorem good_rstrip (hl : (ap.endLine == cp.line) = true) (hc : isCall0 o = false) (go : GoodE C X W o fo) (gl : GoodL C X W [e] g) (hs' : isStar e = false) :
    GoodE C X W (.Call (.Attribute o "rstrip" ap) [e] [] cp) (fun s st => (fo s st).bnd fun x st1 => if mOk .rstrip x st1 then (g s st1).bnd fun xs st2 => mthP .rstrip x xs st2 else .bad) := by
  intro r s σ st H he hs Q h
  refine w_pe (pe_bm PySem.F.plainAttrs_str PySem.F.slot_str_rstrip PySem.F.type_str_rstrip mt_rstripChars pe_w pa_w (base_plain hc) (by rw [starEach_plain hs']; rfl) hl (starEach_plain hs' _ _) rfl) ?_
  refine go.use he hs (QB := fun r H => PostE X.K r H Q) h (fun g q => q.grow g) fun r1 H1 x u st1 gr1 he1 hs1 hu h1 => ?_
  cases hu with
  | str z =>
    refine ⟨rfl, ?_⟩
    have h1 : ((g s st1).bnd fun xs st2 => mthP .rstrip (.str z) xs st2).sat (PostE X.K r1 H1 Q) (PostX C X.K W σ r1 H1) := h1
    refine gl.use he1 hs1 (QB := fun r H => PostE X.K r H Q) h1 (fun g q => q.grow g) fun r2 H2 xs us st2 gr2 he2 hs2 hus h2 => ?_
    cases hus with
    | nil => exact h2.elim
    | cons ha hb =>
      cases hb with
      | cons _ _ => cases ha <;> exact h2.elim
      | nil =>
        cases ha with
        | str y =>
          simp only [mthP] at h2
          split at h2
          · rename_i hz
            have q := PostE.val h2 hs2 (.str _)
            rw [cps_str] at q
            exact ⟨_, _, rfl, rfl, by rw [lenStr]; exact hz, q⟩
          · exact h2.elim
        | _ => exact h2.elim
  | _ => exact h1.elim
/-! ### dicts that nobody writes -/
theorem kAtom_rep {K : PySem.W.Frag} {r : Rg} {H : Hp} {v : PV} {u : V} (e : kAtom v = some u) : Rep K r H v u := by
  cases v <;> simp only [kAtom, Option.some.injEq, reduceCtorEq] at e <;> subst e
  · exact .non
  · exact .bl _
  · exact .int _
  · exact .str _
theorem dKs_keys : ∀ {xs : List PV} {ks : List (L2.Key × V)}, dKs xs = some ks → ∀ z : List Nat, match dlook z xs with
    | some v => ∃ u, valV ks (.inr ⟨z.toArray⟩) = some u ∧ kAtom v = some u
    | none => valV ks (.inr ⟨z.toArray⟩) = none
  | [], _, e, z => by
    simp only [dKs, Option.some.injEq] at e
    subst e
    rfl
  | .tup [.str k, v] :: xs, ks, e, z => by
    simp only [dKs] at e
    obtain ⟨u, e1, e2⟩ := Option.bind_eq_some_iff.mp e
    obtain ⟨ks', e3, rfl⟩ := Option.map_eq_some_iff.mp e2
    have ih := dKs_keys e3 z
    simp only [dlook]
    by_cases q : k = z
    · subst q
      rw [if_pos rfl]
      exact ⟨u, valV_pos rfl, e1⟩
    · rw [if_neg q]
      have hn : ¬ (Sum.inr (⟨k.toArray⟩ : Str) : L2.Key) = .inr ⟨z.toArray⟩ := fun h => q (by simpa using h)
      rw [valV_neg hn]
      exact ih
theorem isD_of {H : Hp} {a : Addr} {ks : List (L2.Key × V)} (h : Rd H a (.dK ks)) : IsD H a := .inl ⟨ks, h⟩
theorem good_get (c : Cxt X W k) {e1 e2 : Expr} (hl : (ap.endLine == cp.line) = true) (hc : isCall0 o = false) (go : GoodE C X W o fo) (f1 f2 : Env → Sto → Res PV) (g1 : GoodE C X W e1 f1) (g2 : GoodE C X W e2 f2) (s1' : isStar e1 = false) (s2' : isStar e2 = false) :
    GoodE C X W (.Call (.Attribute o "get" ap) [e1, e2] [] cp) (fun s st => (fo s st).bnd fun x st1 => if mOk .get x st1 then ((f1 s st1).bnd fun y st2 => (f2 s st2).bnd fun z st3 => (.ok [y, z] st3 : Res (List PV))).bnd fun xs st2 => mthP .get x xs st2 else .bad) := by
  intro r s σ st H he hs Q h
  refine w_pe (pe_dget2 (by have := c.room.un; omega) pe_w pe_w pe_w ⟨base_plain hc, by rw [starEach_plain s1', starEach_plain s2']; rfl, hl, by rw [starEach_plain s1', starEach_plain s2']; rfl⟩) ?_
  refine go.use he hs (QB := fun r H => PostE X.K r H Q) h (fun g q => q.grow g) fun r1 H1 x u st1 gr1 he1 hs1 hu h1 => ?_
  cases hu with
  | dct hk hd hn =>
    rename_i a xs ks
    refine ⟨a, rfl, isD_of hd, ?_⟩
    have h1 : (((f1 s st1).bnd fun y st2 => (f2 s st2).bnd fun z st3 => (.ok [y, z] st3 : Res (List PV))).bnd fun ys st2 => mthP .get (.dct xs) ys st2).sat (PostE X.K r1 H1 Q) (PostX C X.K W σ r1 H1) := h1
    rw [Res.bnd_assoc] at h1
    refine g1.use he1 hs1 (QB := fun r H => PostE X.K r H Q) h1 (fun g q => q.grow g) fun r2 H2 y v st2 gr2 he2 hs2 hv h2 => ?_
    rw [Res.bnd_assoc] at h2
    refine g2.use he2 hs2 (QB := fun r H => PostE X.K r H Q) h2 (fun g q => q.grow g) fun r3 H3 z w st3 gr3 he3 hs3 hw h3 => ?_
    have hv3 := hv.grow gr3
    have hd3 := (gr2.trans gr3).rd hd hn
    cases hv with
    | str y =>
      have q := dKs_keys hk y
      have h3 : (.ok ((dlook y xs).getD z) st3 : Res PV).sat (PostE X.K r3 H3 Q) (PostX C X.K W σ r3 H3) := h3
      cases hq : dlook y xs with
      | none =>
        rw [hq] at q h3
        exact ⟨none, .inl ⟨ks, .inr ⟨y.toArray⟩, hd3.1, rfl, q.symm⟩, h3 r3 H3 w (Grow.refl _ _) hs3 hw⟩
      | some v0 =>
        rw [hq] at q h3
        obtain ⟨u0, q1, q2⟩ := q
        exact ⟨some u0, .inl ⟨ks, .inr ⟨y.toArray⟩, hd3.1, rfl, q1.symm⟩, h3 r3 H3 u0 (Grow.refl _ _) hs3 (kAtom_rep q2)⟩
    | _ => exact h3.elim
  | _ => exact h1.elim
end
end MP

/-! MP, part r3: dicts that are told; a slice as a place; calls with defaults; range with a step. -/
namespace MP
open PySem PySem.Spec PyProof.Rows L2
section
variable {C : CT} {X : Cx} {W : WX} {k : Nat} {e o : Expr} {es : List Expr} {pos ap cp : Pos} {f fo : Env → Sto → Res PV} {g : Env → Sto → Res (List PV)}
def kvV (p : List Nat × PV) : L2.Key × V := (.inr ⟨p.1.toArray⟩, (kAtom p.2).getD .non)
theorem pps_kv : ∀ {kvs : List (List Nat × PV)} {ks : List (Option Expr)} {vs : List Expr}, chkKv kvs ks vs = true → ∃ trs, PPs X pos ks vs trs ∧ (∀ σ H Q, Q (kvs.map fun p => (kV (kvV p).1, (kvV p).2)) H → tPairs trs σ H Q) ∧
    ks.all (·.isSome) = true ∧ ks.length = vs.length ∧ ks.length = kvs.length ∧ dKs (kvs.map fun p => .tup [.str p.1, p.2]) = some (kvs.map kvV)
  | [], [], [], _ => ⟨[], pps_nil, fun σ H Q h => h, rfl, rfl, rfl, rfl⟩
  | (k, .str v) :: kvs, some (.Constant (.str a) n1 p1) :: ks, .Constant (.str b) n2 p2 :: vs, h => by
    simp only [chkKv, Bool.and_eq_true, decide_eq_true_eq] at h
    obtain ⟨⟨rfl, rfl⟩, h3⟩ := h
    obtain ⟨trs, h4, h5, h6, h7, h8, h9⟩ := pps_kv h3
    refine ⟨_, pps_cons pe_str pe_str h4, fun σ H Q h => h5 σ H _ h, h6, by simp [h7], by simp [h8], ?_⟩
    simp only [List.map_cons, dKs, kAtom, Option.bind_some, h9, Option.map_some]
    rfl
  | (k, .int v) :: kvs, some (.Constant (.str a) n1 p1) :: ks, .Constant (.int b) n2 p2 :: vs, h => by
    simp only [chkKv, Bool.and_eq_true, decide_eq_true_eq] at h
    obtain ⟨⟨rfl, rfl⟩, h3⟩ := h
    obtain ⟨trs, h4, h5, h6, h7, h8, h9⟩ := pps_kv h3
    refine ⟨_, pps_cons pe_str pe_int h4, fun σ H Q h => h5 σ H _ h, h6, by simp [h7], by simp [h8], ?_⟩
    simp only [List.map_cons, dKs, kAtom, Option.bind_some, h9, Option.map_some]
    rfl
theorem valV_out {ks : List (L2.Key × V)} {k : L2.Key} (h : k ∉ ks.map (·.1)) : valV ks k = none := by
  cases q : valV ks k with
  | none => rfl
  | some v => exact absurd (valV_in q) h
theorem merge_nodup : ∀ {more acc : List (L2.Key × V)}, ((acc ++ more).map (·.1)).Nodup → mergeK acc more = acc ++ more
  | [], acc, _ => by simp [mergeK]
  | kv :: more, acc, h => by
    have h1 : kv.1 ∉ acc.map (·.1) := by
      rw [List.map_append, List.map_cons, List.nodup_append] at h
      intro m
      exact h.2.2 _ m _ List.mem_cons_self rfl
    show mergeK (putK acc kv.1 kv.2) more = _
    rw [putK_new _ (valV_out h1), merge_nodup (by simpa using h)]
    simp
theorem kv_nodup : ∀ {kvs : List (List Nat × PV)}, (kvs.map (·.1)).Nodup → ((kvs.map kvV).map (·.1)).Nodup := by
  intro kvs h
  rw [List.map_map]
  have e : (kvs.map ((fun x => x.1) ∘ kvV)) = (kvs.map (·.1)).map fun z => (Sum.inr (⟨z.toArray⟩ : Str) : L2.Key) := by rw [List.map_map]; rfl
  rw [e]
  unfold List.Nodup at h ⊢
  rw [List.pairwise_map]
  exact h.imp fun hne he => hne (by simpa using he)
theorem good_dlit {kvs : List (List Nat × PV)} {ks : List (Option Expr)} {vs : List Expr} (h0 : kvs ≠ []) (h15 : kvs.length ≤ 15) (hn : (kvs.map (·.1)).Nodup) (hk : chkKv kvs ks vs = true) :
    GoodE C X W (.Dict ks vs pos) (fun _ st => .ok (.dct (kvs.map fun p => .tup [.str p.1, p.2])) st) := by
  intro r s σ st H he hs Q h
  obtain ⟨trs, h4, h5, h6, h7, h8, h9⟩ := pps_kv (X := X) (pos := pos) hk
  refine w_pe (pe_disp h4 h6 h7 (fun z => h0 (List.length_eq_zero_iff.mp (by rw [← h8, z]; rfl))) (by rw [h8]; exact h15)) fun p hp => h5 _ _ _ ⟨upd_same, kvs.map kvV, ?_, by rw [List.length_map]; exact h15, ?_⟩
  · rw [List.map_map]; rfl
  · rw [merge_nodup (acc := []) (by rw [List.nil_append]; exact kv_nodup hn), List.nil_append, upd_upd]
    exact h r _ _ (Grow.fresh hs hp) (hs.fresh hp) (.dct h9 (.inl upd_same) (hs.notin hp))
/-! ### a slice as a place -/
theorem good_slcN {lo hi : Option Expr} {p : Pos} {fl fh : Env → Sto → Res (Option Int)} (g1 : GoodE C X W e f) (g2 : GoodP C X W lo fl) (g3 : GoodP C X W hi fh) :
    GoodE C X W (.Subscript e (.Slice lo hi none p) pos) (fun s st => (f s st).bnd fun x st1 => (fl s st1).bnd fun l st2 => (fh s st2).bnd fun h st3 => newR (sliceP x l h st3) st3) := by
  intro r s σ st H he hs Q h
  refine w_pe (pe_slice sl_list pe_w po_w po_w) (g1.use he hs (QB := fun r H => PostE X.K r H Q) h (fun g q => q.grow g) fun r1 H1 x u st1 gr1 he1 hs1 hu h1 => ?_)
  refine g2 r1 s σ st1 H1 he1 hs1 _ (Res.sat_mono ((Res.sat_bnd _ _ _ _).mp h1) (fun l st2 hl r2 H2 gr2 hs2 => ?_) fun _ _ q => q)
  refine g3 r2 s σ st2 H2 (he1.grow gr2) hs2 _ (Res.sat_mono ((Res.sat_bnd _ _ _ _).mp hl) (fun j st3 hz r3 H3 gr3 hs3 => ?_) fun _ _ q => q.grow gr2)
  have hu3 := (hu.grow gr2).grow gr3
  cases q : sliceP x l j st3 with
  | none => rw [q] at hz; exact hz.elim
  | some z =>
    rw [q] at hz
    simp only [sliceP] at q
    split at q
    · split at q
      · cases q; exact hz.elim
      · cases q
    · split at q
      · rename_i xs h5
        cases q
        obtain ⟨a, vs, rfl, hxs, hq⟩ := seqOf_rep hs3 hu3 h5
        exact ⟨a, vs, rfl, by simpa using hq, fun p' hp' => PostE.sto (PostE.grow (gr2.trans gr3) hz) hs3 (hxs.cut l j) hp'⟩
      · cases q; exact hz.elim
      · cases q
/-! ### calls with defaults -/
def CallOkD (C : CT) (P : Program) (w : World) (K : PySem.W.Frag) (mg : Str → Option Value) (base : Heap) (k : Nat) (x : Str) (ds : List PV) (m : List PV → Sto → Res PV) : Prop :=
  ∃ fa fd ps us Vs, mg x = some (.ref fa) ∧ PySem.W.keepIn K (.ref fa) = true ∧ Binds K fd ps us ∧ Vals Vs us ∧ (∀ r H, Reps K r H ds Vs) ∧ (∀ args st, args.length ≠ ps.length → m args st = .bad) ∧ FnG P w K mg base k fa fd ps (spOf C K ps.length m)
theorem good_calld (c : Cxt X W k) {x : Str} {p : Pos} {ds : List PV} {m : List PV → Sto → Res PV} (hg : Gl X x) (hd : (x == ("__debug__" : Str)) = false) (ok : CallOkD C X.prog X.w X.K X.mg X.base k x ds m) (gl : GoodL C X W (e :: es) g)
    (hp : (e :: es).all (fun e => !isStar e) = true) : GoodE C X W (.Call (.Name x p) (e :: es) [] pos) (fun s st => (g s st).bnd fun xs st1 => m (xs ++ ds) st1) := by
  intro r s σ st H he hs Q h pins sh I
  obtain ⟨fa, fd, ps, us0, Vs, hm, hk, hb, hV, hD, har, F⟩ := ok
  dsimp only at h
  refine wpAny_Call_Name_kw (ld_glob I hg hm ?_ hd)
  have go : ∀ us s1, AP X pins σ (fun vs H1 => spOf C X.K ps.length m (vs ++ Vs) H1 Q fun cls d H' => W cls d σ H') us s1 → wpAny (model X.prog X.w) X.A (call (.ref fa) us) (EP X pins σ Q) X.xe s1 := by
    rintro us s1 ⟨vs, H1, I1, rv, hsp⟩
    have rv2 : Vals (vs ++ Vs) (us ++ us0) := rv.append hV
    have hl2 : (us ++ us0).length = ps.length := by rw [← rv2.length]; exact F.len _ _ _ _ hsp
    refine wpAny_call (codeAny_mono (F.run X.A X.stack s1 H1 ⟨us, []⟩ (us ++ us0) (vs ++ Vs) Q _ c.room c.grd I1.env0 (hb s1 us I1.kIn hl2) rv2 hsp) fun rr s' hq => ?_)
    cases rr with
    | error e => exact c.takes _ _ (XE.of_call I1 (fun _ _ _ z => z) hq)
    | ok fl =>
      cases fl with
      | ret u => exact I1.after hq
      | next => exact False.elim hq
      | brk => exact False.elim hq
      | cont => exact False.elim hq
  have sp : ∀ {r1 H1 xs vs st1}, Grow r H r1 H1 → RepS X.K r1 H1 st1 → Reps X.K r1 H1 xs vs → (m (xs ++ ds) st1).sat (PostE X.K r H Q) (PostX C X.K W σ r H) → spOf C X.K ps.length m (vs ++ Vs) H1 Q fun cls d H' => W cls d σ H' := fun {r1 H1 xs vs st1} g1 hs1 hu h1 => by
    have hu2 := hu.append (hD r1 H1)
    refine ⟨?_, r1, xs ++ ds, st1, hu2, hs1, Res.sat_mono h1 (fun v st2 hv => PostE.grow g1 hv) fun x st2 hx => PostX.grow g1 hx⟩
    rw [← hu2.length]
    exact Classical.byContradiction fun z => by rw [har _ _ z] at h1; exact h1
  rw [List.all_cons, Bool.and_eq_true] at hp
  have args : wA X (e :: es) σ H fun vs H1 => spOf C X.K ps.length m (vs ++ Vs) H1 Q fun cls d H' => W cls d σ H' := by
    refine gl r s σ st H he hs _ (Res.sat_mono ((Res.sat_bnd _ _ _ _).mp h) (fun xs st1 hx r1 H1 u g1 hs1 hu => sp g1 hs1 hu hx) fun _ _ q => q)
  refine PySem.W.callWith_K (h₀ := X.base) I.ok.mod.kin hk (thn (args pos pins sh I) fun us s1 q => ?_) (starEach_plain (by simpa using hp.1) _ _) (any_plain hp.2)
  obtain ⟨vs, H1, I1, rv, hq⟩ := q
  exact ⟨I1.kIn, go us s1 ⟨vs, H1, I1, rv, hq⟩⟩
/-! ### range with a step -/
theorem rngC_length (c : Int) : ∀ (n : Nat) (lo : Int), (rngC lo c n).length = n
  | 0, _ => rfl
  | n + 1, lo => by simp [rngC, rngC_length c n]
theorem rngC_get (c : Int) : ∀ (n : Nat) (lo : Int) (i : Nat), i < n → (rngC lo c n)[i]? = some (.int (lo + (i : Nat) * c))
  | 0, _, _, h => absurd h (Nat.not_lt_zero _)
  | n + 1, lo, 0, _ => by simp [rngC]
  | n + 1, lo, i + 1, h => by
    rw [rngC, List.getElem?_cons_succ, rngC_get c n (lo + c) i (by omega)]
    have : lo + c + (i : Int) * c = lo + ((i + 1 : Nat) : Int) * c := by
      rw [Int.natCast_add, Int.add_mul]; simp; omega
    rw [this]
theorem walk_rngC {K r H} (lo c : Int) (n : Nat) : WalkI K r H (Itc lo c n) (rngC lo c n) := by
  intro i r1 H1 st g hs
  refine ⟨fun x hx => ?_, fun e => by rw [rngC_length] at e; exact Nat.le_of_eq e⟩
  have hl : i < n := by
    have := (List.getElem?_eq_some_iff.mp hx).1
    rwa [rngC_length] at this
  rw [rngC_get _ _ _ _ hl] at hx
  cases hx
  refine ⟨hl, fun u H' y => ?_⟩
  obtain ⟨rfl, rfl⟩ := y
  exact ⟨Grow.refl _ _, hs, .int _⟩
theorem rgC_up {i j c : Int} (h1 : -(2 ^ 61) ≤ i) (h2 : i < 2 ^ 61) (h3 : -(2 ^ 61) ≤ j) (h4 : j < 2 ^ 61) (h5 : 0 < c) (h6 : c < 1073741824) : RgC i j c (if i < j then (j - i - 1) / c + 1 else 0).toNat := by
  have e : Builtin.Range.rangeSize i j c = if i < j then (j - i - 1) / c + 1 else 0 := by
    unfold Builtin.Range.rangeSize
    rw [if_pos h5]
  have d0 : i < j → 0 ≤ (j - i - 1) / c := fun h => Int.ediv_nonneg (by omega) (by omega)
  have d1 : i < j → (j - i - 1) / c * c ≤ j - i - 1 := fun h => Int.ediv_mul_le _ (by omega)
  have d2 : i < j → (j - i - 1) / c ≤ j - i - 1 := fun h => Int.ediv_le_self _ (by omega)
  refine ⟨by omega, by omega, ?_, ?_⟩
  · unfold Builtin.Range.small
    rw [e]
    generalize (j - i - 1) / c = q at d0 d1 d2 ⊢
    simp only [Builtin.Range.rangeFitsLong, Bool.and_eq_true, Bool.or_eq_true, decide_eq_true_eq, beq_iff_eq, h5, if_true]
    split
    · rename_i hlt
      have := d0 hlt
      have := d2 hlt
      clear d0 d1 d2
      omega
    · omega
  · rw [e]
    split
    · rename_i h
      have := d0 h
      omega
    · rfl
theorem good_irng3 {tg e1 e2 e3 : Expr} {f1 f2 f3 : Env → Sto → Res PV} {p : Pos} (hg : Gl X "range") (hm : X.mg "range" = none) (g1 : GoodE C X W e1 f1) (g2 : GoodE C X W e2 f2) (g3 : GoodE C X W e3 f3) (hs1' : isStar e1 = false) (hs2' : isStar e2 = false) (hs3' : isStar e3 = false) :
    GoodI C X W tg (.Call (.Name "range" p) [e1, e2, e3] [] pos) (fun s st => (f1 s st).bnd fun x st1 => (f2 s st1).bnd fun y st2 => (f3 s st2).bnd fun z st3 => match x, y, z with
    | .int m, .int n, .int k => if -(2 ^ 61) ≤ m ∧ m < 2 ^ 61 ∧ -(2 ^ 61) ≤ n ∧ n < 2 ^ 61 ∧ 0 < k ∧ k < 1073741824 then .ok (.its (rngC m k (if m < n then (n - m - 1) / k + 1 else 0).toNat)) st3 else .bad
    | _, _, _ => .bad) := by
  intro r s σ st H he hs R h
  refine w_pi (pi_range3 hg hm (pa_cons pe_w (pa_cons pe_w (pa_cons pe_w pa_nil (starEach_plain hs3' _ _)) (starEach_plain hs2' _ _)) (starEach_plain hs1' _ _)) (starEach_plain hs1' _ _) (by rw [starEach_plain hs2', starEach_plain hs3']; rfl)) ?_
  refine g1.use he hs (QB := PostI X.K R) h (fun g q => q.grow g) fun r1 H1 x u st1 gr1 he1 hs1 hu h1 => ?_
  refine g2.use he1 hs1 (QB := PostI X.K R) h1 (fun g q => q.grow g) fun r2 H2 y w st2 gr2 he2 hs2 hw h2 => ?_
  refine g3.use he2 hs2 (QB := PostI X.K R) h2 (fun g q => q.grow g) fun r3 H3 z t st3 gr3 he3 hs3 ht h3 => ?_
  cases hu with
  | int m =>
    cases hw with
    | int n =>
      cases ht with
      | int k' =>
        dsimp only at h3
        split at h3
        · rename_i hn
          exact ⟨m, n, k', _, rfl, rgC_up hn.1 hn.2.1 hn.2.2.1 hn.2.2.2.1 hn.2.2.2.2.1 hn.2.2.2.2.2, h3 r3 H3 _ (Grow.refl _ _) hs3 (walk_rngC m k' _)⟩
        · exact h3.elim
      | _ => exact h3.elim
    | _ => cases ht <;> exact h3.elim
  | _ => cases hw <;> cases ht <;> exact h3.elim
end
end MP

/-! MP, part m: a checked expression gives what the evaluator gives. -/
namespace MP
open PySem PySem.Spec PyProof.Rows L2

/-- what a text needs of the module -/
def Meet (C : CT) (T : Tab) (c : KC) (P : Program) (w : World) (K : PySem.W.Frag) (mg : Str → Option Value) (base : Heap) (k : Nat) : Need → Prop
  | .glo x v => ∃ u V, mg (Str.ofString x) = some u ∧ RelV V u ∧ ∀ r H, Rep K r H v V
  | .call f => CallOk C P w K mg base k (Str.ofString (c.nm f)) (T f)
  | .calld f ds => CallOkD C P w K mg base k (Str.ofString (c.nm f)) ds (T f)
  | .free x => mg (Str.ofString x) = none
  | .dct x kvs => DctK K w mg (Str.ofString x) kvs

structure SE (C : CT) (T : Tab) (X : Cx) (W : WX) (re : RE) (x : Expr) : Prop where
  e : GoodE C X W x (evE T re)
  t : GoodT C X W x (fun s st => (evE T re s st).bnd fun v st1 => optR (truP st1 v) st1)
  w : (∃ op vs p, x = .BoolOp op vs p) → GoodW C X W x (fun s st => (evE T re s st).bnd fun v st1 => optR (truP st1 v) st1)
theorem SE.plain {C T X W e x} (g : GoodE C X W x (evE T e)) (hp : ∀ whole, isTrue x X.env whole = (do let v ← whole; standAt x.pos; holding [v] (truthy v))) (hn : ∀ op vs p, x ≠ .BoolOp op vs p) : SE C T X W e x :=
  ⟨g, goodT_plain g hp, fun ⟨op, vs, p, h⟩ => absurd h (hn op vs p)⟩

theorem visB_vis {sc : Scope} {x : Str} (h : visB sc x = true) : Vis sc x ∧ (x == ("__debug__" : Str)) = false ∧ (x == ("__classdict__" : Str)) = false := by
  unfold visB at h
  rw [Bool.and_eq_true, Bool.and_eq_true] at h
  refine ⟨?_, by simpa using h.1.2, by simpa using h.2⟩
  have := h.1.1
  split at this
  · rename_i e; exact .inl e
  · rename_i e; exact .inr (.inl e)
  · rename_i e; exact .inr (.inr e)
  · cases this
theorem glB_gl {X : Cx} {sc : Scope} {x : Str} (hs : X.env.scope = sc) (h : glB sc x = true) : Gl X x ∧ (x == ("__debug__" : Str)) = false ∧ x ≠ "__name__" := by
  unfold glB at h
  rw [Bool.and_eq_true, Bool.and_eq_true, decide_eq_true_eq] at h
  refine ⟨?_, by simpa using h.1.2, h.2⟩
  have := h.1.1
  split at this
  · rename_i e
    show X.env.scope.names.lookup x = _
    rw [hs]; exact e
  · cases this

theorem chk_form {c : KC} {sc fn} : ∀ {e : RE} {x : Expr}, chkE c sc fn e x = true → okForm x = true := by
  intro e x h
  cases x <;> first | rfl | (cases e <;> simp [chkE, okForm] at h)
theorem form_star {x : Expr} (h : okForm x = true) : isStar x = false := by cases x <;> first | rfl | cases h
theorem form_ix {x : Expr} (h : okForm x = true) : PlainIx x := by cases x <;> first | (intro o i; rfl) | cases h
theorem form_marks {x : Expr} {op : CmpOp} (h : okForm x = true) : behindInMarks op x = false := by cases x <;> first | rfl | cases h
theorem form_fold {x : Expr} {env : PySem.Env} (h : okForm x = true) (v : Value) : foldedSetIterable x env v = pure v := by cases x <;> first | rfl | cases h
theorem chk_plain {c : KC} {sc fn} : ∀ {es : RL} {xs : List Expr}, plainL es = true → chkL c sc fn es xs = true → xs.all (fun e => !isStar e) = true
  | .nil, [], _, _ => rfl
  | .nil, _ :: _, _, h => by simp [chkL] at h
  | .cons e es, [], _, h => by simp [chkL] at h
  | .cons e es, x :: xs, hp, h => by
    simp only [chkL, Bool.and_eq_true] at h
    rw [List.all_cons, form_star (chk_form h.1)]
    exact chk_plain (es := es) hp h.2
  | .star _ _, _, hp, _ => by cases hp
theorem needs_l {P : Need → Prop} {a b : List Need} (h : ∀ n ∈ a ++ b, P n) : ∀ n ∈ a, P n := fun n m => h n (List.mem_append_left _ m)
theorem needs_r {P : Need → Prop} {a b : List Need} (h : ∀ n ∈ a ++ b, P n) : ∀ n ∈ b, P n := fun n m => h n (List.mem_append_right _ m)
theorem free_gl {X : Cx} {sc : Scope} {x : Str} {s : String} (hs : X.env.scope = sc) (e : x = Str.ofString s) (h : glB sc x = true) : Gl X (Str.ofString s) := by rw [← e]; exact (glB_gl hs h).1

section
variable {C : CT} {T : Tab} {c : KC}
abbrev MeetX (C : CT) (T : Tab) (c : KC) (X : Cx) (k : Nat) : Need → Prop := Meet C T c X.prog X.w X.K X.mg X.base k
theorem lcF_no {T : Tab} {e : RE} {t : RT} {s0 : Env} : (fun (x : PV) (st2 : Sto) => match bindT st2 t x s0 with
      | some s1 => (evO T .no s1 st2).bnd fun b st3 => match b with
        | none => (evE T e s1 st3).bnd fun y st4 => .ok [y] st4
        | some v => match truP st3 v with
          | some true => (evE T e s1 st3).bnd fun y st4 => .ok [y] st4
          | some false => .ok [] st3
          | none => .bad
      | none => .bad) = lcF (fun _ st => .ok true st) (evE T e) t s0 := by
  funext x st2
  unfold lcF
  cases hb : bindT st2 t x s0 <;> rfl
theorem lcF_yes {T : Tab} {e d : RE} {t : RT} {s0 : Env} : (fun (x : PV) (st2 : Sto) => match bindT st2 t x s0 with
      | some s1 => (evO T (.yes d) s1 st2).bnd fun b st3 => match b with
        | none => (evE T e s1 st3).bnd fun y st4 => .ok [y] st4
        | some v => match truP st3 v with
          | some true => (evE T e s1 st3).bnd fun y st4 => .ok [y] st4
          | some false => .ok [] st3
          | none => .bad
      | none => .bad) = lcF (fun s st => (evE T d s st).bnd fun v st1 => optR (truP st1 v) st1) (evE T e) t s0 := by
  funext x st2
  unfold lcF
  cases hb : bindT st2 t x s0 with
  | some s1 =>
    show ((evE T d s1 st2).bnd fun x st1 => (.ok (some x) st1 : Res (Option PV))).bnd _ = _
    show _ = (((evE T d s1 st2).bnd fun v st1 => optR (truP st1 v) st1).bnd fun b st3 => if b = true then (evE T e s1 st3).bnd fun y st4 => Res.ok [y] st4 else Res.ok [] st3)
    rw [Res.bnd_assoc, Res.bnd_assoc]
    congr 1
    funext v st3
    show (match truP st3 v with
      | some true => _
      | some false => _
      | none => _) = _
    cases truP st3 v with
    | none => rfl
    | some b => cases b <;> rfl
  | none => rfl
theorem lcF2_eq {T : Tab} {e : RE} {t t1 : RT} {own1 : List Nat} {it1 : RI} {s0 : Env} : (fun (x : PV) (st2 : Sto) => match bindT st2 t x s0 with
      | some s1 => (evI T it1 s1 st2).bnd fun src1 st3 => comp (fun y st4 => match bindT st4 t1 y (wipeE s1 own1) with
        | some s2 => (evE T e s2 st4).bnd fun v st5 => .ok [v] st5
        | none => .bad) src1 st3
      | none => .bad) = lcF2 (evI T it1) (evE T e) t t1 own1 s0 := by
  funext x st2
  unfold lcF2
  cases hb : bindT st2 t x s0 with
  | none => rfl
  | some s1 =>
    have e : ∀ src1 st3, comp (fun y st4 => match bindT st4 t1 y (wipeE s1 own1) with
        | some s2 => (evE T e s2 st4).bnd fun v st5 => .ok [v] st5
        | none => .bad) src1 st3 = comp (lcF (fun _ st => .ok true st) (evE T e) t1 (wipeE s1 own1)) src1 st3 := by
      intro src1 st3
      have e2 : (fun (y : PV) (st4 : Sto) => match bindT st4 t1 y (wipeE s1 own1) with
        | some s2 => (evE T e s2 st4).bnd fun v st5 => .ok [v] st5
        | none => (.bad : Res (List PV))) = lcF (fun _ st => .ok true st) (evE T e) t1 (wipeE s1 own1) := by
        funext y st4
        unfold lcF
        cases hb : bindT st4 t1 y (wipeE s1 own1) <;> rfl
      rw [e2]
    simp only [e]
/-- the frame of a comprehension of two fors, told -/
theorem frame2 {sc : Scope} {fn : Str → Bool} {X : Cx} {W : WX} {k : Nat} {scope : Scope} {t t1 : RT} {own own1 : List Nat} {tg tg1 : Expr} (a : At c sc fn X W k) (h : chkC2 c sc fn scope t t1 own own1 tg tg1 = true) :
    BlkOk X.N X.env.scope scope (ownPairs c.N own) ∧ (∀ i ∈ slotsT t, i ∈ own) ∧ (∀ i ∈ slotsT t1, i ∈ own1) ∧ (∀ i ∈ own1, i ∈ own) ∧ TgtB X scope tg t ∧ TgtB X scope tg1 t1 := by
  unfold chkC2 at h
  simp only [Bool.and_eq_true] at h
  obtain ⟨⟨⟨⟨⟨hb, h1⟩, h2⟩, h3⟩, h4⟩, h5⟩ := h
  have sub : ∀ {xs ys : List Nat}, xs.all (fun i => ys.contains i) = true → ∀ i ∈ xs, i ∈ ys := fun {xs ys} h i m => by
    have := List.all_eq_true.mp h i m
    simpa using this
  exact ⟨by rw [a.N, a.sc]; exact blkOk_by hb, sub h1, sub h2, sub h3, fun s H D cl fp st => good_target (a.blk s H scope D cl fp) st t tg h4, fun s H D cl fp st => good_target (a.blk s H scope D cl fp) st t1 tg1 h5⟩
mutual
theorem soundE : ∀ (e : RE) (sc : Scope) (fn : Str → Bool) (X : Cx) (W : WX) (k : Nat) (x : Expr), At c sc fn X W k → chkE c sc fn e x = true → (∀ n ∈ ndE e, MeetX C T c X k n) → SE C T X W e x
  | .var i, sc, fn, X, W, k, x, a, h, hn => by
    cases x <;> try (simp [chkE] at h; done)
    simp only [chkE, Bool.and_eq_true, decide_eq_true_eq] at h
    obtain ⟨v1, v2, v3⟩ := visB_vis h.2
    exact SE.plain (good_var (by rw [a.N]; exact h.1) (by rw [a.sc]; exact v1) v2 v3) (fun _ => rfl) (fun _ _ _ z => by cases z)
  | .cst v, sc, fn, X, W, k, x, a, h, hn => by
    cases x <;> try (simp [chkE] at h; done)
    rename_i kk j pos
    refine SE.plain ?_ (fun _ => rfl) (fun _ _ _ z => by cases z)
    cases v <;> cases kk <;> try (simp [chkE] at h; done)
    · exact good_cst pe_non fun r H => .non
    · simp only [chkE, beq_iff_eq] at h
      subst h
      exact good_cst pe_bl fun r H => .bl _
    · simp only [chkE, beq_iff_eq] at h
      subst h
      exact good_cst pe_int fun r H => .int _
    · simp only [chkE, decide_eq_true_eq] at h
      subst h
      exact good_cst pe_str fun r H => .str _
  | .glo g v, sc, fn, X, W, k, x, a, h, hn => by
    cases x <;> try (simp [chkE] at h; done)
    simp only [chkE, Bool.and_eq_true, decide_eq_true_eq] at h
    obtain ⟨h1, h2⟩ := h
    obtain ⟨u, V, e1, e2, e3⟩ : Meet C T c X.prog X.w X.K X.mg X.base k (.glo g v) := hn _ (by simp [ndE])
    obtain ⟨g1, g2, g3⟩ := glB_gl a.sc h2
    subst h1
    exact SE.plain (good_cst (pe_glob g1 e1 e2 g2) e3) (fun _ => rfl) (fun _ _ _ z => by cases z)
  | .bin op p q, sc, fn, X, W, k, x, a, h, hn => by
    cases x <;> try (simp [chkE] at h; done)
    simp only [chkE, Bool.and_eq_true, decide_eq_true_eq] at h
    obtain ⟨⟨rfl, h1⟩, h2⟩ := h
    have s1 := soundE p sc fn X W k _ a h1 (needs_l hn)
    have s2 := soundE q sc fn X W k _ a h2 (needs_r hn)
    exact SE.plain (good_bin op s1.e s2.e) (fun _ => rfl) (fun _ _ _ z => by cases z)
  | .un op p, sc, fn, X, W, k, x, a, h, hn => by
    cases x <;> try (simp [chkE] at h; done)
    simp only [chkE, Bool.and_eq_true, decide_eq_true_eq] at h
    obtain ⟨⟨rfl, h1⟩, h2⟩ := h
    have s1 := soundE p sc fn X W k _ a h2 hn
    cases op <;> try (cases h1; done)
    · exact ⟨good_not s1.e, goodT_not s1.t, fun ⟨_, _, _, z⟩ => by cases z⟩
    · exact SE.plain (good_neg s1.e) (fun _ => rfl) (fun _ _ _ z => by cases z)
  | .and p q, sc, fn, X, W, k, x, a, h, hn => by
    cases x <;> try (simp [chkE] at h; done)
    rename_i op vs pos
    cases op <;> try (simp [chkE] at h; done)
    rcases vs with _ | ⟨y, _ | ⟨z, rest⟩⟩ <;> try (simp [chkE] at h; done)
    simp only [chkE, Bool.and_eq_true] at h
    have s1 := soundE p sc fn X W k _ a h.1 (needs_l hn)
    cases rest with
    | nil =>
      have s2 := soundE q sc fn X W k _ a h.2 (needs_r hn)
      have w := goodW_and (pos := pos) s1.t (goodW_and1 s2.t)
      exact ⟨good_and s1.e (good_one s2.e), w.t, fun _ => w⟩
    | cons z2 rest =>
      have s2 := soundE q sc fn X W k _ a h.2 (needs_r hn)
      have w := goodW_and (pos := pos) s1.t (s2.w ⟨_, _, _, rfl⟩)
      exact ⟨good_and s1.e s2.e, w.t, fun _ => w⟩
  | .or p q, sc, fn, X, W, k, x, a, h, hn => by
    cases x <;> try (simp [chkE] at h; done)
    rename_i op vs pos
    cases op <;> try (simp [chkE] at h; done)
    rcases vs with _ | ⟨y, _ | ⟨z, rest⟩⟩ <;> try (simp [chkE] at h; done)
    simp only [chkE, Bool.and_eq_true] at h
    have s1 := soundE p sc fn X W k _ a h.1 (needs_l hn)
    cases rest with
    | nil =>
      have s2 := soundE q sc fn X W k _ a h.2 (needs_r hn)
      have w := goodW_or (pos := pos) s1.t (goodW_or1 s2.t)
      exact ⟨good_or s1.e (good_one s2.e), w.t, fun _ => w⟩
    | cons z2 rest =>
      have s2 := soundE q sc fn X W k _ a h.2 (needs_r hn)
      have w := goodW_or (pos := pos) s1.t (s2.w ⟨_, _, _, rfl⟩)
      exact ⟨good_or s1.e s2.e, w.t, fun _ => w⟩
  | .cmp op p q, sc, fn, X, W, k, x, a, h, hn => by
    cases x <;> try (simp [chkE] at h; done)
    rename_i y ops zs pos
    rcases ops with _ | ⟨op', _ | ⟨o2, ops⟩⟩ <;> try (simp [chkE] at h; done)
    rcases zs with _ | ⟨z, _ | ⟨z2, zs⟩⟩ <;> try (simp [chkE] at h; done)
    simp only [chkE, Bool.and_eq_true, decide_eq_true_eq] at h
    obtain ⟨⟨rfl, h1⟩, h2⟩ := h
    have s1 := soundE p sc fn X W k _ a h1 (needs_l hn)
    have s2 := soundE q sc fn X W k _ a h2 (needs_r hn)
    have hm := form_marks (op := op) (chk_form h2)
    exact ⟨good_cmp a.cx op s1.e s2.e hm, goodT_cmp a.cx op s1.e s2.e hm, fun ⟨_, _, _, z⟩ => by cases z⟩
  | .chn o1 o2 p q d, sc, fn, X, W, k, x, a, h, hn => by
    cases x <;> try (simp [chkE] at h; done)
    rename_i y ops zs pos
    rcases ops with _ | ⟨p1, _ | ⟨p2, _ | ⟨p3, ops⟩⟩⟩ <;> try (simp [chkE] at h; done)
    rcases zs with _ | ⟨z, _ | ⟨z2, _ | ⟨z3, zs⟩⟩⟩ <;> try (simp [chkE] at h; done)
    simp only [chkE, Bool.and_eq_true, decide_eq_true_eq] at h
    obtain ⟨⟨⟨⟨rfl, rfl⟩, h1⟩, h2⟩, h3⟩ := h
    have s1 := soundE p sc fn X W k _ a h1 (needs_l hn)
    have s2 := soundE q sc fn X W k _ a h2 (needs_l (needs_r hn))
    have s3 := soundE d sc fn X W k _ a h3 (needs_r (needs_r hn))
    have hm : lastMarks [o1, o2] [z, z2] = false := form_marks (chk_form h3)
    exact ⟨good_chn a.cx o1 o2 s1.e s2.e s3.e hm, goodT_chn a.cx o1 o2 s1.e s2.e s3.e hm, fun ⟨_, _, _, z⟩ => by cases z⟩
  | .ifx t p q, sc, fn, X, W, k, x, a, h, hn => by
    cases x <;> try (simp [chkE] at h; done)
    simp only [chkE, Bool.and_eq_true] at h
    have s1 := soundE t sc fn X W k _ a h.1.1 (needs_l hn)
    have s2 := soundE p sc fn X W k _ a h.1.2 (needs_l (needs_r hn))
    have s3 := soundE q sc fn X W k _ a h.2 (needs_r (needs_r hn))
    exact ⟨good_ifx s1.t s2.e s3.e, goodT_ifx s1.t s2.t s3.t, fun ⟨_, _, _, z⟩ => by cases z⟩
  | .sub p q, sc, fn, X, W, k, x, a, h, hn => by
    cases x <;> try (simp [chkE] at h; done)
    rename_i y z pos
    have h' : chkE c sc fn p y = true ∧ chkE c sc fn q z = true := by
      simp only [chkE, Bool.and_eq_true] at h
      exact h
    have s1 := soundE p sc fn X W k _ a h'.1 (needs_l hn)
    have s2 := soundE q sc fn X W k _ a h'.2 (needs_r hn)
    exact SE.plain (good_sub s1.e s2.e (form_ix (chk_form h'.2))) (fun _ => rfl) (fun _ _ _ z => by cases z)
  | .slc p lo hi, sc, fn, X, W, k, x, a, h, hn => by
    cases x <;> try (simp [chkE] at h; done)
    rename_i y z pos
    cases z <;> try (simp [chkE] at h; done)
    rename_i l u stp sp
    cases stp with
    | some _ => simp [chkE] at h
    | none =>
      simp only [chkE, Bool.and_eq_true] at h
      have s1 := soundE p sc fn X W k _ a h.1.1 (needs_l hn)
      have s2 := soundO lo sc fn X W k _ a h.1.2 (needs_l (needs_r hn))
      have s3 := soundO hi sc fn X W k _ a h.2 (needs_r (needs_r hn))
      exact SE.plain (good_slc s1.e s2 s3) (fun _ => rfl) (fun _ _ _ z => by cases z)
  | .rev p, sc, fn, X, W, k, x, a, h, hn => by
    cases x <;> try (simp [chkE] at h; done)
    rename_i y z pos
    cases z <;> try (simp [chkE] at h; done)
    rename_i l u stp sp
    cases l <;> cases u <;> try (simp [chkE] at h; done)
    cases stp with
    | none => simp [chkE] at h
    | some q =>
      cases q <;> try (simp [chkE] at h; done)
      rename_i op q qp
      cases op <;> try (simp [chkE] at h; done)
      cases q <;> try (simp [chkE] at h; done)
      rename_i kk j kp
      cases kk <;> try (simp [chkE] at h; done)
      rename_i n
      by_cases hn1 : n = 1
      · subst hn1
        simp only [chkE] at h
        exact SE.plain (good_rev (soundE p sc fn X W k _ a h hn).e) (fun _ => rfl) (fun _ _ _ z => by cases z)
      · simp [chkE, hn1] at h
  | .tup es, sc, fn, X, W, k, x, a, h, hn => by
    cases x <;> try (simp [chkE] at h; done)
    simp only [chkE] at h
    exact SE.plain (good_tup (soundL es sc fn X W k _ a h hn)) (fun _ => rfl) (fun _ _ _ z => by cases z)
  | .lst es, sc, fn, X, W, k, x, a, h, hn => by
    cases x <;> try (simp [chkE] at h; done)
    simp only [chkE] at h
    exact SE.plain (good_lst (soundL es sc fn X W k _ a h hn)) (fun _ => rfl) (fun _ _ _ z => by cases z)
  | .new es, sc, fn, X, W, k, x, a, h, hn => by
    cases x <;> try (simp [chkE] at h; done)
    simp only [chkE] at h
    exact SE.plain (good_new (soundL es sc fn X W k _ a h hn)) (fun _ => rfl) (fun _ _ _ z => by cases z)
  | .dct, sc, fn, X, W, k, x, a, h, hn => by
    cases x <;> try (simp [chkE] at h; done)
    rename_i ks vs pos
    cases ks <;> cases vs <;> try (simp [chkE] at h; done)
    exact SE.plain good_dct (fun _ => rfl) (fun _ _ _ z => by cases z)
  | .slcN p lo hi, sc, fn, X, W, k, x, a, h, hn => by
    cases x <;> try (simp [chkE] at h; done)
    rename_i y z pos
    cases z <;> try (simp [chkE] at h; done)
    rename_i l u stp sp
    cases stp with
    | some _ => simp [chkE] at h
    | none =>
      simp only [chkE, Bool.and_eq_true] at h
      have s1 := soundE p sc fn X W k _ a h.1.1 (needs_l hn)
      have s2 := soundO lo sc fn X W k _ a h.1.2 (needs_l (needs_r hn))
      have s3 := soundO hi sc fn X W k _ a h.2 (needs_r (needs_r hn))
      exact SE.plain (good_slcN s1.e s2 s3) (fun _ => rfl) (fun _ _ _ z => by cases z)
  | .dlit kvs, sc, fn, X, W, k, x, a, h, hn => by
    cases x <;> try (simp [chkE] at h; done)
    simp only [chkE, Bool.and_eq_true, decide_eq_true_eq] at h
    exact SE.plain (good_dlit h.1.1.1 h.1.1.2 h.1.2 h.2) (fun _ => rfl) (fun _ _ _ z => by cases z)
  | .calld f es ds, sc, fn, X, W, k, x, a, h, hn => by
    cases x <;> try (simp [chkE] at h; done)
    rename_i y xs ks pos
    cases y <;> try (simp [chkE] at h; done)
    rename_i nm np
    cases ks <;> try (simp [chkE] at h; done)
    simp only [chkE, Bool.and_eq_true, decide_eq_true_eq] at h
    obtain ⟨⟨⟨⟨rfl, hg⟩, hp⟩, hi⟩, hl⟩ := h
    obtain ⟨g1, g2, g3⟩ := glB_gl a.sc hg
    have s1 := soundL es sc fn X W k _ a hl (fun n m => hn n (by simp only [ndE]; exact List.mem_cons_of_mem _ m))
    have hc : Meet C T c X.prog X.w X.K X.mg X.base k (.calld f ds) := hn _ (by simp only [ndE]; exact List.mem_cons_self)
    cases xs with
    | nil => cases es <;> first | (simp [isCons] at hi; done) | (simp [chkL] at hl; done)
    | cons x0 xs => exact SE.plain (good_calld a.cx g1 g2 hc s1 (chk_plain hp hl)) (fun _ => rfl) (fun _ _ _ z => by cases z)
  | .call f es, sc, fn, X, W, k, x, a, h, hn => by
    cases x <;> try (simp [chkE] at h; done)
    rename_i y xs ks pos
    cases y <;> try (simp [chkE] at h; done)
    rename_i nm np
    cases ks <;> try (simp [chkE] at h; done)
    simp only [chkE, Bool.and_eq_true, decide_eq_true_eq] at h
    obtain ⟨⟨⟨rfl, hg⟩, hp⟩, hl⟩ := h
    obtain ⟨g1, g2, g3⟩ := glB_gl a.sc hg
    have s1 := soundL es sc fn X W k _ a hl (fun n m => hn n (by simp only [ndE]; exact List.mem_cons_of_mem _ m))
    have hc : Meet C T c X.prog X.w X.K X.mg X.base k (.call f) := hn _ (by simp only [ndE]; exact List.mem_cons_self)
    refine SE.plain (good_call a.cx g1 g2 hc s1 (fun e => ?_) (chk_plain hp hl)) (fun _ => rfl) (fun _ _ _ z => by cases z)
    subst e
    cases es with
    | nil => rfl
    | cons _ _ => simp [chkL] at hl
    | star _ _ => simp [chkL] at hl
  | .bi b es, sc, fn, X, W, k, x, a, h, hn => by
    cases x <;> try (simp [chkE] at h; done)
    rename_i y xs ks pos
    cases y <;> try (simp [chkE] at h; done)
    rename_i nm np
    cases ks <;> try (simp [chkE] at h; done)
    have hb : b ≠ .sortset := by rintro rfl; simp [chkE] at h
    have h' : (((nm = Str.ofString b.name ∧ glB sc nm = true) ∧ plainL es = true) ∧ isCons es = true) ∧ chkL c sc fn es xs = true := by
      cases b <;> first | exact absurd rfl hb | (simp only [chkE, Bool.and_eq_true, decide_eq_true_eq] at h; exact h)
    obtain ⟨⟨⟨⟨rfl, hg⟩, hp⟩, hc⟩, hl⟩ := h'
    obtain ⟨g1, g2, g3⟩ := glB_gl a.sc hg
    have s1 := soundL es sc fn X W k _ a hl (fun n m => hn n (by simp only [ndE]; exact List.mem_cons_of_mem _ m))
    have hf : Meet C T c X.prog X.w X.K X.mg X.base k (.free b.name) := hn _ (by simp only [ndE]; exact List.mem_cons_self)
    cases xs with
    | nil => cases es <;> simp [chkL, isCons] at hl hc
    | cons x0 xs => exact SE.plain (good_bi a.cx b hb g1 g2 g3 hf (boot_bi b) s1 (chk_plain hp hl)) (fun _ => rfl) (fun _ _ _ z => by cases z)
  | .mth m o es, sc, fn, X, W, k, x, a, h, hn => by
    cases x <;> try (simp [chkE] at h; done)
    rename_i y xs ks pos
    cases y <;> try (simp [chkE] at h; done)
    rename_i oo nm ap
    cases ks <;> try (simp [chkE] at h; done)
    cases m with
    | append =>
      simp only [chkE, Bool.and_eq_true, decide_eq_true_eq] at h
      obtain ⟨⟨⟨⟨⟨rfl, h1⟩, h2⟩, h3⟩, h4⟩, h5⟩ := h
      have s1 := soundE o sc fn X W k _ a h3 (needs_l hn)
      have s2 := soundL es sc fn X W k _ a h5 (needs_r hn)
      match es, h4, h5, s2 with
      | .cons e0 .nil, _, h5, s2 =>
        match xs, h5, s2 with
        | [x0], h5, s2 =>
          have hf := form_star (chk_form (Bool.and_eq_true _ _ ▸ h5 : chkE c sc fn e0 x0 = true ∧ _).1)
          exact SE.plain (good_append h1 (by simpa using h2) s1.e s2 hf) (fun _ => rfl) (fun _ _ _ z => by cases z)
        | [], h5, _ => simp [chkL] at h5
        | _ :: _ :: _, h5, _ => simp [chkL] at h5
    | find =>
      simp only [chkE, Bool.and_eq_true, decide_eq_true_eq] at h
      obtain ⟨⟨⟨⟨⟨rfl, h1⟩, h2⟩, h3⟩, h4⟩, h5⟩ := h
      have s1 := soundE o sc fn X W k _ a h3 (needs_l hn)
      have s2 := soundL es sc fn X W k _ a h5 (needs_r hn)
      match es, h4, h5, s2 with
      | .cons e0 .nil, _, h5, s2 =>
        match xs, h5, s2 with
        | [x0], h5, s2 =>
          have hf := form_star (chk_form (Bool.and_eq_true _ _ ▸ h5 : chkE c sc fn e0 x0 = true ∧ _).1)
          exact SE.plain (good_find h1 (by simpa using h2) s1.e s2 hf) (fun _ => rfl) (fun _ _ _ z => by cases z)
        | [], h5, _ => simp [chkL] at h5
        | _ :: _ :: _, h5, _ => simp [chkL] at h5
    | rstrip =>
      simp only [chkE, Bool.and_eq_true, decide_eq_true_eq] at h
      obtain ⟨⟨⟨⟨⟨rfl, h1⟩, h2⟩, h3⟩, h4⟩, h5⟩ := h
      have s1 := soundE o sc fn X W k _ a h3 (needs_l hn)
      have s2 := soundL es sc fn X W k _ a h5 (needs_r hn)
      match es, h4, h5, s2 with
      | .cons e0 .nil, _, h5, s2 =>
        match xs, h5, s2 with
        | [x0], h5, s2 =>
          have hf := form_star (chk_form (Bool.and_eq_true _ _ ▸ h5 : chkE c sc fn e0 x0 = true ∧ _).1)
          exact SE.plain (good_rstrip h1 (by simpa using h2) s1.e s2 hf) (fun _ => rfl) (fun _ _ _ z => by cases z)
        | [], h5, _ => simp [chkL] at h5
        | _ :: _ :: _, h5, _ => simp [chkL] at h5
    | get =>
      simp only [chkE, Bool.and_eq_true, decide_eq_true_eq] at h
      obtain ⟨⟨⟨⟨⟨⟨rfl, h1⟩, h2⟩, h3⟩, h4⟩, h6⟩, h5⟩ := h
      have s1 := soundE o sc fn X W k _ a h3 (needs_l hn)
      match es, h4, h5, hn with
      | .cons e1 (.cons e2 .nil), _, h5, hn =>
        match xs, h5 with
        | [x1, x2], h5 =>
          simp only [chkL, Bool.and_eq_true] at h5
          have hn' : ∀ n ∈ ndE o ++ (ndE e1 ++ (ndE e2 ++ [])), MeetX C T c X k n := hn
          have t1 := soundE e1 sc fn X W k _ a h5.1 (needs_l (needs_r hn'))
          have t2 := soundE e2 sc fn X W k _ a h5.2.1 (needs_l (needs_r (needs_r hn')))
          have ee : evL T (.cons e1 (.cons e2 .nil)) = fun s st => (evE T e1 s st).bnd fun y st2 => (evE T e2 s st2).bnd fun z st3 => .ok [y, z] st3 := by
            funext s st
            simp only [evL, Res.bnd_assoc, Res.bnd_ok]
          refine SE.plain ?_ (fun _ => rfl) (fun _ _ _ z => by cases z)
          show GoodE C X W _ (fun s st => (evE T o s st).bnd fun x st1 => if mOk .get x st1 then (evL T (.cons e1 (.cons e2 .nil)) s st1).bnd fun xs st2 => mthP .get x xs st2 else .bad)
          rw [ee]
          exact good_get a.cx h1 (by simpa using h2) s1.e _ _ t1.e t2.e (form_star (chk_form h5.1)) (form_star (chk_form h5.2.1))
        | [], h5 => simp [chkL] at h5
        | [_], h5 => simp [chkL] at h5
        | _ :: _ :: _ :: _, h5 => simp [chkL] at h5
    | join =>
      simp only [chkE, Bool.and_eq_true, decide_eq_true_eq] at h
      obtain ⟨⟨⟨⟨⟨rfl, h1⟩, h2⟩, h3⟩, h4⟩, h5⟩ := h
      have s1 := soundE o sc fn X W k _ a h3 (needs_l hn)
      have s2 := soundL es sc fn X W k _ a h5 (needs_r hn)
      match es, h4, h5, s2 with
      | .cons e0 .nil, _, h5, s2 =>
        match xs, h5, s2 with
        | [x0], h5, s2 =>
          have hf := form_star (chk_form (Bool.and_eq_true _ _ ▸ h5 : chkE c sc fn e0 x0 = true ∧ _).1)
          exact SE.plain (good_join h1 (by simpa using h2) s1.e s2 hf) (fun _ => rfl) (fun _ _ _ z => by cases z)
        | [], h5, _ => simp [chkL] at h5
        | _ :: _ :: _, h5, _ => simp [chkL] at h5
    | extend =>
      simp only [chkE, Bool.and_eq_true, decide_eq_true_eq] at h
      obtain ⟨⟨⟨⟨⟨rfl, h1⟩, h2⟩, h3⟩, h4⟩, h5⟩ := h
      have s1 := soundE o sc fn X W k _ a h3 (needs_l hn)
      have s2 := soundL es sc fn X W k _ a h5 (needs_r hn)
      match es, h4, h5, s2 with
      | .cons e0 .nil, _, h5, s2 =>
        match xs, h5, s2 with
        | [x0], h5, s2 =>
          have hf := form_star (chk_form (Bool.and_eq_true _ _ ▸ h5 : chkE c sc fn e0 x0 = true ∧ _).1)
          exact SE.plain (good_extend h1 (by simpa using h2) s1.e s2 hf) (fun _ => rfl) (fun _ _ _ z => by cases z)
        | [], h5, _ => simp [chkL] at h5
        | _ :: _ :: _, h5, _ => simp [chkL] at h5
    | index =>
      simp only [chkE, Bool.and_eq_true, decide_eq_true_eq] at h
      obtain ⟨⟨⟨⟨⟨rfl, h1⟩, h2⟩, h3⟩, h4⟩, h5⟩ := h
      have s1 := soundE o sc fn X W k _ a h3 (needs_l hn)
      have s2 := soundL es sc fn X W k _ a h5 (needs_r hn)
      match es, h4, h5, s2 with
      | .cons e0 .nil, _, h5, s2 =>
        match xs, h5, s2 with
        | [x0], h5, s2 =>
          have hf := form_star (chk_form (Bool.and_eq_true _ _ ▸ h5 : chkE c sc fn e0 x0 = true ∧ _).1)
          exact SE.plain (good_index a.cx h1 (by simpa using h2) s1.e s2 hf) (fun _ => rfl) (fun _ _ _ z => by cases z)
        | [], h5, _ => simp [chkL] at h5
        | _ :: _ :: _, h5, _ => simp [chkL] at h5
    | pop =>
      simp only [chkE, Bool.and_eq_true, decide_eq_true_eq] at h
      obtain ⟨⟨⟨⟨⟨rfl, h1⟩, h2⟩, h3⟩, h4⟩, h5⟩ := h
      have s1 := soundE o sc fn X W k _ a h3 (needs_l hn)
      have s2 := soundL es sc fn X W k _ a h5 (needs_r hn)
      match es, h4, h5, s2 with
      | .cons e0 .nil, _, h5, s2 =>
        match xs, h5, s2 with
        | [x0], h5, s2 =>
          have hf := form_star (chk_form (Bool.and_eq_true _ _ ▸ h5 : chkE c sc fn e0 x0 = true ∧ _).1)
          exact SE.plain (good_pop h1 (by simpa using h2) s1.e s2 hf) (fun _ => rfl) (fun _ _ _ z => by cases z)
        | [], h5, _ => simp [chkL] at h5
        | _ :: _ :: _, h5, _ => simp [chkL] at h5
    | upper =>
      simp only [chkE, Bool.and_eq_true, decide_eq_true_eq] at h
      obtain ⟨⟨⟨⟨⟨rfl, h1⟩, h2⟩, h3⟩, h4⟩, h5⟩ := h
      have s1 := soundE o sc fn X W k _ a h3 (needs_l hn)
      match es, h4, h5 with
      | .nil, _, h5 =>
        match xs, h5 with
        | [], h5 => exact SE.plain (good_upper h1 (by simpa using h2) s1.e) (fun _ => rfl) (fun _ _ _ z => by cases z)
        | _ :: _, h5 => simp [chkL] at h5
  | .isi p t, sc, fn, X, W, k, x, a, h, hn => by
    cases x <;> try (simp [chkE] at h; done)
    rename_i y xs ks pos
    cases y <;> try (simp [chkE] at h; done)
    rename_i nm np
    cases ks <;> try (simp [chkE] at h; done)
    rcases xs with _ | ⟨y, _ | ⟨z, _ | ⟨z2, xs⟩⟩⟩ <;> try (simp [chkE] at h; done)
    · cases z <;> simp [chkE] at h
      obtain ⟨⟨⟨⟨rfl, hg⟩, h1⟩, rfl⟩, hg2⟩ := h
      have s1 := soundE p sc fn X W k _ a h1 (fun n m => hn n (by simp only [ndE]; exact List.mem_cons_of_mem _ (List.mem_cons_of_mem _ m)))
      have hf : Meet C T c X.prog X.w X.K X.mg X.base k (.free "isinstance") := hn _ (by simp only [ndE]; exact List.mem_cons_self)
      have hf2 : Meet C T c X.prog X.w X.K X.mg X.base k (.free t.name) := hn _ (by simp only [ndE]; exact List.mem_cons_of_mem _ List.mem_cons_self)
      exact SE.plain (good_isi t (glB_gl a.sc hg).1 hf (glB_gl a.sc hg2).1 hf2 s1.e (form_star (chk_form h1))) (fun _ => rfl) (fun _ _ _ z => by cases z)
  | .isi2 p t u, sc, fn, X, W, k, x, a, h, hn => by
    cases x <;> try (simp [chkE] at h; done)
    rename_i y xs ks pos
    cases y <;> try (simp [chkE] at h; done)
    rename_i nm np
    cases ks <;> try (simp [chkE] at h; done)
    rcases xs with _ | ⟨y, _ | ⟨z, _ | ⟨z2, xs⟩⟩⟩ <;> try (simp [chkE] at h; done)
    cases z <;> try (simp [chkE] at h; done)
    rename_i es n tp
    rcases es with _ | ⟨e1, _ | ⟨e2, _ | ⟨e3, es⟩⟩⟩ <;> try (simp [chkE] at h; done)
    · cases e1 <;> try (simp [chkE] at h; done)
      cases e2 <;> simp [chkE] at h
      obtain ⟨⟨⟨⟨⟨⟨rfl, hg⟩, h1⟩, rfl⟩, hg2⟩, rfl⟩, hg3⟩ := h
      have s1 := soundE p sc fn X W k _ a h1 (fun n m => hn n (by simp only [ndE]; exact List.mem_cons_of_mem _ (List.mem_cons_of_mem _ (List.mem_cons_of_mem _ m))))
      have hf : Meet C T c X.prog X.w X.K X.mg X.base k (.free "isinstance") := hn _ (by simp only [ndE]; exact List.mem_cons_self)
      have hf2 : Meet C T c X.prog X.w X.K X.mg X.base k (.free t.name) := hn _ (by simp only [ndE]; exact List.mem_cons_of_mem _ List.mem_cons_self)
      have hf3 : Meet C T c X.prog X.w X.K X.mg X.base k (.free u.name) := hn _ (by simp only [ndE]; exact List.mem_cons_of_mem _ (List.mem_cons_of_mem _ List.mem_cons_self))
      exact SE.plain (good_isi2 t u (glB_gl a.sc hg).1 hf (glB_gl a.sc hg2).1 hf2 (glB_gl a.sc hg3).1 hf3 s1.e (form_star (chk_form h1))) (fun _ => rfl) (fun _ _ _ z => by cases z)
  | .srt p, sc, fn, X, W, k, x, a, h, hn => by
    cases x <;> try (simp [chkE] at h; done)
    rename_i y xs ks pos
    cases y <;> try (simp [chkE] at h; done)
    rename_i nm np
    rcases xs with _ | ⟨y, xs⟩
    · cases ks <;> simp [chkE] at h
    cases y <;> try (cases ks <;> cases xs <;> simp [chkE] at h; done)
    rename_i f1 as1 ks1 pos1
    cases f1 <;> try (cases ks <;> cases xs <;> simp [chkE] at h; done)
    rename_i nm1 np1
    rcases as1 with _ | ⟨y, _ | ⟨y2, as1⟩⟩ <;> try (cases ks <;> cases xs <;> simp [chkE] at h; done)
    cases ks1 <;> try (cases ks <;> cases xs <;> simp [chkE] at h; done)
    cases xs <;> try (cases ks <;> simp [chkE] at h; done)
    cases ks <;> try (simp [chkE] at h; done)
    simp only [chkE, Bool.and_eq_true, decide_eq_true_eq] at h
    obtain ⟨⟨⟨⟨rfl, hg⟩, rfl⟩, hg2⟩, h1⟩ := h
    have s1 := soundE p sc fn X W k _ a h1 (fun n m => hn n (by simp only [ndE]; exact List.mem_cons_of_mem _ (List.mem_cons_of_mem _ m)))
    have hf : Meet C T c X.prog X.w X.K X.mg X.base k (.free "sorted") := hn _ (by simp only [ndE]; exact List.mem_cons_self)
    have hf2 : Meet C T c X.prog X.w X.K X.mg X.base k (.free "set") := hn _ (by simp only [ndE]; exact List.mem_cons_of_mem _ List.mem_cons_self)
    exact SE.plain (good_srt a.cx (glB_gl a.sc hg).1 hf (glB_gl a.sc hg2).1 hf2 s1.e (form_star (chk_form h1))) (fun _ => rfl) (fun _ _ _ z => by cases z)
  | .srtN p, sc, fn, X, W, k, x, a, h, hn => by
    cases x <;> try (simp [chkE] at h; done)
    rename_i y xs ks pos
    cases y <;> try (simp [chkE] at h; done)
    rename_i nm np
    rcases xs with _ | ⟨y, xs⟩
    · cases ks <;> simp [chkE] at h
    cases y <;> try (cases ks <;> cases xs <;> simp [chkE] at h; done)
    rename_i f1 as1 ks1 pos1
    cases f1 <;> try (cases ks <;> cases xs <;> simp [chkE] at h; done)
    rename_i nm1 np1
    rcases as1 with _ | ⟨y, _ | ⟨y2, as1⟩⟩ <;> try (cases ks <;> cases xs <;> simp [chkE] at h; done)
    cases ks1 <;> try (cases ks <;> cases xs <;> simp [chkE] at h; done)
    cases xs <;> try (cases ks <;> simp [chkE] at h; done)
    cases ks <;> try (simp [chkE] at h; done)
    simp only [chkE, Bool.and_eq_true, decide_eq_true_eq] at h
    obtain ⟨⟨⟨⟨rfl, hg⟩, rfl⟩, hg2⟩, h1⟩ := h
    have s1 := soundE p sc fn X W k _ a h1 (fun n m => hn n (by simp only [ndE]; exact List.mem_cons_of_mem _ (List.mem_cons_of_mem _ m)))
    have hf : Meet C T c X.prog X.w X.K X.mg X.base k (.free "sorted") := hn _ (by simp only [ndE]; exact List.mem_cons_self)
    have hf2 : Meet C T c X.prog X.w X.K X.mg X.base k (.free "set") := hn _ (by simp only [ndE]; exact List.mem_cons_of_mem _ List.mem_cons_self)
    exact SE.plain (good_srtN a.cx (glB_gl a.sc hg).1 hf (glB_gl a.sc hg2).1 hf2 s1.e (form_star (chk_form h1))) (fun _ => rfl) (fun _ _ _ z => by cases z)
  | .lc e t own it d, sc, fn, X, W, k, x, a, h, hn => by
    cases x <;> try (simp [chkE] at h; done)
    rename_i elt gens scope pos
    rcases gens with _ | ⟨⟨tg, iter, ifs, as⟩, _ | ⟨g2, gens⟩⟩ <;> try (simp [chkE] at h; done)
    by_cases has : as = 0
    case neg => simp [chkE, has] at h
    case pos =>
      subst has
      simp only [chkE, Bool.and_eq_true] at h
      obtain ⟨⟨⟨⟨hb, hsl⟩, h1⟩, h2⟩, ⟨h3, h4⟩, h5⟩ := h
      obtain ⟨gi, gf⟩ := soundI it sc fn X W k tg iter a h1 h2 (needs_l hn)
      have hE : ∀ (s : Shared) (H : Hp) (D : Addr) (cl : List (Str × Addr)) (fp : List Addr), GoodE C (X.blk s H scope (compEnvC scope cl D X.env) fp) noX elt (evE T e) := fun s H D cl fp =>
        (soundE e _ _ _ noX k elt (a.blk s H scope D cl fp) h4 (needs_l (needs_r hn))).e
      have hsl' : ∀ i ∈ slotsT t, i ∈ own := fun i m => by
        have := List.all_eq_true.mp hsl i m
        simpa using this
      have ok : BlkOk X.N X.env.scope scope (ownPairs c.N own) := by rw [a.N, a.sc]; exact blkOk_by hb
      have tgt := fun (s : Shared) (H : Hp) (D : Addr) (cl : List (Str × Addr)) (fp : List Addr) (st : Sto) => good_target (a.blk s H scope D cl fp) st t tg h3
      match d, ifs, h5 with
      | .no, [], _ =>
        obtain ⟨te, pe, q⟩ := good_lc a.cx (N := c.N) (TEX := fun te => PE X (.ListComp elt [⟨tg, iter, [], 0⟩] scope pos) te) gi ok hsl' tgt (fun s H D cl fp => goodTs_nil) hE (fun g tt te p1 p2 p3 => pe_lc a.cx.calm a.cx.nd pi_w ok p1 p2 p3 (gf _))
        refine SE.plain (fun r s σ st H he hs Q h => w_pe pe (q r s σ st H he hs Q ?_)) (fun _ => rfl) (fun _ _ _ z => by cases z)
        simp only [evE] at h
        rw [← lcF_no]
        exact h
      | .yes v, [x0], h5 =>
        obtain ⟨te, pe, q⟩ := good_lc a.cx (N := c.N) (TEX := fun te => PE X (.ListComp elt [⟨tg, iter, [x0], 0⟩] scope pos) te) gi ok hsl' tgt
          (fun s H D cl fp => goodTs_one (soundE v _ _ _ noX k x0 (a.blk s H scope D cl fp) h5 (needs_r (needs_r hn))).t) hE (fun g tt te p1 p2 p3 => pe_lc a.cx.calm a.cx.nd pi_w ok p1 p2 p3 (gf _))
        refine SE.plain (fun r s σ st H he hs Q h => w_pe pe (q r s σ st H he hs Q ?_)) (fun _ => rfl) (fun _ _ _ z => by cases z)
        simp only [evE] at h
        rw [← lcF_yes]
        exact h
  | .lc2 e t t1 own own1 it it1, sc, fn, X, W, k, x, a, h, hn => by
    cases x <;> try (simp [chkE] at h; done)
    rename_i elt gens scope pos
    rcases gens with _ | ⟨⟨tg, iter, ifs, as⟩, _ | ⟨⟨tg1, iter1, ifs1, as1⟩, _ | ⟨g3, gens⟩⟩⟩ <;> try (simp [chkE] at h; done)
    by_cases has : as = 0
    case neg => simp [chkE, has] at h
    case pos =>
      subst has
      by_cases has1 : as1 = 0
      case neg => cases ifs <;> simp [chkE, has1] at h
      case pos =>
        subst has1
        cases ifs <;> try (simp [chkE] at h; done)
        cases ifs1 <;> try (simp [chkE] at h; done)
        simp only [chkE, Bool.and_eq_true] at h
        obtain ⟨⟨⟨⟨⟨hc, h1⟩, h2⟩, h3⟩, h4⟩, h5⟩ := h
        obtain ⟨ok, f1, f2, f3, t1', t2'⟩ := frame2 a hc
        obtain ⟨gi, gf⟩ := soundI it sc fn X W k tg iter a h1 h3 (needs_l hn)
        have hi1 : BlkP X scope fun X' => GoodI C X' noX tg1 iter1 (evI T it1) := fun s H D cl fp => (soundI it1 _ _ _ noX k tg1 iter1 (a.blk s H scope D cl fp) h2 h4 (needs_l (needs_r hn))).1
        have gf1 : ∀ env x, foldedSetIterable iter1 env x = pure x := by
          cases it1 with
          | seq e0 => intro env x; simp only [chkI] at h2; exact form_fold (chk_form h2) x
          | _ => intro env x; cases iter1 <;> first | rfl | (simp [chkI] at h2)
        have hE : BlkP X scope fun X' => GoodE C X' noX elt (evE T e) := fun s H D cl fp => (soundE e _ _ _ noX k elt (a.blk s H scope D cl fp) h5 (needs_r (needs_r hn))).e
        refine SE.plain (fun r s σ st H he hs Q h => w_pe (pe_lc2 (own := ownPairs c.N own) (vs1 := own1) a.cx.calm a.cx.nd pi_w ok (by rw [own_map]; exact f3) pgB (fun s H D cl fp => pts_nil) piB pgB (fun s H D cl fp => pts_nil) peB (gf _) gf1) (good_lc2 a.cx (N := c.N) gi f1 f2 t1' t2' hi1 hE he hs ?_)) (fun _ => rfl) (fun _ _ _ z => by cases z)
        simp only [evE] at h
        rw [← lcF2_eq]
        exact h
  | .ssc e t own it d, sc, fn, X, W, k, x, a, h, hn => by
    cases x <;> try (simp [chkE] at h; done)
    rename_i y xs ks pos
    cases y <;> try (simp [chkE] at h; done)
    rename_i nm np
    rcases xs with _ | ⟨y, xs⟩
    · cases ks <;> simp [chkE] at h
    cases y <;> try (cases ks <;> cases xs <;> simp [chkE] at h; done)
    rename_i elt gens scope pos2
    rcases gens with _ | ⟨⟨tg, iter, ifs, as⟩, _ | ⟨g2, gens⟩⟩ <;> try (cases ks <;> cases xs <;> simp [chkE] at h; done)
    by_cases has : as = 0
    case neg => cases ks <;> cases xs <;> simp [chkE, has] at h
    case pos =>
      subst has
      cases xs <;> try (cases ks <;> simp [chkE] at h; done)
      cases ks <;> try (simp [chkE] at h; done)
      simp only [chkE, Bool.and_eq_true, decide_eq_true_eq] at h
      obtain ⟨⟨⟨⟨⟨⟨rfl, hg⟩, hb⟩, hsl⟩, h1⟩, h2⟩, ⟨h3, h4⟩, h5⟩ := h
      have hf : Meet C T c X.prog X.w X.K X.mg X.base k (.free "sorted") := hn _ (by simp only [ndE]; exact List.mem_cons_self)
      have hn' : ∀ n ∈ ndI it ++ (ndE e ++ ndO d), MeetX C T c X k n := fun n m => hn n (by simp only [ndE]; exact List.mem_cons_of_mem _ m)
      obtain ⟨gi, gf⟩ := soundI it sc fn X W k tg iter a h1 h2 (needs_l hn')
      have hE : BlkP X scope fun X' => GoodE C X' noX elt (evE T e) := fun s H D cl fp => (soundE e _ _ _ noX k elt (a.blk s H scope D cl fp) h4 (needs_l (needs_r hn'))).e
      have hsl' : ∀ i ∈ slotsT t, i ∈ own := fun i m => by
        have := List.all_eq_true.mp hsl i m
        simpa using this
      have ok : BlkOk X.N X.env.scope scope (ownPairs c.N own) := by rw [a.N, a.sc]; exact blkOk_by hb
      have tgt : TgtB X scope tg t := fun s H D cl fp st => good_target (a.blk s H scope D cl fp) st t tg h3
      match d, ifs, h5 with
      | .no, [], _ =>
        refine SE.plain (fun r s σ st H he hs Q h => good_ssc a.cx (N := c.N) (glB_gl a.sc hg).1 hf gi ok hsl' tgt (fun s H D cl fp => goodTs_nil) hE (gf _) r s σ st H he hs Q ?_) (fun _ => rfl) (fun _ _ _ z => by cases z)
        simp only [evE] at h
        dsimp only
        rw [← lcF_no]
        exact h
      | .yes v, [x0], h5 =>
        refine SE.plain (fun r s σ st H he hs Q h => good_ssc a.cx (N := c.N) (glB_gl a.sc hg).1 hf gi ok hsl' tgt (fun s H D cl fp => goodTs_one (soundE v _ _ _ noX k x0 (a.blk s H scope D cl fp) h5 (needs_r (needs_r hn'))).t) hE (gf _) r s σ st H he hs Q ?_) (fun _ => rfl) (fun _ _ _ z => by cases z)
        simp only [evE] at h
        dsimp only
        rw [← lcF_yes]
        exact h
  | .ssc2 e t t1 own own1 it it1, sc, fn, X, W, k, x, a, h, hn => by
    cases x <;> try (simp [chkE] at h; done)
    rename_i y xs ks pos
    cases y <;> try (simp [chkE] at h; done)
    rename_i nm np
    rcases xs with _ | ⟨y, xs⟩
    · cases ks <;> simp [chkE] at h
    cases y <;> try (cases ks <;> cases xs <;> simp [chkE] at h; done)
    rename_i elt gens scope pos2
    rcases gens with _ | ⟨⟨tg, iter, ifs, as⟩, _ | ⟨⟨tg1, iter1, ifs1, as1⟩, _ | ⟨g3, gens⟩⟩⟩ <;> try (cases ks <;> cases xs <;> simp [chkE] at h; done)
    by_cases has : as = 0
    case neg => cases ks <;> cases xs <;> simp [chkE, has] at h
    case pos =>
      subst has
      by_cases has1 : as1 = 0
      case neg => cases ks <;> cases xs <;> cases ifs <;> simp [chkE, has1] at h
      case pos =>
        subst has1
        cases xs <;> try (cases ks <;> cases ifs <;> cases ifs1 <;> simp [chkE] at h; done)
        cases ks <;> try (cases ifs <;> cases ifs1 <;> simp [chkE] at h; done)
        cases ifs <;> try (simp [chkE] at h; done)
        cases ifs1 <;> try (simp [chkE] at h; done)
        simp only [chkE, Bool.and_eq_true, decide_eq_true_eq] at h
        obtain ⟨⟨⟨⟨⟨⟨⟨rfl, hg⟩, hc⟩, h1⟩, h2⟩, h3⟩, h4⟩, h5⟩ := h
        obtain ⟨ok, f1, f2, f3, t1', t2'⟩ := frame2 a hc
        have hf : Meet C T c X.prog X.w X.K X.mg X.base k (.free "sorted") := hn _ (by simp only [ndE]; exact List.mem_cons_self)
        have hn' : ∀ n ∈ ndI it ++ (ndI it1 ++ ndE e), MeetX C T c X k n := fun n m => hn n (by simp only [ndE]; exact List.mem_cons_of_mem _ m)
        obtain ⟨gi, gf⟩ := soundI it sc fn X W k tg iter a h1 h3 (needs_l hn')
        have hi1 : BlkP X scope fun X' => GoodI C X' noX tg1 iter1 (evI T it1) := fun s H D cl fp => (soundI it1 _ _ _ noX k tg1 iter1 (a.blk s H scope D cl fp) h2 h4 (needs_l (needs_r hn'))).1
        have gf1 : ∀ env x, foldedSetIterable iter1 env x = pure x := by
          cases it1 with
          | seq e0 => intro env x; simp only [chkI] at h2; exact form_fold (chk_form h2) x
          | _ => intro env x; cases iter1 <;> first | rfl | (simp [chkI] at h2)
        have hE : BlkP X scope fun X' => GoodE C X' noX elt (evE T e) := fun s H D cl fp => (soundE e _ _ _ noX k elt (a.blk s H scope D cl fp) h5 (needs_r (needs_r hn'))).e
        refine SE.plain (fun r s σ st H he hs Q h => good_ssc2 a.cx (N := c.N) (glB_gl a.sc hg).1 hf gi ok f1 f2 f3 t1' t2' hi1 hE (gf _) gf1 r s σ st H he hs Q ?_) (fun _ => rfl) (fun _ _ _ z => by cases z)
        simp only [evE] at h
        dsimp only
        rw [← lcF2_eq]
        exact h
  | .dsub g kvs p, sc, fn, X, W, k, x, a, h, hn => by
    cases x <;> try (simp [chkE] at h; done)
    rename_i y z pos
    cases y <;> try (simp [chkE] at h; done)
    simp only [chkE, Bool.and_eq_true, decide_eq_true_eq] at h
    obtain ⟨⟨rfl, hg⟩, h1⟩ := h
    obtain ⟨g1, g2, g3⟩ := glB_gl a.sc hg
    have hd : Meet C T c X.prog X.w X.K X.mg X.base k (.dct g kvs) := hn _ (by simp only [ndE]; exact List.mem_cons_self)
    have s1 := soundE p sc fn X W k _ a h1 (fun n m => hn n (by simp only [ndE]; exact List.mem_cons_of_mem _ m))
    exact SE.plain (good_dsub g1 g2 hd s1.e (form_ix (chk_form h1))) (fun _ => rfl) (fun _ _ _ z => by cases z)
  | .din neg g kvs p, sc, fn, X, W, k, x, a, h, hn => by
    cases x <;> try (simp [chkE] at h; done)
    rename_i y ops zs pos
    rcases ops with _ | ⟨op', _ | ⟨o2, ops⟩⟩ <;> try (simp [chkE] at h; done)
    rcases zs with _ | ⟨z, _ | ⟨z2, zs⟩⟩
    · simp [chkE] at h
    case cons.cons => cases z <;> simp [chkE] at h
    cases z <;> try (simp [chkE] at h; done)
    simp only [chkE, Bool.and_eq_true, decide_eq_true_eq] at h
    obtain ⟨⟨⟨rfl, rfl⟩, hg⟩, h1⟩ := h
    obtain ⟨g1, g2, g3⟩ := glB_gl a.sc hg
    have hd : Meet C T c X.prog X.w X.K X.mg X.base k (.dct g kvs) := hn _ (by simp only [ndE]; exact List.mem_cons_self)
    have s1 := soundE p sc fn X W k _ a h1 (fun n m => hn n (by simp only [ndE]; exact List.mem_cons_of_mem _ m))
    exact ⟨good_din neg g1 g2 hd s1.e, goodT_din neg g1 g2 hd s1.e, fun ⟨_, _, _, z⟩ => by cases z⟩
  | .nev, sc, fn, X, W, k, x, a, h, hn => ⟨fun r s σ st H he hs Q h => h.elim, fun r s σ st H he hs Q h => h.elim, fun _ r s σ st H he hs Q h => h.elim⟩
theorem soundL : ∀ (es : RL) (sc : Scope) (fn : Str → Bool) (X : Cx) (W : WX) (k : Nat) (xs : List Expr), At c sc fn X W k → chkL c sc fn es xs = true → (∀ n ∈ ndL es, MeetX C T c X k n) → GoodL C X W xs (evL T es)
  | .nil, sc, fn, X, W, k, xs, a, h, hn => by
    cases xs with
    | nil => exact good_nil
    | cons _ _ => simp [chkL] at h
  | .cons e es, sc, fn, X, W, k, xs, a, h, hn => by
    cases xs with
    | nil => simp [chkL] at h
    | cons x xs =>
      simp only [chkL, Bool.and_eq_true] at h
      have s1 := soundE e sc fn X W k _ a h.1 (needs_l hn)
      exact good_cons s1.e (soundL es sc fn X W k _ a h.2 (needs_r hn)) (form_star (chk_form h.1))
  | .star e es, sc, fn, X, W, k, xs, a, h, hn => by
    cases xs with
    | nil => simp [chkL] at h
    | cons x xs =>
      cases x <;> try (simp [chkL] at h; done)
      simp only [chkL, Bool.and_eq_true] at h
      have s1 := soundE e sc fn X W k _ a h.1 (needs_l hn)
      exact good_star s1.e (soundL es sc fn X W k _ a h.2 (needs_r hn))
theorem soundO : ∀ (o : RO) (sc : Scope) (fn : Str → Bool) (X : Cx) (W : WX) (k : Nat) (x : Option Expr), At c sc fn X W k → chkO c sc fn o x = true → (∀ n ∈ ndO o, MeetX C T c X k n) → GoodP C X W x (evP T o)
  | .no, sc, fn, X, W, k, x, a, h, hn => by
    cases x with
    | none => exact good_no
    | some _ => simp [chkO] at h
  | .yes e, sc, fn, X, W, k, x, a, h, hn => by
    cases x with
    | none => simp [chkO] at h
    | some x =>
      simp only [chkO] at h
      exact good_yes (soundE e sc fn X W k _ a h hn).e
theorem soundI : ∀ (i : RI) (sc : Scope) (fn : Str → Bool) (X : Cx) (W : WX) (k : Nat) (tg x : Expr), At c sc fn X W k → chkI c sc fn i x = true → (!needTup i || isTupE tg) = true → (∀ n ∈ ndI i, MeetX C T c X k n) → GoodI C X W tg x (evI T i) ∧ ∀ env v, foldedSetIterable x env v = pure v
  | .seq e, sc, fn, X, W, k, tg, x, a, h, ht, hn => by
    simp only [chkI] at h
    exact ⟨good_iseq (soundE e sc fn X W k _ a h hn).e, fun _ v => form_fold (chk_form h) v⟩
  | .rng e, sc, fn, X, W, k, tg, x, a, h, ht, hn => by
    cases x <;> try (simp [chkI] at h; done)
    rename_i y xs ks pos
    cases y <;> try (simp [chkI] at h; done)
    rename_i nm np
    rcases xs with _ | ⟨y, _ | ⟨z, xs⟩⟩ <;> try (simp [chkI] at h; done)
    cases ks <;> try (simp [chkI] at h; done)
    simp only [chkI, Bool.and_eq_true, decide_eq_true_eq] at h
    obtain ⟨⟨rfl, hg⟩, h1⟩ := h
    have hf : Meet C T c X.prog X.w X.K X.mg X.base k (.free "range") := hn _ (by simp only [ndI]; exact List.mem_cons_self)
    have s1 := soundE e sc fn X W k _ a h1 (fun n m => hn n (by simp only [ndI]; exact List.mem_cons_of_mem _ m))
    exact ⟨good_irng (glB_gl a.sc hg).1 hf s1.e (form_star (chk_form h1)), fun _ _ => rfl⟩
  | .rng3 e1 e2 e3, sc, fn, X, W, k, tg, x, a, h, ht, hn => by
    cases x <;> try (simp [chkI] at h; done)
    rename_i y xs ks pos
    cases y <;> try (simp [chkI] at h; done)
    rename_i nm np
    rcases xs with _ | ⟨y, _ | ⟨z, _ | ⟨z2, _ | ⟨z3, xs⟩⟩⟩⟩ <;> try (simp [chkI] at h; done)
    cases ks <;> try (simp [chkI] at h; done)
    simp only [chkI, Bool.and_eq_true, decide_eq_true_eq] at h
    obtain ⟨⟨⟨⟨rfl, hg⟩, h1⟩, h2⟩, h3⟩ := h
    have hf : Meet C T c X.prog X.w X.K X.mg X.base k (.free "range") := hn _ (by simp only [ndI]; exact List.mem_cons_self)
    have hn' : ∀ n ∈ ndE e1 ++ (ndE e2 ++ ndE e3), MeetX C T c X k n := fun n m => hn n (by simp only [ndI]; exact List.mem_cons_of_mem _ m)
    have s1 := soundE e1 sc fn X W k _ a h1 (needs_l hn')
    have s2 := soundE e2 sc fn X W k _ a h2 (needs_l (needs_r hn'))
    have s3 := soundE e3 sc fn X W k _ a h3 (needs_r (needs_r hn'))
    exact ⟨good_irng3 (glB_gl a.sc hg).1 hf s1.e s2.e s3.e (form_star (chk_form h1)) (form_star (chk_form h2)) (form_star (chk_form h3)), fun _ _ => rfl⟩
  | .rng2 e1 e2, sc, fn, X, W, k, tg, x, a, h, ht, hn => by
    cases x <;> try (simp [chkI] at h; done)
    rename_i y xs ks pos
    cases y <;> try (simp [chkI] at h; done)
    rename_i nm np
    rcases xs with _ | ⟨y, _ | ⟨z, _ | ⟨z2, xs⟩⟩⟩ <;> try (simp [chkI] at h; done)
    cases ks <;> try (simp [chkI] at h; done)
    simp only [chkI, Bool.and_eq_true, decide_eq_true_eq] at h
    obtain ⟨⟨⟨rfl, hg⟩, h1⟩, h2⟩ := h
    have hf : Meet C T c X.prog X.w X.K X.mg X.base k (.free "range") := hn _ (by simp only [ndI]; exact List.mem_cons_self)
    have s1 := soundE e1 sc fn X W k _ a h1 (fun n m => hn n (by simp only [ndI]; exact List.mem_cons_of_mem _ (List.mem_append_left _ m)))
    have s2 := soundE e2 sc fn X W k _ a h2 (fun n m => hn n (by simp only [ndI]; exact List.mem_cons_of_mem _ (List.mem_append_right _ m)))
    exact ⟨good_irng2 (glB_gl a.sc hg).1 hf s1.e s2.e (form_star (chk_form h1)) (form_star (chk_form h2)), fun _ _ => rfl⟩
  | .enum e, sc, fn, X, W, k, tg, x, a, h, ht, hn => by
    cases x <;> try (simp [chkI] at h; done)
    rename_i y xs ks pos
    cases y <;> try (simp [chkI] at h; done)
    rename_i nm np
    rcases xs with _ | ⟨y, _ | ⟨z, xs⟩⟩ <;> try (simp [chkI] at h; done)
    cases ks <;> try (simp [chkI] at h; done)
    simp only [chkI, Bool.and_eq_true, decide_eq_true_eq] at h
    obtain ⟨⟨rfl, hg⟩, h1⟩ := h
    have hf : Meet C T c X.prog X.w X.K X.mg X.base k (.free "enumerate") := hn _ (by simp only [ndI]; exact List.mem_cons_self)
    have s1 := soundE e sc fn X W k _ a h1 (fun n m => hn n (by simp only [ndI]; exact List.mem_cons_of_mem _ m))
    exact ⟨good_ienum (glB_gl a.sc hg).1 hf s1.e (form_star (chk_form h1)) (by simpa [needTup] using ht), fun _ _ => rfl⟩
  | .zip e1 e2, sc, fn, X, W, k, tg, x, a, h, ht, hn => by
    cases x <;> try (simp [chkI] at h; done)
    rename_i y xs ks pos
    cases y <;> try (simp [chkI] at h; done)
    rename_i nm np
    rcases xs with _ | ⟨y, _ | ⟨z, _ | ⟨z2, xs⟩⟩⟩ <;> try (simp [chkI] at h; done)
    cases ks <;> try (simp [chkI] at h; done)
    simp only [chkI, Bool.and_eq_true, decide_eq_true_eq] at h
    obtain ⟨⟨⟨rfl, hg⟩, h1⟩, h2⟩ := h
    have hf : Meet C T c X.prog X.w X.K X.mg X.base k (.free "zip") := hn _ (by simp only [ndI]; exact List.mem_cons_self)
    have s1 := soundE e1 sc fn X W k _ a h1 (fun n m => hn n (by simp only [ndI]; exact List.mem_cons_of_mem _ (List.mem_append_left _ m)))
    have s2 := soundE e2 sc fn X W k _ a h2 (fun n m => hn n (by simp only [ndI]; exact List.mem_cons_of_mem _ (List.mem_append_right _ m)))
    exact ⟨good_izip (glB_gl a.sc hg).1 hf s1.e s2.e (form_star (chk_form h1)) (form_star (chk_form h2)) (by simpa [needTup] using ht), fun _ _ => rfl⟩
end
end
end MP

/-! MP, part n: statements. -/
namespace MP
open PySem PySem.Spec PyProof.Rows L2

/-- where statements stand -/
structure AtS (c : KC) (sc : Scope) (X : Cx) (W : WX) (k : Nat) : Prop where
  at_ : At c sc (fun _ => true) X W k
  pass : PassesOwn (model X.prog X.w) X.A X.env X.xe
  kind : sc.kind = .function

def PostF (K : PySem.W.Frag) (r : Rg) (H : Hp) (D : Ends) : Fl → Sto → Prop := fun f st => ∀ r' H', Grow r H r' H' → RepS K r' H' st → match f with
  | .nx s => ∀ σ', RepE K r' H' s σ' → D.nx σ' H'
  | .ct s => ∀ σ', RepE K r' H' s σ' → D.ct σ' H'
  | .bk s => ∀ σ', RepE K r' H' s σ' → D.bk σ' H'
  | .rt v => ∀ u, Rep K r' H' v u → D.rt u H'
def PostXS (C : CT) (K : PySem.W.Frag) (W : WX) (r : Rg) (H : Hp) : PX → Sto → Prop := fun x st => ∀ σ, PostX C K W σ r H x st
theorem PostF.grow {K r H r1 H1 D f st} (g : Grow r H r1 H1) (h : PostF K r H D f st) : PostF K r1 H1 D f st := fun r' H' g2 => h r' H' (g.trans g2)
theorem PostXS.grow {C K W r H r1 H1 x st} (g : Grow r H r1 H1) (h : PostXS C K W r H x st) : PostXS C K W r1 H1 x st := fun σ => (h σ).grow g
def GoodS (C : CT) (X : Cx) (W : WX) (x : Stmt) (f : Env → Sto → Res Fl) : Prop :=
  ∀ r s σ st H, RepE X.K r H s σ → RepS X.K r H st → ∀ D, (f s st).sat (PostF X.K r H D) (PostXS C X.K W r H) → wS X x D σ H
def GoodB (C : CT) (X : Cx) (W : WX) (x : List Stmt) (f : Env → Sto → Res Fl) : Prop :=
  ∀ r s σ st H, RepE X.K r H s σ → RepS X.K r H st → ∀ D, (f s st).sat (PostF X.K r H D) (PostXS C X.K W r H) → wB X x D σ H

section
variable {C : CT} {X : Cx} {W : WX} {k : Nat} {e e1 e2 tg : Expr} {pos : Pos} {f f1 f2 : Env → Sto → Res PV}
theorem GoodE.useS (g : GoodE C X W e f) {r s σ st H} (he : RepE X.K r H s σ) (hs : RepS X.K r H st) {kk : PV → Sto → Res Fl} {D : Ends} {Q : VK}
    (h : ((f s st).bnd kk).sat (PostF X.K r H D) (PostXS C X.K W r H))
    (go : ∀ r1 H1 x u st1, Grow r H r1 H1 → RepE X.K r1 H1 s σ → RepS X.K r1 H1 st1 → Rep X.K r1 H1 x u → (kk x st1).sat (PostF X.K r1 H1 D) (PostXS C X.K W r1 H1) → Q u H1) : wE X e σ H Q := by
  refine g r s σ st H he hs Q (Res.sat_mono ((Res.sat_bnd _ _ _ _).mp h) (fun x st1 hx r1 H1 u g1 hs1 hu => ?_) fun _ _ q => q σ)
  exact go r1 H1 x u st1 g1 (he.grow g1) hs1 hu (Res.sat_mono hx (fun _ _ q => q.grow g1) fun _ _ q => q.grow g1)
theorem goodS_set (c : Cxt X W k) {i : Nat} {x : Str} {px : Pos} (hN : X.N[i]? = some x) (hl : Loc X.env.scope x) (hf : X.fn x = true ∨ X.env.scope.names.lookup x = some .local) (hsw : swapsWith e (some (.Name x px)) pos.line X.env = pure false) (g : GoodE C X W e f) :
    GoodS C X W (.Assign [.Name x px] e pos) (fun s st => (f s st).bnd fun v st1 => .ok (.nx (s.set i (some v))) st1) := by
  intro r s σ st H he hs D h
  refine w_ps (ps_set c.nd hN hl pe_w hsw hf) (g.useS he hs h fun r1 H1 v u st1 g1 he1 hs1 hu h1 => ?_)
  exact h1 r1 H1 (Grow.refl _ _) hs1 _ (he1.set i hu)
/-- a name that the block does not keep as its own local -/
def farN (sc : Scope) : Expr → Bool
  | .Name x _ => !(sc.names.lookup x == some .local)
  | _ => true
def namesOf : Expr → List Expr
  | .Tuple ts _ _ => ts
  | _ => []
/-- a tuple of constants, and a tuple stored into a name that is no plain local, are stored as they stand -/
def tupOdd (sc : Scope) (tg : Expr) : Expr → Bool
  | .Tuple vs _ _ => !(vs.all (foldedForSure 8) || (namesOf tg).any (farN sc))
  | _ => false
theorem stores_none {sc : Scope} (hsc : X.env.scope = sc) {es : List Expr} {n : Nat} {p : Pos} (h : tupOdd sc (.Tuple es n p) e = false) : swappedStores [.Tuple es n p] e X.env = pure none := by
  cases e <;> try rfl
  rename_i vs k2 p2
  have h : vs.all (foldedForSure 8) = true ∨ es.any (farN sc) = true := by
    have h' : (vs.all (foldedForSure 8) || es.any (farN sc)) = true := by
      simp only [tupOdd, namesOf, Bool.not_eq_false'] at h; exact h
    exact Bool.or_eq_true_iff.mp h'
  unfold swappedStores
  dsimp only
  split
  · rfl
  · split
    · rfl
    · split
      · rfl
      · rename_i hn
        rcases h with h | h
        · first | rfl | rw [if_pos h]
        · exfalso
          refine hn ?_
          rw [Bool.or_eq_true]
          left
          rw [bne_iff_ne]
          refine Nat.ne_of_lt (List.length_filterMap_lt_length_iff_exists.mpr ?_)
          obtain ⟨z, hz, hq⟩ := List.any_eq_true.mp h
          refine ⟨z, hz, ?_⟩
          cases z <;> try rfl
          rename_i x px
          have hk : X.env.kindOf x = sc.names.lookup x := by show X.env.scope.names.lookup x = _; rw [hsc]
          simp only [farN, Bool.not_eq_true'] at hq
          simp only [hk, hq, Bool.false_and]
          rfl
theorem goodS_unp {kc : KC} {sc fn} (a : At kc sc fn X W k) {t : RT} (ht : chkT kc sc fn t tg = true) (hp : isTupE tg = true) (he' : tupOdd sc tg e = false) (g : GoodE C X W e f) :
    GoodS C X W (.Assign [tg] e pos) (fun s st => (f s st).bnd fun v st1 => match bindT st1 t v s with
      | some s1 => .ok (.nx s1) st1
      | none => .bad) := by
  intro r s σ st H he hs D h
  obtain ⟨es, n, p, rfl⟩ := isTup_form hp
  have hsw : swapsWithSole [.Tuple es n p] e pos.line X.env = pure false := by cases e <;> rfl
  have hst : swappedStores [.Tuple es n p] e X.env = pure none := stores_none a.sc he'
  refine w_ps (ps_asg pe_w pg_w hsw hst (by rw [chkT_star ht]; rfl)) (g.useS he hs h fun r1 H1 v u st1 g1 he1 hs1 hu h1 => ?_)
  split at h1
  · rename_i s1 hb
    exact good_target a st1 t _ ht r1 H1 s σ v u s1 he1 hu hb _ fun σ1 he2 _ => h1 r1 H1 (Grow.refl _ _) hs1 _ he2
  · exact h1.elim
/-- a, b = x, y by the stores' own order -/
def swapC (sc : Scope) (x y : Str) (px py : Pos) (vs : List Expr) : Bool :=
  decide (sc.names.lookup x = some .local) && decide (sc.names.lookup y = some .local) && (px.line == py.line) && !(x == y) && vs.all (fun e => !isStar e) && !(vs.all (foldedForSure 8)) && !(vs.all (constantsAlone 8))
theorem swap_of {sc : Scope} {x y : Str} {px py pt p2 : Pos} {a b : Expr} {kt k2 : Nat} (hk : sc.kind = .function) (hs : X.env.scope = sc) (h : swapC sc x y px py [a, b] = true) :
    swappedStores [.Tuple [.Name x px, .Name y py] kt pt] (.Tuple [a, b] k2 p2) X.env = pure (some [x, y]) := by
  unfold swapC at h
  simp only [Bool.and_eq_true, decide_eq_true_eq, Bool.not_eq_true'] at h
  obtain ⟨⟨⟨⟨⟨⟨h1, h2⟩, h3⟩, h4⟩, h5⟩, h6⟩, h7⟩ := h
  have ky : X.env.kindOf y = some .local := by show X.env.scope.names.lookup y = _; rw [hs]; exact h2
  have kx : X.env.kindOf x = some .local := by show X.env.scope.names.lookup x = _; rw [hs]; exact h1
  have hb : X.env.blockKind = .function := by unfold Env.blockKind; rw [hs, hk]; rfl
  have h3' : (py.line == px.line) = true := by rw [beq_iff_eq] at h3 ⊢; exact h3.symm
  have hd : ([x, y].eraseDups.length != [x, y].length) = false := by
    have hyx : (y == x) = false := by
      cases q : (y == x) with
      | false => rfl
      | true => rw [eq_of_beq q] at h4; simp at h4
    simp [List.eraseDups_cons, hyx]
  unfold swappedStores
  dsimp only
  have e0 : (!(([Expr.Name x px, Expr.Name y py].length == 2 || [Expr.Name x px, Expr.Name y py].length == 3)) || [a, b].length != [Expr.Name x px, Expr.Name y py].length || X.env.blockKind != .function) = false := by rw [hb]; rfl
  rw [if_neg (by rw [e0]; exact Bool.false_ne_true)]
  rw [if_neg ?_]
  · have hloc : (some NameKind.local == some NameKind.local) = true := rfl
    have hpx : (px.line == px.line) = true := beq_self_eq_true _
    simp only [List.filterMap_cons, List.filterMap_nil, kx, ky, Expr.pos, h3', hpx, hloc, List.head?_cons, Option.map_some, Option.getD_some, Bool.and_self, if_true]
    have hd2 : (List.length [x, y] != List.length [Expr.Name x px, Expr.Name y py] || [x, y].eraseDups.length != [x, y].length) = false := by rw [hd]; rfl
    rw [if_neg (by rw [hd2]; exact Bool.false_ne_true), if_neg (by rw [h6]; exact Bool.false_ne_true), if_neg (by rw [h7]; exact Bool.false_ne_true)]
    try rfl
  · intro hB
    rw [List.any_eq_true] at hB
    obtain ⟨z, hz, hq⟩ := hB
    have := List.all_eq_true.mp h5 z hz
    cases z <;> first | (exact absurd hq Bool.false_ne_true) | (exact absurd this Bool.false_ne_true)
theorem goodS_par (c : Cxt X W k) {sc : Scope} (hk : sc.kind = .function) (hsc : X.env.scope = sc) {i j : Nat} {x y : Str} {px py pt p2 : Pos} {kt k2 : Nat} (hi : X.N[i]? = some x) (hj : X.N[j]? = some y) (hij : i ≠ j) (hsw : swapC sc x y px py [e1, e2] = true)
    (g1 : GoodE C X W e1 f1) (g2 : GoodE C X W e2 f2) : GoodS C X W (.Assign [.Tuple [.Name x px, .Name y py] kt pt] (.Tuple [e1, e2] k2 p2) pos) (fun s st => (f1 s st).bnd fun v st1 => (f2 s st1).bnd fun u st2 => .ok (.nx ((s.set i (some v)).set j (some u))) st2) := by
  intro r s σ st H he hs D h
  have hw := swap_of (X := X) (pt := pt) (p2 := p2) (kt := kt) (k2 := k2) hk hsc hsw
  unfold swapC at hsw
  simp only [Bool.and_eq_true, decide_eq_true_eq, Bool.not_eq_true'] at hsw
  obtain ⟨⟨⟨⟨⟨⟨h1, h2⟩, h3⟩, h4⟩, h5⟩, h6⟩, h7⟩ := hsw
  have s1 : isStar e1 = false := by simpa using (List.all_eq_true.mp h5 e1 (by simp))
  have s2 : isStar e2 = false := by simpa using (List.all_eq_true.mp h5 e2 (by simp))
  refine w_ps (ps_par c.calm c.nd hi hj hij (by rw [hsc]; exact h1) (by rw [hsc]; exact h2) (pa_cons pe_w (pa_cons pe_w pa_nil (starEach_plain s2 _ _)) (starEach_plain s1 _ _)) hw) ?_
  refine g1.useS he hs h fun r1 H1 v u st1 g1' he1 hs1 hu h1 => ?_
  refine g2.useS he1 hs1 h1 fun r2 H2 v2 u2 st2 g2' he2 hs2 hu2 h2 => ?_
  exact ⟨_, _, rfl, h2 r2 H2 (Grow.refl _ _) hs2 _ ((he2.set i (hu.grow g2')).set j hu2)⟩
theorem goodS_put {o i : Expr} {sp : Pos} {fo fi : Env → Sto → Res PV} (g : GoodE C X W e f) (go : GoodE C X W o fo) (gi : GoodE C X W i fi) (hp : okForm i = true) : GoodS C X W (.Assign [.Subscript o i sp] e pos) (fun s st => (f s st).bnd fun v st1 => (fo s st1).bnd fun x st2 => (fi s st2).bnd fun kx st3 => (putP x kx v st3).bnd fun _ st4 => .ok (.nx s) st4) := by
  intro r s σ st H he hs D h
  have hsw : swapsWithSole [.Subscript o i sp] e pos.line X.env = pure false := by cases e <;> rfl
  have hst : swappedStores [.Subscript o i sp] e X.env = pure none := by cases e <;> rfl
  refine w_ps (ps_asg pe_w (pg_sub pe_w pe_w set_list (by cases i <;> first | (intro _; rfl) | cases hp)) hsw hst rfl) ?_
  refine g.useS he hs h fun r1 H1 v u st1 g1 he1 hs1 hu h1 => ?_
  refine go.useS he1 hs1 h1 fun r2 H2 x ux st2 g2 he2 hs2 hx h2 => ?_
  refine gi.useS he2 hs2 h2 fun r3 H3 y uy st3 g3 he3 hs3 hy h3 => ?_
  have hx := hx.grow g3
  have hu := (hu.grow g2).grow g3
  cases hx with
  | loc hn =>
    cases hy with
    | int kx =>
      simp only [putP] at h3
      split at h3
      · rename_i xs hxs
        split at h3
        · rename_i j hj
          obtain ⟨vs, h5, h6⟩ := hs3.obj _ _ _ hn hxs
          refine ⟨_, vs, kx, j, rfl, rfl, h5, by rw [← h6.length]; exact hj, ?_⟩
          exact h3 r3 _ (Grow.write hs3 hn) (hs3.write hn (h6.set hu j)) _ (he3.grow (Grow.write hs3 hn))
        · exact h3.elim
      · exact h3.elim
    | _ => exact h3.elim
  | _ => exact h3.elim
theorem goodS_exp (g : GoodE C X W e f) (hsw : swapsWith e none pos.line X.env = pure false) : GoodS C X W (.Expr e pos) (fun s st => (f s st).bnd fun _ st1 => .ok (.nx s) st1) := by
  intro r s σ st H he hs D h
  refine w_ps (ps_expr pe_w hsw) (g.useS he hs h fun r1 H1 v u st1 g1 he1 hs1 hu h1 => ?_)
  exact h1 r1 H1 (Grow.refl _ _) hs1 _ he1
theorem goodS_ret (g : GoodE C X W e f) : GoodS C X W (.Return (some e) pos) (fun s st => (f s st).bnd fun v st1 => .ok (.rt v) st1) := by
  intro r s σ st H he hs D h
  refine w_ps (ps_ret pe_w) (g.useS he hs h fun r1 H1 v u st1 g1 he1 hs1 hu h1 => ?_)
  exact h1 r1 H1 (Grow.refl _ _) hs1 _ hu
theorem goodS_retN : GoodS C X W (.Return none pos) (fun _ st => .ok (.rt .non) st) := by
  intro r s σ st H he hs D h
  exact w_ps ps_retN (h r H (Grow.refl _ _) hs _ .non)
theorem goodS_pass : GoodS C X W (.Pass pos) (fun s st => .ok (.nx s) st) := by
  intro r s σ st H he hs D h
  exact w_ps ps_pass (h r H (Grow.refl _ _) hs _ he)
theorem goodS_brk : GoodS C X W (.Break pos) (fun s st => .ok (.bk s) st) := by
  intro r s σ st H he hs D h
  exact w_ps ps_break (h r H (Grow.refl _ _) hs _ he)
theorem goodS_cnt : GoodS C X W (.Continue pos) (fun s st => .ok (.ct s) st) := by
  intro r s σ st H he hs D h
  exact w_ps ps_continue (h r H (Grow.refl _ _) hs _ he)
theorem goodS_if {ft : Env → Sto → Res Bool} {a b : List Stmt} {fa fb : Env → Sto → Res Fl} (gt : GoodT C X W e ft) (ga : GoodB C X W a fa) (gb : GoodB C X W b fb) : GoodS C X W (.If e a b pos) (fun s st => (ft s st).bnd fun k st1 => if k then fa s st1 else fb s st1) := by
  intro r s σ st H he hs D h
  refine w_ps (ps_if pt_w pss_w pss_w) (gt r s σ st H he hs _ (Res.sat_mono ((Res.sat_bnd _ _ _ _).mp h) (fun b st1 hx r1 H1 g1 hs1 => ?_) fun _ _ q => q σ))
  cases b with
  | true =>
    simp only [if_true] at hx ⊢
    exact ga r1 s σ st1 H1 (he.grow g1) hs1 D (Res.sat_mono hx (fun _ _ q => q.grow g1) fun _ _ q => q.grow g1)
  | false =>
    simp only [Bool.false_eq_true, if_false] at hx ⊢
    exact gb r1 s σ st1 H1 (he.grow g1) hs1 D (Res.sat_mono hx (fun _ _ q => q.grow g1) fun _ _ q => q.grow g1)
theorem goodB_nil : GoodB C X W [] (fun s st => .ok (.nx s) st) := by
  intro r s σ st H he hs D h
  exact w_pss pss_nil (h r H (Grow.refl _ _) hs _ he)
theorem goodB_cons {x : Stmt} {xs : List Stmt} {fa fb : Env → Sto → Res Fl} (ga : GoodS C X W x fa) (gb : GoodB C X W xs fb) : GoodB C X W (x :: xs) (fun s st => (fa s st).bnd fun f st1 => match f with
    | .nx s1 => fb s1 st1
    | f => .ok f st1) := by
  intro r s σ st H he hs D h
  refine w_pss (pss_cons ps_w pss_w) (ga r s σ st H he hs _ (Res.sat_mono ((Res.sat_bnd _ _ _ _).mp h) (fun fl st1 hx r1 H1 g1 hs1 => ?_) fun _ _ q => q))
  cases fl with
  | nx s1 => exact fun σ' he' => gb r1 s1 σ' st1 H1 he' hs1 D (Res.sat_mono hx (fun _ _ q => q.grow g1) fun _ _ q => q.grow g1)
  | rt v => exact fun u hu => hx r1 H1 g1 hs1 u hu
  | bk s1 => exact fun σ' he' => hx r1 H1 g1 hs1 σ' he'
  | ct s1 => exact fun σ' he' => hx r1 H1 g1 hs1 σ' he'

/-! ### for -/
def runsF (f : PV → Env → Sto → Res Fl) (i m : Nat) (s : Env) (st : Sto) : Src → Res Fl
  | .its xs => forL f (xs.drop i) s st
  | .at n _ e => forA f n e i m s st
def nextF (f : PV → Env → Sto → Res Fl) (i m : Nat) (src : Src) : Fl → Sto → Res Fl := fun r st1 => match r with
  | .nx s1 => runsF f i m s1 st1 src
  | .ct s1 => runsF f i m s1 st1 src
  | .bk s1 => .ok (.nx s1) st1
  | .rt v => .ok (.rt v) st1
theorem turnF {K r1 H1 J src} (w : WalkS K r1 H1 J src) {r : Rg} {H : Hp} {s : Env} {st : Sto} (g : Carry r1 H1 r H) (hs : RepS K r H st) {f : PV → Env → Sto → Res Fl} {i m : Nat} (hm : mOf src i m) {P : Fl → Sto → Prop} {E : PX → Sto → Prop} (h : (runsF f i m s st src).sat P E) :
    (J.stop i H ∧ P (.nx s) st) ∨ ∃ x m', m = m' + 1 ∧ mOf src (i + 1) m' ∧ Yields K J r H st i x ∧ ((f x s st).bnd (nextF f (i + 1) m' src)).sat P E := by
  cases src with
  | its xs =>
    have w := w i r H st g hs
    simp only [runsF] at h
    cases q : xs.drop i with
    | nil =>
      rw [q] at h
      have : xs.length ≤ i := List.drop_eq_nil_iff.mp q
      exact .inl ⟨w.2 (Nat.le_antisymm this hm.2), h⟩
    | cons x rest =>
      rw [q] at h
      obtain ⟨q1, q2⟩ := drop_head q
      have hl := (List.getElem?_eq_some_iff.mp q1).1
      refine .inr ⟨x, xs.length - (i + 1), ?_, ⟨rfl, hl⟩, w.1 x q1, ?_⟩
      · have := hm.1; omega
      · rw [q2] at h; exact h
  | «at» n len e =>
    simp only [runsF] at h
    cases m with
    | zero =>
      simp only [forA] at h
      split at h
      · rename_i xs hx
        split at h
        · rename_i hl
          exact .inl ⟨(w i r H st xs g hs hx).2 hl, h⟩
        · exact h.elim
      · exact h.elim
    | succ m =>
      simp only [forA] at h
      split at h
      · rename_i xs hx
        split at h
        · rename_i x hi
          exact .inr ⟨_, m, rfl, trivial, (w i r H st xs g hs hx).1 x hi, h⟩
        · exact h.elim
      · exact h.elim
theorem goodS_for {kc : KC} {sc fn} (a : At kc sc fn X W k) (hp : PassesOwn (model X.prog X.w) X.A X.env X.xe) {t : RT} {iter : Expr} {body : List Stmt} {fi : Env → Sto → Res Src} {fb : Env → Sto → Res Fl} (ht : chkT kc sc fn t tg = true) (gi : GoodI C X W tg iter fi) (hfold : ∀ v, foldedSetIterable iter X.env v = pure v) (gb : GoodB C X W body fb) :
    GoodS C X W (.For tg iter body [] pos) (fun s st => (fi s st).bnd fun src st1 => forS (fun x s1 st2 => match bindT st2 t x s1 with
      | some s2 => fb s2 st2
      | none => .bad) src s st1) := by
  intro r s σ st H he hs D h
  refine w_ps (ps_for hp a.cx.calm pi_w pg_w pss_w hfold) ?_
  refine gi r s σ st H he hs _ (Res.sat_mono ((Res.sat_bnd _ _ _ _).mp h) (fun src st1 hx r1 H1 J g1 hs1 w => ?_) fun _ _ q => q σ)
  generalize hf : (fun (x : PV) (s1 : Env) (st2 : Sto) => match bindT st2 t x s1 with
      | some s2 => fb s2 st2
      | none => (.bad : Res Fl)) = ff at hx
  refine ⟨fun i m σ2 H2 => ∃ r2 s2 st2, mOf src i m ∧ Grow r1 H1 r2 H2 ∧ RepS X.K r2 H2 st2 ∧ RepE X.K r2 H2 s2 σ2 ∧ (runsF ff i m s2 st2 src).sat (PostF X.K r H D) (PostXS C X.K W r H), ?_, ?_⟩
  · cases src with
    | its xs => exact ⟨xs.length, r1, s, st1, ⟨rfl, Nat.zero_le _⟩, Grow.refl _ _, hs1, he.grow g1, hx⟩
    | «at» n len e => exact ⟨len, r1, s, st1, trivial, Grow.refl _ _, hs1, he.grow g1, hx⟩
  · rintro i m σ2 H2 ⟨r2, s2, st2, hm, gw, hs2, he2, hrun⟩
    have g2 : Grow r H r2 H2 := g1.trans gw
    rcases turnF w gw.carry hs2 hm hrun with ⟨hst, hend⟩ | ⟨x, m', rfl, hm', ⟨hgo, hy⟩, hrest⟩
    · exact .inl ⟨hst, hend r2 H2 g2 hs2 σ2 he2⟩
    · refine .inr ⟨hgo, fun σ3 H3 => ∃ r3 s3 st3, mOf src (i + 1) m' ∧ Grow r1 H1 r3 H3 ∧ RepS X.K r3 H3 st3 ∧ RepE X.K r3 H3 s3 σ3 ∧ (runsF ff (i + 1) m' s3 st3 src).sat (PostF X.K r H D) (PostXS C X.K W r H), fun σ3 H3 q => ⟨m', Nat.lt_succ_self _, q⟩, fun u H3 hyl => ?_⟩
      obtain ⟨gy, hs3, hu⟩ := hy u H3 hyl
      have hrest := (Res.sat_bnd _ _ _ _).mp hrest
      rw [← hf] at hrest
      cases hb : bindT st2 t x s2 with
      | none => simp only [hb] at hrest; exact hrest.elim
      | some s3 =>
        simp only [hb] at hrest
        rw [hf] at hrest
        refine good_target a st2 t tg ht r2 H3 s2 σ2 x u s3 (he2.grow gy) hu hb _ fun σ3 he3 _ => ?_
        refine gb r2 s3 σ3 st2 H3 he3 hs3 _ (Res.sat_mono hrest (fun fl st4 hfl r4 H4 g4 hs4 => ?_) fun x st4 q σ' r' H' cls d g4 hs4 => q σ' r' H' cls d ((g2.trans gy).trans g4) hs4)
        have g24 := gy.trans g4
        cases fl with
        | nx s4 => exact fun σ' he' => ⟨r4, s4, st4, hm', gw.trans g24, hs4, he', hfl⟩
        | ct s4 => exact fun σ' he' => ⟨r4, s4, st4, hm', gw.trans g24, hs4, he', hfl⟩
        | bk s4 => exact fun σ' he' => hfl r4 H4 (g2.trans g24) hs4 σ' he'
        | rt v => exact fun u' hu' => hfl r4 H4 (g2.trans g24) hs4 u' hu'
theorem goodS_whl (hp : PassesOwn (model X.prog X.w) X.A X.env X.xe) {body : List Stmt} {ft : Env → Sto → Res Bool} {fb : Env → Sto → Res Fl} (fu : Nat) (gt : GoodT C X W e ft) (gb : GoodB C X W body fb) : GoodS C X W (.While e body [] pos) (fun s st => whlL ft fb fu s st) := by
  intro r s σ st H he hs D h
  refine w_ps (ps_while hp pt_w pss_w) ?_
  refine ⟨fun m σ2 H2 => ∃ r2 s2 st2, Grow r H r2 H2 ∧ RepS X.K r2 H2 st2 ∧ RepE X.K r2 H2 s2 σ2 ∧ (whlL ft fb m s2 st2).sat (PostF X.K r H D) (PostXS C X.K W r H), ⟨fu, r, s, st, Grow.refl _ _, hs, he, h⟩, ?_⟩
  rintro m σ2 H2 ⟨r2, s2, st2, g2, hs2, he2, hrun⟩
  cases m with
  | zero => exact hrun.elim
  | succ m =>
    refine gt r2 s2 σ2 st2 H2 he2 hs2 _ (Res.sat_mono ((Res.sat_bnd _ _ _ _).mp hrun) (fun b st3 hx r3 H3 g3 hs3 => ?_) fun x st4 q r' H' cls d g4 hs4 => q σ2 r' H' cls d (g2.trans g4) hs4)
    cases b with
    | true =>
      simp only [if_true] at hx ⊢
      refine ⟨fun σ4 H4 => ∃ r4 s4 st4, Grow r H r4 H4 ∧ RepS X.K r4 H4 st4 ∧ RepE X.K r4 H4 s4 σ4 ∧ (whlL ft fb m s4 st4).sat (PostF X.K r H D) (PostXS C X.K W r H), fun σ4 H4 q => ⟨m, Nat.lt_succ_self _, q⟩, ?_⟩
      refine gb r3 s2 σ2 st3 H3 (he2.grow g3) hs3 _ (Res.sat_mono ((Res.sat_bnd _ _ _ _).mp hx) (fun fl st4 hfl r4 H4 g4 hs4 => ?_) fun x st4 q σ' r' H' cls d g4 hs4 => q σ' r' H' cls d ((g2.trans g3).trans g4) hs4)
      have g24 := (g2.trans g3).trans g4
      cases fl with
      | nx s4 => exact fun σ' he' => ⟨r4, s4, st4, g24, hs4, he', hfl⟩
      | ct s4 => exact fun σ' he' => ⟨r4, s4, st4, g24, hs4, he', hfl⟩
      | bk s4 => exact fun σ' he' => hfl r4 H4 g24 hs4 σ' he'
      | rt v => exact fun u' hu' => hfl r4 H4 g24 hs4 u' hu'
    | false =>
      simp only [Bool.false_eq_true, if_false] at hx ⊢
      exact hx r3 H3 (g2.trans g3) hs3 σ2 (he2.grow g3)
end
end MP

/-! MP, part o: checked statements; a def of the text by its body. -/
namespace MP
open PySem PySem.Spec PyProof.Rows L2

def isLC : Expr → Bool
  | .ListComp _ _ _ _ => true
  | _ => false
def lcSw (sc : Scope) (y : Str) (py : Pos) : Expr → Bool
  | .ListComp _ _ scope lp => decide (sc.names.lookup y = some .local) && (py.line == lp.line) && !(scope.names.any fun (n, k) => n == y && (k == .local || k == .cell))
  | _ => false
theorem sw_lc {X : Cx} {sc : Scope} {y : Str} {py : Pos} {e : Expr} {l : Nat} (hk : sc.kind = .function) (hs : X.env.scope = sc) (hf : okForm e = true) : swapsWith e (some (.Name y py)) l X.env = pure (lcSw sc y py e) := by
  cases e <;> first | rfl | cases hf | skip
  rename_i elt gs scope lp
  have hb : X.env.blockKind = .function := by unfold Env.blockKind; rw [hs, hk]; rfl
  have ky : X.env.kindOf y = sc.names.lookup y := by show X.env.scope.names.lookup y = _; rw [hs]
  unfold swapsWith lcSw
  simp only [hb, ky, Expr.pos]
  cases q : List.lookup y sc.names with
  | none => rfl
  | some z => cases z <;> rfl

mutual
def chkS (c : KC) (sc : Scope) : RS → Stmt → Bool
  | .set i e, .Assign [.Name x _] v _ => decide (c.N[i]? = some x) && locB sc (fun _ => true) x && chkE c sc (fun _ => true) e v
  | .unp t e, .Assign [tg] v _ => isTupE tg && !tupOdd sc tg v && chkT c sc (fun _ => true) t tg && chkE c sc (fun _ => true) e v
  | .par i j a b, .Assign [.Tuple [.Name x px, .Name y py] _ _] (.Tuple [p, q] _ _) _ => decide (c.N[i]? = some x) && decide (c.N[j]? = some y) && !(i == j) && swapC sc x y px py [p, q] && chkE c sc (fun _ => true) a p && chkE c sc (fun _ => true) b q
  | .put o i e, .Assign [.Subscript p q _] v _ => chkE c sc (fun _ => true) o p && chkE c sc (fun _ => true) i q && chkE c sc (fun _ => true) e v
  | .exp e, .Expr v _ => !isLC v && chkE c sc (fun _ => true) e v
  | .ret e, .Return (some v) _ => chkE c sc (fun _ => true) e v
  | .retN, .Return none _ => true
  | .ite e a b, .If v p q _ => chkE c sc (fun _ => true) e v && chkB c sc a p && chkB c sc b q
  | .for t it b, .For tg v p [] _ => chkI c sc (fun _ => true) it v && (!needTup it || isTupE tg) && chkT c sc (fun _ => true) t tg && chkB c sc b p
  | .whl e b, .While v p [] _ => chkE c sc (fun _ => true) e v && chkB c sc b p
  | .brk, .Break _ => true
  | .cnt, .Continue _ => true
  | .pas, .Pass _ => true
  | .nev, _ => true
  | _, _ => false
def chkB (c : KC) (sc : Scope) : RB → List Stmt → Bool
  | .nil, [] => true
  | .cons s r, x :: xs => chkS c sc s x && chkB c sc r xs
  | _, _ => false
end
mutual
def ndS : RS → List Need
  | .set _ e => ndE e
  | .unp _ e => ndE e
  | .par _ _ a b => ndE a ++ ndE b
  | .put o i e => ndE o ++ (ndE i ++ ndE e)
  | .exp e => ndE e
  | .ret e => ndE e
  | .retN => []
  | .ite e a b => ndE e ++ (ndB a ++ ndB b)
  | .for _ it b => ndI it ++ ndB b
  | .whl e b => ndE e ++ ndB b
  | .brk => []
  | .cnt => []
  | .pas => []
  | .nev => []
def ndB : RB → List Need
  | .nil => []
  | .cons s r => ndS s ++ ndB r
end

section
variable {C : CT} {T : Tab} {c : KC} {fu : Nat}
theorem sound_setLc {X : Cx} {W : WX} {k : Nat} {sc : Scope} (as : AtS c sc X W k) {e : RE} {i : Nat} {y : Str} {py spos : Pos} {x : Expr} (hN : c.N[i]? = some y) (h : chkE c sc (fun _ => true) e x = true) (hn : ∀ n ∈ ndE e, MeetX C T c X k n) (hsw : lcSw sc y py x = true) :
    GoodS C X W (.Assign [.Name y py] x spos) (fun s st => (evE T e s st).bnd fun v st1 => .ok (.nx (s.set i (some v))) st1) := by
  have a := as.at_
  have hform := chk_form h
  have hsw' := sw_lc (py := py) (y := y) (l := spos.line) as.kind a.sc hform
  rw [hsw] at hsw'
  cases x <;> try (cases hsw; done)
  rename_i elt gens scope pos
  have hloc : sc.names.lookup y = some .local := by
    unfold lcSw at hsw
    rw [Bool.and_eq_true, Bool.and_eq_true, decide_eq_true_eq] at hsw
    exact hsw.1.1
  cases e <;> try (simp [chkE] at h; done)
  case lc e t own it d =>
    rcases gens with _ | ⟨⟨tg, iter, ifs, asy⟩, _ | ⟨g2, gens⟩⟩ <;> try (simp [chkE] at h; done)
    by_cases has : asy = 0
    case neg => simp [chkE, has] at h
    case pos =>
      subst has
      simp only [chkE, Bool.and_eq_true] at h
      obtain ⟨⟨⟨⟨hb, hsl⟩, h1⟩, h2⟩, ⟨h3, h4⟩, h5⟩ := h
      obtain ⟨gi, gf⟩ := soundI (T := T) it sc (fun _ => true) X W k tg iter a h1 h2 (needs_l hn)
      have hE : ∀ (s : Shared) (H : Hp) (D : Addr) (cl : List (Str × Addr)) (fp : List Addr), GoodE C (X.blk s H scope (compEnvC scope cl D X.env) fp) noX elt (evE T e) := fun s H D cl fp =>
        (soundE e _ _ _ noX k elt (a.blk s H scope D cl fp) h4 (needs_l (needs_r hn))).e
      have hsl' : ∀ i ∈ slotsT t, i ∈ own := fun i m => by
        have := List.all_eq_true.mp hsl i m
        simpa using this
      have ok : BlkOk X.N X.env.scope scope (ownPairs c.N own) := by rw [a.N, a.sc]; exact blkOk_by hb
      have tgt := fun (s : Shared) (H : Hp) (D : Addr) (cl : List (Str × Addr)) (fp : List Addr) (st : Sto) => good_target (a.blk s H scope D cl fp) st t tg h3
      have fin : ∀ (te : TE) (ft : Env → Sto → Res Bool), PS X (.Assign [.Name y py] (.ListComp elt [⟨tg, iter, ifs, 0⟩] scope pos) spos) (tAsg te (gName i)) →
          (∀ r s σ st H, RepE X.K r H s σ → RepS X.K r H st → ∀ Q, ((evI T it s st).bnd fun src st1 => (calmR (comp (lcF ft (evE T e) t (wipeE s own)) src st1)).bnd fun ys st2 => if ys.length ≤ sizeLine then .ok (.lst ys) st2 else .bad).sat (PostE X.K r H Q) (PostX C X.K W σ r H) → te σ H Q) →
          (∀ s st, evE T (.lc e t own it d) s st = (evI T it s st).bnd fun src st1 => (calmR (comp (lcF ft (evE T e) t (wipeE s own)) src st1)).bnd fun ys st2 => if ys.length ≤ sizeLine then .ok (.lst ys) st2 else .bad) →
          GoodS C X W (.Assign [.Name y py] (.ListComp elt [⟨tg, iter, ifs, 0⟩] scope pos) spos) (fun s st => (evE T (.lc e t own it d) s st).bnd fun v st1 => .ok (.nx (s.set i (some v))) st1) := by
        intro te ft ps q eqn r s σ st H he hs D h
        refine w_ps ps (q r s σ st H he hs _ ?_)
        rw [← eqn]
        refine Res.sat_mono ((Res.sat_bnd _ _ _ _).mp h) (fun v st1 hv r1 H1 u g1 hs1 hu => ?_) fun _ _ q => q σ
        exact hv r1 H1 g1 hs1 _ ((he.grow g1).set i hu)
      match d, ifs, h5, fin with
      | .no, [], _, fin =>
        obtain ⟨te, ps, q⟩ := good_lc a.cx (N := c.N) (TEX := fun te => PS X (.Assign [.Name y py] (.ListComp elt [⟨tg, iter, [], 0⟩] scope pos) spos) (tAsg te (gName i))) gi ok hsl' tgt (fun s H D cl fp => goodTs_nil) hE
          (fun g tt te p1 p2 p3 => ps_setLc a.cx.calm a.cx.nd (by rw [a.N]; exact hN) (by rw [a.sc]; exact hloc) hsw' pi_w ok p1 p2 p3 (gf _))
        refine fin te _ ps q fun s st => ?_
        simp only [evE]
        rw [← lcF_no]
        try rfl
      | .yes v, [x0], h5, fin =>
        obtain ⟨te, ps, q⟩ := good_lc a.cx (N := c.N) (TEX := fun te => PS X (.Assign [.Name y py] (.ListComp elt [⟨tg, iter, [x0], 0⟩] scope pos) spos) (tAsg te (gName i))) gi ok hsl' tgt
          (fun s H D cl fp => goodTs_one (soundE v _ _ _ noX k x0 (a.blk s H scope D cl fp) h5 (needs_r (needs_r hn))).t) hE
          (fun g tt te p1 p2 p3 => ps_setLc a.cx.calm a.cx.nd (by rw [a.N]; exact hN) (by rw [a.sc]; exact hloc) hsw' pi_w ok p1 p2 p3 (gf _))
        refine fin te _ ps q fun s st => ?_
        simp only [evE]
        rw [← lcF_yes]
        try rfl
  case lc2 e t t1 own own1 it it1 =>
    rcases gens with _ | ⟨⟨tg, iter, ifs, asy⟩, _ | ⟨⟨tg1, iter1, ifs1, as1⟩, _ | ⟨g3, gens⟩⟩⟩ <;> try (simp [chkE] at h; done)
    by_cases has : asy = 0
    case neg => simp [chkE, has] at h
    case pos =>
      subst has
      by_cases has1 : as1 = 0
      case neg => cases ifs <;> simp [chkE, has1] at h
      case pos =>
        subst has1
        cases ifs <;> try (simp [chkE] at h; done)
        cases ifs1 <;> try (simp [chkE] at h; done)
        simp only [chkE, Bool.and_eq_true] at h
        obtain ⟨⟨⟨⟨⟨hc, h1⟩, h2⟩, h3⟩, h4⟩, h5⟩ := h
        obtain ⟨ok, f1, f2, f3, t1', t2'⟩ := frame2 a hc
        obtain ⟨gi, gf⟩ := soundI (T := T) it sc (fun _ => true) X W k tg iter a h1 h3 (needs_l hn)
        have hi1 : BlkP X scope fun X' => GoodI C X' noX tg1 iter1 (evI T it1) := fun s H D cl fp => (soundI it1 _ _ _ noX k tg1 iter1 (a.blk s H scope D cl fp) h2 h4 (needs_l (needs_r hn))).1
        have gf1 : ∀ env x, foldedSetIterable iter1 env x = pure x := by
          cases it1 with
          | seq e0 => intro env x; simp only [chkI] at h2; exact form_fold (chk_form h2) x
          | _ => intro env x; cases iter1 <;> first | rfl | (simp [chkI] at h2)
        have hE : BlkP X scope fun X' => GoodE C X' noX elt (evE T e) := fun s H D cl fp => (soundE e _ _ _ noX k elt (a.blk s H scope D cl fp) h5 (needs_r (needs_r hn))).e
        intro r s σ st H he hs D h
        refine w_ps (ps_setLc2 (own := ownPairs c.N own) (vs1 := own1) a.cx.calm a.cx.nd (by rw [a.N]; exact hN) (by rw [a.sc]; exact hloc) hsw' pi_w ok (by rw [own_map]; exact f3) pgB (fun s H D cl fp => pts_nil) piB pgB (fun s H D cl fp => pts_nil) peB (gf _) gf1) (good_lc2 a.cx (W := W) (N := c.N) gi f1 f2 t1' t2' hi1 hE he hs ?_)
        have h2 : (evE T (.lc2 e t t1 own own1 it it1) s st).sat (PostE X.K r H (fun x H1 => gName i x σ H1 D.nx)) (PostX C X.K W σ r H) := Res.sat_mono ((Res.sat_bnd _ _ _ _).mp h) (fun v st1 hv r1 H1 u g1 hs1 hu => hv r1 H1 g1 hs1 _ ((he.grow g1).set i hu)) fun _ _ q => q σ
        simp only [evE] at h2
        rw [← lcF2_eq]
        exact h2
  case nev => exact fun r s σ st H he hs D h => h.elim
mutual
theorem soundS : ∀ (x : RS) (sc : Scope) (X : Cx) (W : WX) (k : Nat) (s : Stmt), AtS c sc X W k → chkS c sc x s = true → (∀ n ∈ ndS x, MeetX C T c X k n) → GoodS C X W s (evS T fu x)
  | .set i e, sc, X, W, k, s, a, h, hn => by
    cases s <;> try (simp [chkS] at h; done)
    rename_i tgs v pos
    rcases tgs with _ | ⟨tg, tgs⟩
    · simp [chkS] at h
    cases tg <;> try (simp [chkS] at h; done)
    cases tgs <;> try (simp [chkS] at h; done)
    simp only [chkS, Bool.and_eq_true, decide_eq_true_eq] at h
    obtain ⟨⟨h1, h2⟩, h3⟩ := h
    obtain ⟨l1, l2⟩ := locB_loc h2
    rename_i y py
    cases q : lcSw sc y py v with
    | true => exact sound_setLc a h1 h3 hn q
    | false => exact goodS_set a.at_.cx (by rw [a.at_.N]; exact h1) (by rw [a.at_.sc]; exact l1) (by rw [a.at_.fn, a.at_.sc]; exact l2) (by rw [sw_lc a.kind a.at_.sc (chk_form h3), q]) (soundE e sc _ X W k v a.at_ h3 hn).e
  | .unp t e, sc, X, W, k, s, a, h, hn => by
    cases s <;> try (simp [chkS] at h; done)
    rename_i tgs v pos
    rcases tgs with _ | ⟨tg, _ | ⟨tg2, tgs⟩⟩
    · simp [chkS] at h
    case cons.cons => cases tg <;> simp [chkS] at h
    have h' : ((isTupE tg = true ∧ tupOdd sc tg v = false) ∧ chkT c sc (fun _ => true) t tg = true) ∧ chkE c sc (fun _ => true) e v = true := by simpa [chkS] using h
    exact goodS_unp a.at_ h'.1.2 h'.1.1.1 h'.1.1.2 (soundE e sc _ X W k v a.at_ h'.2 hn).e
  | .par i j p q, sc, X, W, k, s, a, h, hn => by
    cases s <;> try (simp [chkS] at h; done)
    rename_i tgs v pos
    rcases tgs with _ | ⟨tg, tgs⟩
    · simp [chkS] at h
    cases tg <;> try (simp [chkS] at h; done)
    rename_i ts kt tp
    rcases ts with _ | ⟨t1, ts⟩
    · cases tgs <;> simp [chkS] at h
    cases t1 <;> try (cases tgs <;> simp [chkS] at h; done)
    rcases ts with _ | ⟨t2, ts⟩
    · cases tgs <;> simp [chkS] at h
    cases t2 <;> try (cases tgs <;> simp [chkS] at h; done)
    cases ts <;> try (cases tgs <;> simp [chkS] at h; done)
    cases tgs <;> try (simp [chkS] at h; done)
    · cases v <;> try (simp [chkS] at h; done)
      rename_i vs k2 p2
      rcases vs with _ | ⟨v1, _ | ⟨v2, _ | ⟨v3, vs⟩⟩⟩ <;> try (simp [chkS] at h; done)
      simp only [chkS, Bool.and_eq_true, decide_eq_true_eq, Bool.not_eq_true', beq_eq_false_iff_ne] at h
      obtain ⟨⟨⟨⟨⟨h1, h2⟩, h3⟩, h4⟩, h5⟩, h6⟩ := h
      exact goodS_par a.at_.cx a.kind a.at_.sc (by rw [a.at_.N]; exact h1) (by rw [a.at_.N]; exact h2) h3 h4 (soundE p sc _ X W k _ a.at_ h5 (needs_l hn)).e (soundE q sc _ X W k _ a.at_ h6 (needs_r hn)).e
  | .put o i e, sc, X, W, k, s, a, h, hn => by
    cases s <;> try (simp [chkS] at h; done)
    rename_i tgs v pos
    rcases tgs with _ | ⟨tg, tgs⟩
    · simp [chkS] at h
    cases tg <;> try (simp [chkS] at h; done)
    cases tgs <;> try (simp [chkS] at h; done)
    simp only [chkS, Bool.and_eq_true] at h
    obtain ⟨⟨h1, h2⟩, h3⟩ := h
    exact goodS_put (soundE e sc _ X W k _ a.at_ h3 (needs_r (needs_r hn))).e (soundE o sc _ X W k _ a.at_ h1 (needs_l hn)).e (soundE i sc _ X W k _ a.at_ h2 (needs_l (needs_r hn))).e (chk_form h2)
  | .exp e, sc, X, W, k, s, a, h, hn => by
    cases s <;> try (simp [chkS] at h; done)
    rename_i v pos
    simp only [chkS, Bool.and_eq_true, Bool.not_eq_true'] at h
    refine goodS_exp (soundE e sc _ X W k _ a.at_ h.2 hn).e ?_
    have hf := chk_form h.2
    have hl := h.1
    cases v <;> first | rfl | (exact absurd hf Bool.false_ne_true) | (exact absurd hl.symm Bool.false_ne_true)
  | .ret e, sc, X, W, k, s, a, h, hn => by
    cases s <;> try (simp [chkS] at h; done)
    rename_i v pos
    cases v <;> try (simp [chkS] at h; done)
    simp only [chkS] at h
    exact goodS_ret (soundE e sc _ X W k _ a.at_ h hn).e
  | .retN, sc, X, W, k, s, a, h, hn => by
    cases s <;> try (simp [chkS] at h; done)
    rename_i v pos
    cases v <;> try (simp [chkS] at h; done)
    exact goodS_retN
  | .ite e p q, sc, X, W, k, s, a, h, hn => by
    cases s <;> try (simp [chkS] at h; done)
    simp only [chkS, Bool.and_eq_true] at h
    exact goodS_if (soundE e sc _ X W k _ a.at_ h.1.1 (needs_l hn)).t (soundB p sc X W k _ a h.1.2 (needs_l (needs_r hn))) (soundB q sc X W k _ a h.2 (needs_r (needs_r hn)))
  | .for t it b, sc, X, W, k, s, a, h, hn => by
    cases s <;> try (simp [chkS] at h; done)
    rename_i tg v p els pos
    cases els <;> try (simp [chkS] at h; done)
    simp only [chkS, Bool.and_eq_true] at h
    obtain ⟨⟨⟨h1, h2⟩, h3⟩, h4⟩ := h
    obtain ⟨gi, gf⟩ := soundI (C := C) (T := T) it sc (fun _ => true) X W k tg v a.at_ h1 h2 (needs_l hn)
    exact goodS_for a.at_ a.pass h3 gi (gf _) (soundB b sc X W k _ a h4 (needs_r hn))
  | .whl e b, sc, X, W, k, s, a, h, hn => by
    cases s <;> try (simp [chkS] at h; done)
    rename_i v p els pos
    cases els <;> try (simp [chkS] at h; done)
    simp only [chkS, Bool.and_eq_true] at h
    exact goodS_whl a.pass fu (soundE e sc _ X W k _ a.at_ h.1 (needs_l hn)).t (soundB b sc X W k _ a h.2 (needs_r hn))
  | .brk, sc, X, W, k, s, a, h, hn => by
    cases s <;> try (simp [chkS] at h; done)
    exact goodS_brk
  | .cnt, sc, X, W, k, s, a, h, hn => by
    cases s <;> try (simp [chkS] at h; done)
    exact goodS_cnt
  | .pas, sc, X, W, k, s, a, h, hn => by
    cases s <;> try (simp [chkS] at h; done)
    exact goodS_pass
  | .nev, sc, X, W, k, s, a, h, hn => fun r s σ st H he hs D h => h.elim
theorem soundB : ∀ (x : RB) (sc : Scope) (X : Cx) (W : WX) (k : Nat) (s : List Stmt), AtS c sc X W k → chkB c sc x s = true → (∀ n ∈ ndB x, MeetX C T c X k n) → GoodB C X W s (evB T fu x)
  | .nil, sc, X, W, k, s, a, h, hn => by
    cases s with
    | nil => exact goodB_nil
    | cons _ _ => simp [chkB] at h
  | .cons x r, sc, X, W, k, s, a, h, hn => by
    cases s with
    | nil => simp [chkB] at h
    | cons y ys =>
      simp only [chkB, Bool.and_eq_true] at h
      exact goodB_cons (soundS x sc X W k y a h.1 (needs_l hn)) (soundB r sc X W k ys a h.2 (needs_r hn))
end
end
end MP

/-! MP, part p: what a def made is no longer written; a def by its body. -/
namespace MP
open PySem PySem.Spec PyProof.Rows L2

theorem PV.dat_tup {f} {xs : List PV} : mapLoc f (.tup xs) = (mapLocs f xs).map .tup := by simp only [mapLoc]
theorem PV.dat_lst {f} {xs : List PV} : mapLoc f (.lst xs) = (mapLocs f xs).map .lst := by simp only [mapLoc]
section
variable {K : PySem.W.Frag} {r r' : Rg} {H : Hp} {f : Nat → Option PV}
mutual
theorem Rep.mapLoc (hr : ∀ a, a ∉ r → a ∉ r') (hf : ∀ m a v', r.pl[m]? = some a → f m = some v' → Rep K r' H v' (.ref a)) : ∀ {v v' : PV} {u : V}, Rep K r H v u → MP.mapLoc f v = some v' → Rep K r' H v' u
  | _, _, _, .non, e => by simp only [MP.mapLoc] at e; cases e; exact .non
  | _, _, _, .bl b, e => by simp only [MP.mapLoc] at e; cases e; exact .bl b
  | _, _, _, .int b, e => by simp only [MP.mapLoc] at e; cases e; exact .int b
  | _, _, _, .str b, e => by simp only [MP.mapLoc] at e; cases e; exact .str b
  | _, _, _, .tup im q, e => by
    rw [PV.dat_tup] at e
    obtain ⟨ys, e1, rfl⟩ := Option.map_eq_some_iff.mp e
    exact .tup (im.imp (fun z => ⟨z.1, hr _ z.2⟩) id) (Reps.mapLoc hr hf q e1)
  | _, _, _, .lst im q, e => by
    rw [PV.dat_lst] at e
    obtain ⟨ys, e1, rfl⟩ := Option.map_eq_some_iff.mp e
    exact .lst (im.imp (fun z => ⟨z.1, hr _ z.2⟩) id) (Reps.mapLoc hr hf q e1)
  | _, _, _, .dct d h n, e => by simp only [MP.mapLoc] at e; cases e; exact .dct d h (hr _ n)
  | _, _, _, .loc h, e => by simp only [MP.mapLoc] at e; exact hf _ _ _ h e
theorem Reps.mapLoc (hr : ∀ a, a ∉ r → a ∉ r') (hf : ∀ m a v', r.pl[m]? = some a → f m = some v' → Rep K r' H v' (.ref a)) : ∀ {v v' : List PV} {u : List V}, Reps K r H v u → MP.mapLocs f v = some v' → Reps K r' H v' u
  | _, _, _, .nil, e => by simp only [MP.mapLocs] at e; cases e; exact .nil
  | _, _, _, .cons h q, e => by
    simp only [MP.mapLocs] at e
    obtain ⟨y, e1, e2⟩ := Option.bind_eq_some_iff.mp e
    obtain ⟨ys, e3, rfl⟩ := Option.map_eq_some_iff.mp e2
    exact .cons (Rep.mapLoc hr hf h e1) (Reps.mapLoc hr hf q e3)
end
end
def Rg.low (r : Rg) (k : Nat) : Rg := ⟨r.pl.take k, r.hid⟩
theorem Rg.low_out {r : Rg} {k : Nat} (a : Addr) (h : a ∉ r) : a ∉ r.low k := fun m => h (m.imp (fun z => List.mem_of_mem_take z) id)
theorem take_out {A : Type} {xs : List A} (h : xs.Nodup) {k m : Nat} {a : A} (hm : xs[m]? = some a) (hk : k ≤ m) : a ∉ xs.take k := by
  intro z
  obtain ⟨i, e⟩ := List.mem_iff_getElem?.mp z
  rw [List.getElem?_take] at e
  split at e
  · rename_i hi
    obtain ⟨h1, e1⟩ := List.getElem?_eq_some_iff.mp e
    obtain ⟨h2, e2⟩ := List.getElem?_eq_some_iff.mp hm
    have := (List.getElem_inj h).mp (e1.trans e2.symm)
    omega
  · cases e
theorem resAt_rep {K r H st} (hs : RepS K r H st) (k : Nat) : ∀ (n m : Nat) (a : Addr) (v : PV), r.pl[m]? = some a → resAt k st n m = some v → Rep K (r.low k) H v (.ref a) := by
  have low : ∀ (m : Nat) (a : Addr) (v : PV), m < k → r.pl[m]? = some a → some (.loc m) = some v → Rep K (r.low k) H v (.ref a) := fun m a v hm h e => by
    cases e
    refine .loc ?_
    show (r.pl.take k)[m]? = some a
    rw [List.getElem?_take, if_pos hm]; exact h
  intro n
  induction n with
  | zero =>
    intro m a v h e
    unfold resAt at e
    split at e
    · rename_i hm; exact low m a v hm h e
    · cases e
  | succ n ih =>
    intro m a v h e
    unfold resAt at e
    split at e
    · rename_i hm; exact low m a v hm h e
    · rename_i hm
      split at e
      · rename_i xs hx
        obtain ⟨ys, e1, rfl⟩ := Option.map_eq_some_iff.mp e
        obtain ⟨vs, h1, h2⟩ := hs.obj _ _ _ h hx
        refine .lst (.inl ⟨.inl h1, fun z => ?_⟩) (h2.mapLoc Rg.low_out ih e1)
        rcases z with z | z
        · exact take_out hs.nd h (by omega) z
        · exact (hs.hid a z).1 (List.mem_of_getElem? h)
      · cases e
theorem dropO_get {f : Nat → Option PV} : ∀ {st st' : Sto} {n : Nat} {ys : List PV}, dropO f st = some st' → st'[n]? = some (.lst ys) → ∃ xs, st[n]? = some (.lst xs) ∧ mapLocs f xs = some ys
  | [], st', n, ys, e, h => by simp only [dropO] at e; cases e; simp at h
  | .lst zs :: os, st', n, ys, e, h => by
    simp only [dropO] at e
    obtain ⟨ws, e1, e2⟩ := Option.bind_eq_some_iff.mp e
    obtain ⟨os', e3, rfl⟩ := Option.map_eq_some_iff.mp e2
    cases n with
    | zero => simp at h; subst h; exact ⟨zs, rfl, e1⟩
    | succ n =>
      obtain ⟨xs, h1, h2⟩ := dropO_get (st := os) (n := n) e3 (by simpa using h)
      exact ⟨xs, by simpa using h1, h2⟩
theorem dropO_length {f : Nat → Option PV} : ∀ {st st' : Sto}, dropO f st = some st' → st'.length = st.length
  | [], st', e => by simp only [dropO] at e; cases e; rfl
  | .lst zs :: os, st', e => by
    simp only [dropO] at e
    obtain ⟨ws, e1, e2⟩ := Option.bind_eq_some_iff.mp e
    obtain ⟨os', e3, rfl⟩ := Option.map_eq_some_iff.mp e2
    simp [dropO_length e3]
theorem drop_store {K r H st} (hs : RepS K r H st) (k n : Nat) {st' : Sto} (e : dropO (resAt k st n) (st.take k) = some st') : RepS K (r.low k) H st' := by
  refine ⟨?_, ?_, fun m a o h1 h2 => ?_, fun a m => ⟨fun z => (hs.hid a m).1 (List.mem_of_mem_take z), (hs.hid a m).2⟩⟩
  · show (r.pl.take k).length = _
    rw [dropO_length e]
    simp [hs.len]
  · exact hs.nd.sublist (List.take_sublist _ _)
  · cases o with
    | lst ys =>
      obtain ⟨xs, h3, h4⟩ := dropO_get e h2
      have h1 : (r.pl.take k)[m]? = some a := h1
      rw [List.getElem?_take] at h1 h3
      split at h1
      · rename_i hm
        rw [if_pos hm] at h3
        obtain ⟨vs, h5, h6⟩ := hs.obj _ _ _ h1 h3
        exact ⟨vs, h5, h6.mapLoc Rg.low_out (resAt_rep hs k n) h4⟩
      · cases h1
theorem drop_grow {K r H r1 H1 st} (hs : RepS K r H st) (g : Grow r H r1 H1) : Grow r H (r1.low st.length) H1 := by
  obtain ⟨new, e, _⟩ := g.ext
  refine ⟨⟨[], ?_, fun a m => by cases m⟩, g.hid, g.keep, g.same, g.there⟩
  show r1.pl.take st.length = _
  rw [e, ← hs.len]
  simp
theorem drop_sat {C : CT} {K r H st} (hs : RepS K r H st) {res : Res PV} {Q : VK} {E : XK}
    (h : (dropRes st.length res).sat (PostE K r H Q) (fun x st1 => ∀ r' H' cls d, Grow r H r' H' → RepS K r' H' st1 → RepX C K r' H' x cls d → E cls d H')) :
    res.sat (PostE K r H Q) (fun x st1 => ∀ r' H' cls d, Grow r H r' H' → RepS K r' H' st1 → RepX C K r' H' x cls d → E cls d H') := by
  cases res with
  | bad => exact h
  | ok v st1 =>
    simp only [dropRes] at h
    split at h
    · rename_i u st2 e1 e2
      intro r' H' w g hs1 hv
      exact h (r'.low st.length) H' w (drop_grow hs g) (drop_store hs1 _ 8 e2) (hv.mapLoc Rg.low_out (resAt_rep hs1 _ 8) e1)
    · exact h.elim
  | exc x st1 =>
    simp only [dropRes] at h
    split at h
    · rename_i u st2 e1 e2
      intro r' H' cls d g hs1 hx
      refine h (r'.low st.length) H' cls d (drop_grow hs g) (drop_store hs1 _ 8 e2) ⟨hx.1, ?_⟩
      have := hx.2
      cases d with
      | none =>
        have this : x.fs = [] := this
        rw [this] at e1
        simp only [mapLocs] at e1
        cases e1
        rfl
      | some d =>
        obtain ⟨vs, h1, h2, h3⟩ := this
        exact ⟨vs, h1, Rg.low_out _ h2, h3.mapLoc Rg.low_out (resAt_rep hs1 _ 8) e1⟩
    · exact h.elim

theorem start_rep {K r H} {N : List Str} {args : List PV} {vs : List V} (h : Reps K r H args vs) : RepE K r H (args.map some ++ List.replicate (N.length - args.length) none) (start N vs) := by
  have hl := h.length
  unfold L2.start
  refine ⟨by simp [hl], fun i v e => ?_⟩
  by_cases hi : i < args.length
  · rw [List.getElem?_append_left (by simpa using hi), List.getElem?_map] at e
    obtain ⟨x, e1, e2⟩ := Option.map_eq_some_iff.mp e
    cases e2
    obtain ⟨u, h1, h2⟩ := h.get e1
    refine ⟨u, ?_, h2⟩
    rw [List.getElem?_append_left (by simp; omega), List.getElem?_map, h1]
    rfl
  · rw [List.getElem?_append_right (by simpa using hi)] at e
    have := (List.getElem?_eq_some_iff.mp e)
    simp at this
section
variable {C : CT} {T : Tab} {c : KC}
/-- a def by its checked body -/
theorem fnG_of {P : Program} {w : World} {K : PySem.W.Frag} {mg : Str → Option Value} {base : Heap} {k : Nat} {f : Addr} {name qual : Str} {params : Arguments} {body : List Stmt} {scope : Scope} {dV kV doc pm cdv ct oc : Value} {an od : Option Addr}
    {osl : Array (Option Value)} {ps : List Str} (lk : K.lookup f = some ⟨oc, od, .func (PySem.W.fnOf name qual params body scope dV kV doc pm an cdv ct), osl⟩) (hcd : PySem.W.codeIn K cdv qual = true) (S : FnScope c.N ps scope)
    {b : RB} (hD : base.NoDigits) (fu : Nat) (kp : Bool) (hchk : chkB c scope b body = true) (hn : ∀ n ∈ ndB b, Meet C T c P w K mg base k n) :
    FnG P w K mg base (k + 1) f (PySem.W.fnOf name qual params body scope dV kV doc pm an cdv ct) ps (spOf C K ps.length (run T fu c.N.length ps.length kp b)) := by
  refine ⟨fun vs H Q E h => h.1, fun A outer s H args us vs Q E hr hgd e0 hb r hsp => ?_⟩
  have hl := hsp.1
  have KX : K.In s.heap := e0.mod.kin.keeps fun b o e => (e0.bs b o e).1
  have lim : s.heap.NoLimit := e0.mod.nolimit.keeps fun b o e => (e0.bs b o e).1
  have hkind : ∀ y ∈ ps.zip us, scope.names.lookup y.1 = some .local ∨ (scope.names.lookup y.1 = some .cell ∧ ((cellsFrom (s.heap.objs.size + 1) scope.names []).lookup y.1).isSome = true) := fun ⟨n, v⟩ hy => by
    rcases S.par n (List.of_mem_zip hy).1 with q | q
    · exact .inl q
    · exact .inr ⟨q, PySem.W.cellsFrom_some _ _ _ (.inl q)⟩
  refine codeAny_call_function hr.depth (KX _ _ lk) rfl S.co S.gen rfl (PySem.W.codeRec_of KX hcd) (hb _ _ _ _ ?_)
  refine wpAny_newFunctionEnv_cells S.kind hkind fun env he s1 x => ?_
  subst he
  refine ⟨lim.keeps x.toInCall.keep, codeAny_func ?_⟩
  have hX : At c scope (fun _ => true) (cxOf (CX P w) P w K mg base c.N qual scope f cdv A outer s H E) (fun cls d _ H => E cls d H) k :=
    ⟨⟨rfl, hr.deeper _, hgd, S.nd, takes_of (X := cxOf (CX P w) P w K mg base c.N qual scope f cdv A outer s H E) rfl rfl rfl rfl, hD⟩, rfl, rfl, rfl⟩
  have hA : AtS c scope (cxOf (CX P w) P w K mg base c.N qual scope f cdv A outer s H E) (fun cls d _ H => E cls d H) k := ⟨hX, passes_of rfl, S.kind⟩
  have gB : GoodB C (cxOf (CX P w) P w K mg base c.N qual scope f cdv A outer s H E) (fun cls d _ H => E cls d H) body (evB T fu b) := soundB b scope _ _ k body hA hchk hn
  have I : Inv (cxOf (CX P w) P w K mg base c.N qual scope f cdv A outer s H E) [] (start c.N vs) H s1 := inv_start S hr.hd e0 hl r x
  obtain ⟨_, rg, pargs, st, hargs, hst, hsat⟩ := hsp
  have hq : wB (cxOf (CX P w) P w K mg base c.N qual scope f cdv A outer s H E) body { nx := fun _ H' => Q .non H', rt := Q } (start c.N vs) H := by
    refine gB rg _ _ st H (start_rep (N := c.N) hargs) hst _ ?_
    unfold run at hsat
    rw [if_pos (by rw [hargs.length]; exact hl)] at hsat
    have hsat : ((evB T fu b (pargs.map some ++ List.replicate (c.N.length - pargs.length) none) st).bnd fun f st1 => match f with
      | .rt v => .ok v st1
      | .nx _ => .ok .non st1
      | _ => (.bad : Res PV)).sat (PostE K rg H Q) (fun x st1 => ∀ r' H' cls d, Grow rg H r' H' → RepS K r' H' st1 → RepX C K r' H' x cls d → E cls d H') := by
      cases kp with
      | true => exact hsat
      | false => exact drop_sat hst hsat
    refine Res.sat_mono ((Res.sat_bnd _ _ _ _).mp hsat) (fun fl st1 hf r1 H1 g1 hs1 => ?_) fun x st1 q σ r' H' cls d g1 hs1 hx => q r' H' cls d g1 hs1 hx
    cases fl with
    | rt v => exact fun u hu => hf r1 H1 u g1 hs1 hu
    | nx s1 => exact fun σ' _ => hf r1 H1 .non g1 hs1 .non
    | bk _ => exact hf.elim
    | ct _ => exact hf.elim
  refine wpAny_mono (hq [] s1 I) (fun fl s' hs => ?_) fun e s' hs => hs
  have fin : ∀ {σ' : L2.St} {H' : Hp} {v : V} {u : Value}, Inv (cxOf (CX P w) P w K mg base c.N qual scope f cdv A outer s H E) [] σ' H' s' → RelV v u → Q v H' → CE outer P w H s Q u s' :=
    fun {σ' H' v u} J rv q => ⟨v, H', J.os, J.bare, J.base, J.hok, rv, q⟩
  cases fl with
  | ret u =>
    obtain ⟨v, σ', H', J, rv, q⟩ := hs
    exact fin J rv q
  | next =>
    obtain ⟨σ', H', J, q⟩ := hs
    exact fin (v := V.non) (u := Value.none) J rfl q
  | brk =>
    obtain ⟨_, _, _, q⟩ := hs
    exact False.elim q
  | cont =>
    obtain ⟨_, _, _, q⟩ := hs
    exact False.elim q
/-- .. and it may be called by its name -/
theorem callOk_of {P : Program} {w : World} {K : PySem.W.Frag} {mg : Str → Option Value} {base : Heap} {k : Nat} {f : Addr} {name qual : Str} {params : Arguments} {body : List Stmt} {scope : Scope} {dV kV doc pm cdv ct oc : Value} {an od : Option Addr}
    {osl : Array (Option Value)} {ps : List Str} {x : Str} (hm : mg x = some (.ref f)) (hk : PySem.W.keepIn K (.ref f) = true) (hbd : Binds K (PySem.W.fnOf name qual params body scope dV kV doc pm an cdv ct) ps [])
    (lk : K.lookup f = some ⟨oc, od, .func (PySem.W.fnOf name qual params body scope dV kV doc pm an cdv ct), osl⟩) (hcd : PySem.W.codeIn K cdv qual = true) (S : FnScope c.N ps scope)
    {b : RB} (hD : base.NoDigits) (fu : Nat) (kp : Bool) (hchk : chkB c scope b body = true) (hn : ∀ n ∈ ndB b, Meet C T c P w K mg base k n) :
    CallOk C P w K mg base (k + 1) x (run T fu c.N.length ps.length kp b) :=
  ⟨f, _, ps, hm, hk, hbd, fun args st h => by unfold run; rw [if_neg h], fnG_of lk hcd S hD fu kp hchk hn⟩
end
end MP

/-! MP, part q: all defs of a text at once; the law. -/
namespace MP
open PySem PySem.Spec PyProof.Rows L2

/-- a def: its name, its names in order (parameters first), how many parameters, whether what it makes may be written by its caller, its body -/
structure Row where
  name : String
  N : List String
  np : Nat
  kp : Bool
  body : RB
  ds : List PV
def Row.Ns (r : Row) : List Str := r.N.map Str.ofString
def Row.ps (r : Row) : List Str := r.Ns.take r.np
/-- the defs of a text by their numbers -/
abbrev Rows := List (Nat × Row)
def nmOf (rows : Rows) (f : Nat) : String := match rows.lookup f with
  | some r => r.name
  | none => ""
def kcOf (rows : Rows) (r : Row) : KC := ⟨r.Ns, nmOf rows⟩
/-- what the defs give, at most k calls deep -/
def tab (rows : Rows) (fu : Nat) : Nat → Tab
  | 0 => fun _ _ _ => .bad
  | k + 1 => fun f => match rows.lookup f with
    | some r => run (tab rows fu k) fu r.Ns.length r.ps.length r.kp r.body
    | none => fun _ _ => .bad

/-- a def's text, whatever its names are -/
def Has (rows : Rows) (i n p : Nat) (kp : Bool) (b : RB) : Prop := ∃ r : Row, rows.lookup i = some r ∧ r.Ns.length = n ∧ r.ps.length = p ∧ r.kp = kp ∧ r.body = b
mutual
def PV.same : PV → PV → Bool
  | .non, .non => true
  | .bl a, .bl b => a == b
  | .int a, .int b => a == b
  | .str a, .str b => decide (a = b)
  | .tup a, .tup b => PV.sames a b
  | .lst a, .lst b => PV.sames a b
  | _, _ => false
def PV.sames : List PV → List PV → Bool
  | [], [] => true
  | x :: xs, y :: ys => PV.same x y && PV.sames xs ys
  | _, _ => false
end
mutual
theorem PV.same_eq : ∀ {a b : PV}, PV.same a b = true → a = b
  | .non, b, h => by cases b <;> first | rfl | simp [PV.same] at h
  | .bl a, b, h => by cases b <;> simp [PV.same] at h; rw [h]
  | .int a, b, h => by cases b <;> simp [PV.same] at h; rw [h]
  | .str a, b, h => by cases b <;> simp [PV.same] at h; rw [h]
  | .tup a, b, h => by
    cases b <;> simp [PV.same] at h
    rw [PV.sames_eq h]
  | .lst a, b, h => by
    cases b <;> simp [PV.same] at h
    rw [PV.sames_eq h]
  | .dct a, b, h => by cases b <;> simp [PV.same] at h
  | .loc a, b, h => by cases b <;> simp [PV.same] at h
theorem PV.sames_eq : ∀ {a b : List PV}, PV.sames a b = true → a = b
  | [], [], _ => rfl
  | x :: xs, y :: ys, h => by
    simp only [PV.sames, Bool.and_eq_true] at h
    rw [PV.same_eq h.1, PV.sames_eq h.2]
  | [], _ :: _, h => by simp [PV.sames] at h
  | _ :: _, [], h => by simp [PV.sames] at h
end
/-! the module's values told by K alone -/
mutual
def repK (K : PySem.W.Frag) : PV → Value → Bool
  | .non, u => u == .none
  | .bl b, u => u == .bool b
  | .int i, u => match u with
    | .int j _ => i == j
    | _ => false
  | .str s, u => match u with
    | .str x _ => decide (x = ⟨s.toArray⟩)
    | _ => false
  | .tup xs, u => match u with
    | .ref a => match K.lookup a with
      | some o => o.cls == .type "tuple" && (match o.data with
        | .seq its _ => decide (its.size ≤ sizeLine) && repKs K xs its.toList
        | _ => false)
      | none => false
    | _ => false
  | _, _ => false
def repKs (K : PySem.W.Frag) : List PV → List Value → Bool
  | [], [] => true
  | x :: xs, u :: us => repK K x u && repKs K xs us
  | _, _ => false
end
mutual
theorem repK_rep {K : PySem.W.Frag} : ∀ (v : PV) (u : Value), repK K v u = true → ∃ V, RelV V u ∧ ∀ r H, Rep K r H v V
  | .non, u, h => by
    simp only [repK, beq_iff_eq] at h
    subst h
    exact ⟨.non, rfl, fun _ _ => .non⟩
  | .bl b, u, h => by
    simp only [repK, beq_iff_eq] at h
    subst h
    exact ⟨.bl b, rfl, fun _ _ => .bl b⟩
  | .int i, u, h => by
    simp only [repK] at h
    split at h
    · rw [beq_iff_eq] at h
      subst h
      exact ⟨.int i, ⟨_, rfl⟩, fun _ _ => .int i⟩
    · cases h
  | .str s, u, h => by
    simp only [repK] at h
    split at h
    · rw [decide_eq_true_eq] at h
      subst h
      exact ⟨.str _, ⟨_, rfl⟩, fun _ _ => .str s⟩
    · cases h
  | .tup xs, u, h => by
    simp only [repK] at h
    split at h
    · rename_i a
      split at h
      · rename_i o ho
        rw [Bool.and_eq_true, beq_iff_eq] at h
        obtain ⟨h1, h2⟩ := h
        split at h2
        · rename_i its n hd
          rw [Bool.and_eq_true, decide_eq_true_eq] at h2
          obtain ⟨vs, h3, h4⟩ := repKs_rep xs its.toList h2.2
          exact ⟨.ref a, rfl, fun r H => .tup (.inr ⟨o, its, n, ho, h1, hd, h2.1, h3⟩) (h4 r H)⟩
        · cases h2
      · cases h
    · cases h
  | .lst xs, u, h => by simp [repK] at h
  | .dct xs, u, h => by simp [repK] at h
  | .loc xs, u, h => by simp [repK] at h
theorem repKs_rep {K : PySem.W.Frag} : ∀ (v : List PV) (u : List Value), repKs K v u = true → ∃ V, Vals V u ∧ ∀ r H, Reps K r H v V
  | [], [], _ => ⟨[], .nil, fun _ _ => .nil⟩
  | x :: xs, u :: us, h => by
    simp only [repKs, Bool.and_eq_true] at h
    obtain ⟨v, h1, h2⟩ := repK_rep x u h.1
    obtain ⟨vs, h3, h4⟩ := repKs_rep xs us h.2
    exact ⟨v :: vs, .cons h1 h3, fun r H => .cons (h2 r H) (h4 r H)⟩
  | [], _ :: _, h => by simp [repKs] at h
  | _ :: _, [], h => by simp [repKs] at h
end

/-! a dict of the module told by K alone -/
def keyB (k : List Nat) : Value → Bool
  | .str x _ => decide (x = ⟨k.toArray⟩)
  | _ => false
def dctB (K : PySem.W.Frag) : List DictEntry → List (List Nat × PV) → Bool
  | [], [] => true
  | e :: es, (k, v) :: kvs => keyB k e.key && repK K v e.val && dctB K es kvs
  | _, _ => false
theorem keyB_of {k : List Nat} {v : Value} (h : keyB k v = true) : ∃ t, v = .str ⟨k.toArray⟩ t := by
  unfold keyB at h
  split at h
  · rw [decide_eq_true_eq] at h
    exact ⟨_, by rw [h]⟩
  · cases h
theorem dctB_find {K : PySem.W.Frag} (z : List Nat) : ∀ {es : List DictEntry} {kvs : List (List Nat × PV)}, dctB K es kvs = true → match kvs.lookup z with
    | some v => ∃ e, es.find? (fun e => e.key.isStr ⟨z.toArray⟩) = some e ∧ repK K v e.val = true
    | none => es.find? (fun e => e.key.isStr ⟨z.toArray⟩) = none ∧ es.any (fun e => e.refKey) = false
  | [], [], _ => ⟨rfl, rfl⟩
  | e :: es, (k, v) :: kvs, h => by
    simp only [dctB, Bool.and_eq_true] at h
    obtain ⟨⟨h1, h2⟩, h3⟩ := h
    have ih := dctB_find z h3
    obtain ⟨t, hk⟩ := keyB_of h1
    by_cases q : z = k
    · subst q
      have e1 : (e.key.isStr ⟨z.toArray⟩) = true := by rw [hk]; simp [Value.isStr]
      simp only [List.lookup_cons, beq_self_eq_true, if_true]
      exact ⟨e, by simp only [List.find?_cons, e1], h2⟩
    · have e1 : ¬ (e.key.isStr ⟨z.toArray⟩) = true := by
        rw [hk]
        simp [Value.isStr]
        exact fun h => q h.symm
      have e2 : (z == k) = false := by simp [q]
      simp only [List.lookup_cons, e2]
      have e1 : (e.key.isStr ⟨z.toArray⟩) = false := by simpa using e1
      simp only [List.find?_cons, e1, List.any_cons]
      have e3 : e.refKey = false := by simp [DictEntry.refKey, hk]
      simp only [e3, Bool.false_or]
      exact ih
  | [], _ :: _, h => by simp [dctB] at h
  | _ :: _, [], h => by simp [dctB] at h
def DctAt (K : PySem.W.Frag) (p : Params) (x : String × List (List Nat × PV)) : Prop :=
  ∃ (d : Addr) (es : Array DictEntry) (n : Nat), PySem.W.nsIn K mainGlobals (Str.ofString x.1) = some (some (.ref d)) ∧ K.lookup d = some ⟨.type "dict", none, .dict es n, #[]⟩ ∧ PySem.W.KeysLit p es.toList ∧ (d == sysModules) = false ∧ dctB K es.toList x.2 = true
theorem dct_mk {K : PySem.W.Frag} {p : Params} {x : String × List (List Nat × PV)} {d : Addr} {es : Array DictEntry} {n : Nat} (h1 : PySem.W.nsIn K mainGlobals (Str.ofString x.1) = some (some (.ref d))) (h2 : K.lookup d = some ⟨.type "dict", none, .dict es n, #[]⟩)
    (h3 : PySem.W.KeysLit p es.toList) (h4 : (d == sysModules) = false) (h5 : dctB K es.toList x.2 = true) : DctAt K p x := ⟨d, es, n, h1, h2, h3, h4, h5⟩
theorem DctAt.dctK {K : PySem.W.Frag} {w : World} {mg : Str → Option Value} {base : Heap} {x : String} {kvs : List (List Nat × PV)} (KX : K.In base) (G : base.Ns mainGlobals mg) (h : DctAt K w.params (x, kvs)) : DctK K w mg (Str.ofString x) kvs := by
  obtain ⟨d, es, n, h1, h2, h3, h4, h5⟩ := h
  refine ⟨d, es, n, PySem.W.mg_of KX G h1, ⟨h2, h3, h4⟩, fun z => ?_⟩
  have q := dctB_find z h5
  cases hl : kvs.lookup z with
  | none =>
    rw [hl] at q
    simp only [PySem.W.nsIn, h2, q.1, q.2]
    rfl
  | some v =>
    rw [hl] at q
    obtain ⟨e, e1, e2⟩ := q
    obtain ⟨V, v1, v2⟩ := repK_rep _ _ e2
    refine ⟨e.val, V, ?_, v1, v2⟩
    simp only [PySem.W.nsIn, h2, e1]
def sameKvs : List (List Nat × PV) → List (List Nat × PV) → Bool
  | [], [] => true
  | (a, v) :: xs, (b, u) :: ys => decide (a = b) && PV.same v u && sameKvs xs ys
  | _, _ => false
theorem sameKvs_eq : ∀ {a b : List (List Nat × PV)}, sameKvs a b = true → a = b
  | [], [], _ => rfl
  | (a, v) :: xs, (b, u) :: ys, h => by
    simp only [sameKvs, Bool.and_eq_true, decide_eq_true_eq] at h
    rw [h.1.1, PV.same_eq h.1.2, sameKvs_eq h.2]
  | [], _ :: _, h => by simp [sameKvs] at h
  | _ :: _, [], h => by simp [sameKvs] at h

/-- the defaults of a def as K holds them -/
def DflP (K : PySem.W.Frag) (dV : Value) (ds : List PV) : Prop := (ds = [] ∧ dV = .none) ∨ (ds ≠ [] ∧ ∃ (T : Addr) (o : Obj) (its : List Value) (n : Nat), dV = .ref T ∧ K.lookup T = some o ∧ o.data = .seq its.toArray n ∧ repKs K ds its = true)
/-- a def as the top left it -/
def DefAt (K : PySem.W.Frag) (x : Str) (ds : List PV) (st : Stmt) : Prop :=
  ∃ (f : Addr) (oc : Value) (od an : Option Addr) (osl : Array (Option Value)) (dV kV doc pm cdv ct : Value), PySem.W.nsIn K mainGlobals x = some (some (.ref f)) ∧
    K.lookup f = some ⟨oc, od, .func (PySem.W.fnOf x x (defArgs st) (defBody st) (defScope st) dV kV doc pm an cdv ct), osl⟩ ∧ PySem.W.codeIn K cdv x = true ∧ PySem.W.keepIn K (.ref f) = true ∧ DflP K dV ds
theorem defAt_mk {K : PySem.W.Frag} {x : Str} {st : Stmt} {f : Addr} {oc : Value} {od an : Option Addr} {osl : Array (Option Value)} {kV doc pm cdv ct : Value} (h1 : PySem.W.nsIn K mainGlobals x = some (some (.ref f)))
    (h2 : K.lookup f = some ⟨oc, od, .func (PySem.W.fnOf x x (defArgs st) (defBody st) (defScope st) .none kV doc pm an cdv ct), osl⟩) (h3 : PySem.W.codeIn K cdv x = true) (h4 : PySem.W.keepIn K (.ref f) = true) : DefAt K x [] st :=
  ⟨f, oc, od, an, osl, .none, kV, doc, pm, cdv, ct, h1, h2, h3, h4, .inl ⟨rfl, rfl⟩⟩
theorem defAt_mkD {K : PySem.W.Frag} {x : Str} {ds : List PV} {st : Stmt} {f T : Addr} {o : Obj} {its : List Value} {n : Nat} {oc : Value} {od an : Option Addr} {osl : Array (Option Value)} {kV doc pm cdv ct : Value} (h1 : PySem.W.nsIn K mainGlobals x = some (some (.ref f)))
    (h2 : K.lookup f = some ⟨oc, od, .func (PySem.W.fnOf x x (defArgs st) (defBody st) (defScope st) (.ref T) kV doc pm an cdv ct), osl⟩) (h3 : PySem.W.codeIn K cdv x = true) (h4 : PySem.W.keepIn K (.ref f) = true) (hd : ds ≠ [])
    (h5 : K.lookup T = some o) (h6 : o.data = .seq its.toArray n) (h7 : repKs K ds its = true) : DefAt K x ds st :=
  ⟨f, oc, od, an, osl, .ref T, kV, doc, pm, cdv, ct, h1, h2, h3, h4, .inr ⟨hd, T, o, its, n, rfl, h5, h6, h7⟩⟩
/-- a def's own text: scope, arguments, the body's check -/
structure TextOk (rows : Rows) (fr : List String) (gs : List (String × PV)) (ds : List (String × List (List Nat × PV))) (r : Row) (st : Stmt) : Prop where
  sc : FnScope r.Ns r.ps (defScope st)
  bind : r.ds = [] → ∀ (kV doc pm : Value) (an : Option Addr) (cdv ct : Value) (us : List Value), us.length = r.ps.length →
    bindArgs (PySem.W.fnOf (Str.ofString r.name) (Str.ofString r.name) (defArgs st) (defBody st) (defScope st) .none kV doc pm an cdv ct) ⟨us, []⟩ = pure (r.ps.zip us)
  bindD : r.ds ≠ [] → ∀ (T : Addr) (kV doc pm : Value) (an : Option Addr) (cdv ct : Value) (us its : List Value) (n : Nat), n ≤ r.ds.length → us.length + n = r.ps.length → its.length = r.ds.length →
    ∃ k, bindArgs (PySem.W.fnOf (Str.ofString r.name) (Str.ofString r.name) (defArgs st) (defBody st) (defScope st) (.ref T) kV doc pm an cdv ct) ⟨us, []⟩ = seqItems? (.ref T) >>= k ∧ k (some its.toArray) = pure (r.ps.zip (us ++ its.drop (r.ds.length - n)))
  chk : chkB (kcOf rows r) (defScope st) r.body (defBody st) = true
  nd : (ndB r.body).all (fun n => match n with
    | .glo x v => gs.any fun p => p.1 == x && PV.same p.2 v
    | .call f => (rows.lookup f).isSome
    | .calld f ds' => match rows.lookup f with
      | some q => !ds'.isEmpty && decide (ds'.length ≤ q.ds.length) && PV.sames (q.ds.drop (q.ds.length - ds'.length)) ds'
      | none => false
    | .free x => fr.contains x
    | .dct x kvs => ds.any fun p => p.1 == x && sameKvs p.2 kvs) = true
/-- the module's names that are values, and those that are free -/
structure NamesOk (K : PySem.W.Frag) (pr : Params) (fr : List String) (gs : List (String × PV)) (ds : List (String × List (List Nat × PV))) : Prop where
  free : ∀ x ∈ fr, PySem.W.nsIn K mainGlobals (Str.ofString x) = some none
  glo : ∀ p ∈ gs, ∃ u, PySem.W.nsIn K mainGlobals (Str.ofString p.1) = some (some u) ∧ repK K p.2 u = true
  dct : ∀ p ∈ ds, DctAt K pr p
def AllFree (K : PySem.W.Frag) : List String → Prop
  | [] => True
  | x :: xs => PySem.W.nsIn K mainGlobals (Str.ofString x) = some none ∧ AllFree K xs
def GloAt (K : PySem.W.Frag) (p : String × PV) : Prop := ∃ u, PySem.W.nsIn K mainGlobals (Str.ofString p.1) = some (some u) ∧ repK K p.2 u = true
def AllGlo (K : PySem.W.Frag) : List (String × PV) → Prop
  | [] => True
  | x :: xs => GloAt K x ∧ AllGlo K xs
def AllDct (K : PySem.W.Frag) (pr : Params) : List (String × List (List Nat × PV)) → Prop
  | [] => True
  | x :: xs => DctAt K pr x ∧ AllDct K pr xs
theorem glo_mk {K : PySem.W.Frag} {p : String × PV} {u : Value} (h1 : PySem.W.nsIn K mainGlobals (Str.ofString p.1) = some (some u)) (h2 : repK K p.2 u = true) : GloAt K p := ⟨u, h1, h2⟩
theorem names_mk {K : PySem.W.Frag} {pr : Params} {fr : List String} {gs : List (String × PV)} {ds : List (String × List (List Nat × PV))} (h1 : AllFree K fr) (h2 : AllGlo K gs) (h3 : AllDct K pr ds) : NamesOk K pr fr gs ds := by
  refine ⟨?_, ?_, ?_⟩
  · clear h2 h3
    induction fr with
    | nil => intro x hx; cases hx
    | cons y ys ih =>
      intro x hx
      rcases List.mem_cons.mp hx with e | hx
      · rw [e]; exact h1.1
      · exact ih h1.2 x hx
  · clear h1 h3
    induction gs with
    | nil => intro x hx; cases hx
    | cons y ys ih =>
      intro x hx
      rcases List.mem_cons.mp hx with e | hx
      · rw [e]; exact h2.1
      · exact ih h2.2 x hx
  · clear h1 h2
    induction ds with
    | nil => intro x hx; cases hx
    | cons y ys ih =>
      intro x hx
      rcases List.mem_cons.mp hx with e | hx
      · rw [e]; exact h3.1
      · exact ih h3.2 x hx
/-- every def of the text is checked, and stands in the module -/
def AllText (rows : Rows) (fr : List String) (gs : List (String × PV)) (ds : List (String × List (List Nat × PV))) : Rows → List Stmt → Prop
  | [], [] => True
  | p :: ps, st :: sts => TextOk rows fr gs ds p.2 st ∧ AllText rows fr gs ds ps sts
  | _, _ => False
def AllDefs (K : PySem.W.Frag) : Rows → List Stmt → Prop
  | [], [] => True
  | p :: ps, st :: sts => DefAt K (Str.ofString p.2.name) p.2.ds st ∧ AllDefs K ps sts
  | _, _ => False
theorem all_get {K : PySem.W.Frag} {rows : Rows} {fr : List String} {gs : List (String × PV)} {ds : List (String × List (List Nat × PV))} {i : Nat} {r : Row} : ∀ {ps : Rows} {sts : List Stmt}, AllText rows fr gs ds ps sts → AllDefs K ps sts → ps.lookup i = some r → ∃ st, TextOk rows fr gs ds r st ∧ DefAt K (Str.ofString r.name) r.ds st
  | [], [], _, _, h => by simp at h
  | (j, q) :: ps, st :: sts, ⟨a, b⟩, ⟨c, d⟩, h => by
    rw [List.lookup_cons] at h
    split at h
    · cases h; exact ⟨st, a, c⟩
    · exact all_get b d h
  | [], _ :: _, h, _, _ => h.elim
  | _ :: _, [], h, _, _ => h.elim
section
variable {C : CT} {P : Program} {w : World} {K : PySem.W.Frag} {mg : Str → Option Value} {rows : Rows} {fr : List String} {gs : List (String × PV)} {ds : List (String × List (List Nat × PV))} {sts : List Stmt}
theorem repKs_drop {K : PySem.W.Frag} : ∀ {ds : List PV} {its : List Value} (n : Nat), repKs K ds its = true → repKs K (ds.drop n) (its.drop n) = true
  | [], [], n, _ => by simp [repKs]
  | _ :: _, _ :: _, 0, h => h
  | x :: ds, u :: its, n + 1, h => by
    simp only [repKs, Bool.and_eq_true] at h
    exact repKs_drop (ds := ds) (its := its) n h.2
  | [], _ :: _, _, h => by simp [repKs] at h
  | _ :: _, [], _, h => by simp [repKs] at h
theorem repKs_len {K : PySem.W.Frag} : ∀ {ds : List PV} {its : List Value}, repKs K ds its = true → its.length = ds.length
  | [], [], _ => rfl
  | x :: ds, u :: its, h => by
    simp only [repKs, Bool.and_eq_true] at h
    simp [repKs_len h.2]
  | [], _ :: _, h => by simp [repKs] at h
  | _ :: _, [], h => by simp [repKs] at h
/-- what the parameters get: the last n ones their defaults -/
theorem binds_of {r : Row} {st : Stmt} {dV kV doc pm cdv ct : Value} {an : Option Addr} (t : TextOk rows fr gs ds r st) (hd : DflP K dV r.ds) (n : Nat) (hn : n ≤ r.ds.length) :
    ∃ us Vs, Binds K (PySem.W.fnOf (Str.ofString r.name) (Str.ofString r.name) (defArgs st) (defBody st) (defScope st) dV kV doc pm an cdv ct) r.ps us ∧ Vals Vs us ∧ (∀ rg H, Reps K rg H (r.ds.drop (r.ds.length - n)) Vs) ∧ us.length = n := by
  rcases hd with ⟨e, rfl⟩ | ⟨hne, T, o, its, m, rfl, l1, l2, l3⟩
  · have : n = 0 := by rw [e] at hn; simpa using hn
    subst this
    refine ⟨[], [], .all (t.bind e kV doc pm an cdv ct), .nil, fun rg H => ?_, rfl⟩
    rw [e]; exact .nil
  · obtain ⟨Vs, v1, v2⟩ := repKs_rep _ _ (repKs_drop (r.ds.length - n) l3)
    have ll := repKs_len l3
    refine ⟨its.drop (r.ds.length - n), Vs, fun s us KX hl => ?_, v1, v2, by rw [List.length_drop, ll]; omega⟩
    have hl2 : us.length + n = r.ps.length := by rw [List.length_append, List.length_drop, ll] at hl; omega
    obtain ⟨k, e1, e2⟩ := t.bindD hne T kV doc pm an cdv ct us its n hn hl2 ll
    refine BindsTo.of_looks fun M => ?_
    rw [e1]
    exact looks_items KX l1 l2 (.of_pure e2)
theorem calls_ok {base : Heap} (fu : Nat) (KX : K.In base) (G : base.Ns mainGlobals mg) (hD : base.NoDigits) (hN : NamesOk K w.params fr gs ds) (ht : AllText rows fr gs ds rows sts) (hd : AllDefs K rows sts) :
    ∀ (k i : Nat) (r : Row), rows.lookup i = some r → CallOk C P w K mg base k (Str.ofString (nmOf rows i)) (tab rows fu k i) ∧
      ∀ n, n ≤ r.ds.length → CallOkD C P w K mg base k (Str.ofString (nmOf rows i)) (r.ds.drop (r.ds.length - n)) (tab rows fu k i) := by
  intro k
  induction k with
  | zero =>
    intro i r hr
    obtain ⟨st, t, f, oc, od, an, osl, dV, kV, doc, pm, cdv, ct, a1, l1, c1, k1, d1⟩ := all_get ht hd hr
    have e : nmOf rows i = r.name := by unfold nmOf; rw [hr]
    rw [e]
    have F : FnG P w K mg base 0 f (PySem.W.fnOf (Str.ofString r.name) (Str.ofString r.name) (defArgs st) (defBody st) (defScope st) dV kV doc pm an cdv ct) r.ps (spOf C K r.ps.length (tab rows fu 0 i)) :=
      ⟨fun vs H Q E h => h.1, fun _ _ _ _ _ _ _ _ _ _ _ _ _ _ h => by
        obtain ⟨_, _, _, _, _, _, h⟩ := h
        exact h.elim⟩
    refine ⟨?_, fun n hn => ?_⟩
    · obtain ⟨us, Vs, b1, b2, b3, b4⟩ := binds_of (kV := kV) (doc := doc) (pm := pm) (cdv := cdv) (ct := ct) (an := an) t d1 0 (Nat.zero_le _)
      have : us = [] := List.length_eq_zero_iff.mp b4
      subst this
      exact ⟨f, _, r.ps, PySem.W.mg_of KX G a1, k1, b1, fun _ _ _ => rfl, F⟩
    · obtain ⟨us, Vs, b1, b2, b3, b4⟩ := binds_of (kV := kV) (doc := doc) (pm := pm) (cdv := cdv) (ct := ct) (an := an) t d1 n hn
      exact ⟨f, _, r.ps, us, Vs, PySem.W.mg_of KX G a1, k1, b1, b2, b3, fun _ _ _ => rfl, F⟩
  | succ k ih =>
    intro i r hr
    obtain ⟨st, t, f, oc, od, an, osl, dV, kV, doc, pm, cdv, ct, a1, l1, c1, k1, d1⟩ := all_get ht hd hr
    have e : nmOf rows i = r.name := by unfold nmOf; rw [hr]
    have e2 : tab rows fu (k + 1) i = run (tab rows fu k) fu r.Ns.length r.ps.length r.kp r.body := by
      show (match rows.lookup i with
        | some r => run (tab rows fu k) fu r.Ns.length r.ps.length r.kp r.body
        | none => fun _ _ => .bad) = _
      rw [hr]
    rw [e, e2]
    have need : ∀ n ∈ ndB r.body, Meet C (tab rows fu k) (kcOf rows r) P w K mg base k n := fun n hn => by
      have hq := List.all_eq_true.mp t.nd n hn
      cases n with
      | glo x v =>
        obtain ⟨p, hp, hq⟩ := List.any_eq_true.mp hq
        rw [Bool.and_eq_true, beq_iff_eq] at hq
        obtain ⟨u, h1, h2⟩ := hN.glo p hp
        obtain ⟨V, h3, h4⟩ := repK_rep _ _ h2
        rw [hq.1] at h1
        have := PV.same_eq hq.2
        rw [this] at h4
        exact ⟨u, V, PySem.W.mg_of KX G h1, h3, h4⟩
      | call g =>
        obtain ⟨r2, hr2⟩ := Option.isSome_iff_exists.mp hq
        exact (ih g r2 hr2).1
      | calld g ds' =>
        dsimp only at hq
        split at hq
        · rename_i r2 hr2
          simp only [Bool.and_eq_true, decide_eq_true_eq] at hq
          have := (ih g r2 hr2).2 ds'.length hq.1.2
          rw [PV.sames_eq hq.2] at this
          exact this
        · cases hq
      | free x => exact PySem.W.mg_none_of KX G (hN.free x (by simpa using hq))
      | dct x kvs =>
        obtain ⟨⟨x', kvs'⟩, hp, hq⟩ := List.any_eq_true.mp hq
        rw [Bool.and_eq_true, beq_iff_eq] at hq
        have e1 := sameKvs_eq hq.2
        have := hN.dct _ hp
        obtain ⟨rfl, _⟩ := hq
        subst e1
        exact DctAt.dctK KX G this
    have F := fnG_of (C := C) (T := tab rows fu k) (c := kcOf rows r) (P := P) (w := w) (mg := mg) (base := base) (k := k) l1 c1 t.sc hD fu r.kp t.chk need
    have ar : ∀ (args : List PV) (st : Sto), args.length ≠ r.ps.length → run (tab rows fu k) fu r.Ns.length r.ps.length r.kp r.body args st = .bad := fun args st h => by unfold run; rw [if_neg h]
    refine ⟨?_, fun n hn => ?_⟩
    · obtain ⟨us, Vs, b1, b2, b3, b4⟩ := binds_of (kV := kV) (doc := doc) (pm := pm) (cdv := cdv) (ct := ct) (an := an) t d1 0 (Nat.zero_le _)
      have : us = [] := List.length_eq_zero_iff.mp b4
      subst this
      exact ⟨f, _, r.ps, PySem.W.mg_of KX G a1, k1, b1, ar, F⟩
    · obtain ⟨us, Vs, b1, b2, b3, b4⟩ := binds_of (kV := kV) (doc := doc) (pm := pm) (cdv := cdv) (ct := ct) (an := an) t d1 n hn
      exact ⟨f, _, r.ps, us, Vs, PySem.W.mg_of KX G a1, k1, b1, b2, b3, ar, F⟩

theorem reps_ints {r : Rg} {H : Hp} : ∀ zs : List Int, Reps K r H (zs.map .int) (zs.map V.int)
  | [] => .nil
  | z :: zs => .cons (.int z) (reps_ints zs)
/-- the caller's view: the law's def at the script -/
theorem call_end {mb : Str → Option Value} {k : Nat} {f0 adr : Addr} {x : Str} {m : List PV → Sto → Res PV} {s1 : Shared} {items : List Value} {zs : List Int}
    (inK : K.In s1.heap) (nsM : s1.heap.Ns mainGlobals mg) (nsB : s1.heap.Ns builtinsNs mb) (bb : ∀ y : Str, y ≠ "__name__" → mb y = bootBuiltins y) (nolim : s1.heap.NoLimit) (nodig : s1.heap.NoDigits) (nog : s1.gens = #[])
    (obj : s1.heap.get? adr = some { cls := .type "list", data := .seq items.toArray }) (hints : IntsAre items zs) (hlen : zs.length ≤ sizeLine) (room : Room k callerA)
    (F : ∀ bs : Heap, K.In bs → bs.Ns mainGlobals mg → bs.NoDigits → CallOk C P w K mg bs k x m) (hx : mg x = some (.ref f0))
    (hm : ∃ st, m [.lst (zs.map .int)] [] = .ok (.bl true) st) :
    codeAny (model P w) callerA (.call (.ref f0) ⟨[.ref adr], []⟩) (fun res s2 => res = .ok (.ret (.bool true)) ∧ OldK s1.heap s2.heap ∧ s2.os = s1.os ∧ AllBare s2.gens) s1 := by
  have valsI := vals_ints hints
  have lenI := hints.length
  have sp1 : ∀ H : Hp, (Rd H adr (.lst (zs.map V.int)) ∨ KL K adr (zs.map V.int)) → spOf C K 1 m [.ref adr] H (fun v _ => v = .bl true) fun _ _ _ => False := fun H hS => by
    refine ⟨rfl, ⟨[], []⟩, [.lst (zs.map .int)], [], .cons (.lst (hS.imp (fun q => ⟨q, fun z => z.elim (fun z => by cases z) fun z => by cases z⟩) id) (reps_ints zs)) .nil, ⟨rfl, List.nodup_nil, fun n a o e => by simp at e, fun a z => by cases z⟩, ?_⟩
    obtain ⟨st, e⟩ := hm
    rw [e]
    intro r' H' u _ _ hu
    cases hu
    rfl
  have main : ∀ H : Hp, Only H → (Rd H adr (.lst (zs.map V.int)) ∨ KL K adr (zs.map V.int)) → HOk P w H s1.heap → (∀ b, H b ≠ none → b = adr) → (H adr ≠ none → K.lookup adr = none) →
      codeAny (model P w) callerA (.call (.ref f0) ⟨[.ref adr], []⟩) (fun res s2 => res = .ok (.ret (.bool true)) ∧ OldK s1.heap s2.heap ∧ s2.os = s1.os ∧ AllBare s2.gens) s1 := by
    intro H only hS hok one noK
    have isAdr : ∀ {b : Addr} {u : HO}, H b = some u → b = adr := fun {b u} q => one b (by rw [q]; simp)
    have dict0 : ∀ {b : Addr} {o : Obj} {es : Array DictEntry} {ep : Nat}, s1.heap.get? b = some o → o.data = .dict es ep → H b = none := fun {b o es ep} e d => by
      cases q : H b with
      | none => rfl
      | some u =>
        have e' := isAdr q
        rw [e', obj] at e
        cases e
        exact absurd (show Data.seq items.toArray _ = Data.dict es ep from d) (by intro z; cases z)
    have nsOf : ∀ {b : Addr} {mm : Str → Option Value}, s1.heap.Ns b mm → (hidT s1.heap H).Ns b mm := fun {b mm} ⟨o, es, ep, e, d, rest⟩ => ⟨o, es, ep, hidT_get e (dict0 e d), d, rest⟩
    have kin2 : K.In (hidT s1.heap H) := fun b o e => by
      refine hidT_get (inK b o e) ?_
      cases q : H b with
      | none => rfl
      | some u =>
        have e' := isAdr q
        rw [e', noK (by rw [← e', q]; simp)] at e
        cases e
    have md : Mod K mg (hidT s1.heap H) := ⟨kin2, nsOf nsM, ⟨mb, nsOf nsB, bb⟩, by obtain ⟨mc, g1, g2⟩ := nolim; exact ⟨mc, nsOf g1, g2⟩⟩
    have env0 : Env0 P w K mg (hidT s1.heap H) callerA [] s1 H :=
      { frames := rfl, mod := md, bs := fun b o e => of_hidT e, bsz := Nat.le_of_eq (hidT_size _ _), funs := trivial, frf := fun b z => absurd (show b ∈ ([] : List Addr) from z) (by simp), hok := hok, bare := .of_eq nog }
    obtain ⟨fa2, fd2, ps2, m1, m2, m3, m4, m5⟩ := F _ kin2 (nsOf nsM) (by obtain ⟨mc, g1, g2⟩ := nodig; exact ⟨mc, nsOf g1, g2⟩)
    have ef := m1.symm.trans hx
    cases ef
    have el : ps2.length = 1 := Classical.byContradiction fun z => by
      obtain ⟨st, e⟩ := hm
      rw [m4 [.lst (zs.map .int)] [] (fun q => z (q.symm.trans rfl))] at e
      cases e
    have bnd := m3 s1 [.ref adr] inK (by rw [el]; rfl)
    rw [el] at m5
    have runs := m5.run callerA [] s1 H ⟨[.ref adr], []⟩ [.ref adr] [.ref adr] _ _ room rfl env0 bnd (.cons rfl .nil) (sp1 H hS)
    refine codeAny_mono runs fun res s2 hres => ?_
    cases res with
    | error ex =>
      obtain ⟨_, _, _, _, _, _, _, _, _, _, _, _, no⟩ := hres
      exact no.elim
    | ok flow =>
      cases flow with
      | ret u =>
        obtain ⟨v, H2, eos, ebare, eun, ehok, erel, ev⟩ := hres
        have ev : v = .bl true := ev
        subst ev
        have eu : u = Value.bool true := erel
        subst eu
        refine ⟨rfl, OldK.of_keep fun b o e => ?_, eos, ebare⟩
        cases q : H b with
        | none => exact eun.keep b o e q (fun z => absurd (show b ∈ ([] : List Addr) from z) (by simp)) (by simp)
        | some u =>
          rcases only b with z | ⟨ob, xs, z⟩
          · exact absurd (q.symm.trans z) (by simp)
          · have f1 := (hok b _ z).1
            have f2 := (ehok b _ (eun.frzs b ob _ z)).1
            rw [e] at f1
            cases f1
            exact f2
      | next => exact False.elim hres
      | brk => exact False.elim hres
      | cont => exact False.elim hres
  cases hk : K.lookup adr with
  | some o =>
    have e := inK adr o hk
    rw [obj] at e
    cases e
    refine main (fun _ => none) (fun _ => .inl rfl) (.inr ⟨items.toArray, _, hk, ?_, by simpa using valsI⟩) (fun b u z => by cases (show (none : Option HO) = some u from z)) (fun b z => absurd rfl z) fun z => absurd rfl z
    rw [List.size_toArray, lenI]; exact hlen
  | none =>
    generalize hob : ({ cls := .type "list", data := .seq items.toArray } : Obj) = ob at obj
    refine main (fun b => if b = adr then some (.frz ob (.lst (zs.map V.int))) else none) (fun b => ?_) (.inl (.inr ⟨ob, if_pos rfl⟩)) (fun b u z => ?_) (fun b z => Classical.byContradiction fun q => z (if_neg q)) fun _ => hk
    · by_cases q : b = adr
      · exact .inr ⟨_, _, if_pos q⟩
      · exact .inl (if_neg q)
    · by_cases q : b = adr
      · have z2 : some (HO.frz ob (.lst (zs.map V.int))) = some u := (if_pos q).symm.trans z
        cases z2
        subst q
        refine ⟨obj, ?_, items, 0, valsI, ?_⟩
        · rw [List.length_map]; exact hlen
        · rw [obj, ← hob]
      · cases (if_neg q).symm.trans z
/-- the law: the goal that the head leaves -/
theorem law_end {l : PySem.W.OpenLaw} {n k fu i : Nat} {q : Program} {loose : List Str} {XP : (Str → Option Value) → Heap → Prop} {YP : World → Heap → Prop} {d : DefRec} {KP : Params → PySem.W.Frag} {row : Row}
    (hn : l.most = some n) (hn2 : n ≤ sizeLine) (hdf : d.params.defaults = []) (hr : Room k callerA) (hY : ∀ (w : World) (h : Heap), YP w h → (KP w.params).In h)
    (hi : rows.lookup i = some row) (hname : d.name = Str.ofString row.name)
    (hN : ∀ p, NamesOk (KP p) p fr gs ds) (hd : ∀ p, AllDefs (KP p) rows sts) (ht : AllText rows fr gs ds rows sts)
    (hm : ∀ zs : List Int, zs.length ≤ n → ∃ st, tab rows fu k i [.lst (zs.map .int)] [] = .ok (.bl true) st) :
    PySem.W.WalkO q loose XP YP l.row.toRowW d [] (fun f vs => PySem.call f vs) := by
  refine Att.attach_call hn hdf fun w s0 s1 mg mb fa o pm cd doc a vs zs G Y ho hdt hcd hmg hobj hints hlen hg => ?_
  have KX := hY w _ Y
  have nm : nmOf rows i = row.name := by unfold nmOf; rw [hi]
  have all := fun (bs : Heap) (kb : (KP w.params).In bs) (nb : bs.Ns mainGlobals mg) (nd : bs.NoDigits) => (calls_ok (C := ⟨fun _ => .none, fun _ => []⟩) (P := l.prog) (w := w) fu kb nb nd (hN w.params) ht (hd w.params) k i row hi).1
  rw [nm, ← hname] at all
  exact call_end KX G.T.g G.T.b G.T.builtins G.T.nolimit G.T.nodigits hg hobj hints (Nat.le_trans hlen hn2) hr all hmg (hm zs hlen)
end
end MP

/-! PL, part a: plain rules of the evaluator: what is wanted of results, loops, what a def drops, draws. -/
namespace MP.PL
open PySem L2

def NoX : PX → Sto → Prop := fun _ _ => False
/-- what is wanted of a result; not opened by itself -/
@[irreducible] def _root_.MP.Res.wp {A : Type} (r : Res A) (Q : A → Sto → Prop) (E : PX → Sto → Prop) : Prop := r.sat Q E
theorem wp_def {A : Type} {r : Res A} {Q : A → Sto → Prop} {E : PX → Sto → Prop} : r.wp Q E = r.sat Q E := by unfold Res.wp; rfl
section
variable {A B : Type} {Q : A → Sto → Prop} {E : PX → Sto → Prop} {st : Sto}
@[simp] theorem s_ok {a : A} : (Res.ok a st).wp Q E = Q a st := by rw [wp_def]; rfl
@[simp] theorem s_exc {x : PX} : (Res.exc x st : Res A).wp Q E = E x st := by rw [wp_def]; rfl
@[simp] theorem s_bad : (Res.bad : Res A).wp Q E = False := by rw [wp_def]; rfl
@[simp] theorem s_bnd {r : Res A} {f : A → Sto → Res B} {Q : B → Sto → Prop} : ((r.bnd f).wp Q E) = r.wp (fun a st => (f a st).wp Q E) E := by
  cases r with
  | ok a st => rw [s_ok]; rfl
  | exc x st => rw [s_exc, Res.bnd_exc, s_exc]
  | bad => rw [s_bad, Res.bnd_bad, s_bad]
theorem wp_eq {r : Res A} (h : r.wp Q NoX) : ∃ a st, r = .ok a st ∧ Q a st := by
  cases r with
  | ok a st => rw [s_ok] at h; exact ⟨a, st, rfl, h⟩
  | exc x st => rw [s_exc] at h; exact h.elim
  | bad => rw [s_bad] at h; exact h.elim
theorem wp_and {r : Res A} {Q' : A → Sto → Prop} (h : r.wp Q NoX) (h' : r.wp Q' NoX) : r.wp (fun a st => Q a st ∧ Q' a st) NoX := by
  obtain ⟨a, st, rfl, q⟩ := wp_eq h
  rw [s_ok] at h' ⊢
  exact ⟨q, h'⟩
end
theorem wp_imp {A : Type} {r : Res A} {Q Q' : A → Sto → Prop} {E : PX → Sto → Prop} (h : r.wp Q E) (hq : ∀ a st, Q a st → Q' a st) : r.wp Q' E := by
  cases r with
  | ok a st => rw [s_ok] at h ⊢; exact hq _ _ h
  | exc x st => rw [s_exc] at h ⊢; exact h
  | bad => rw [s_bad] at h; exact h.elim

/-! ### loops -/
/-- what a turn leaves -/
def turnQ (I : Env → Sto → Prop) (Q : Fl → Sto → Prop) : Fl → Sto → Prop := fun r st => match r with
  | .nx s => I s st
  | .ct s => I s st
  | .bk s => Q (.nx s) st
  | .rt v => Q (.rt v) st
theorem forL_sat {f : PV → Env → Sto → Res Fl} {Q : Fl → Sto → Prop} {E : PX → Sto → Prop} (I : List PV → Env → Sto → Prop) (hend : ∀ s st, I [] s st → Q (.nx s) st)
    (hstep : ∀ x xs s st, I (x :: xs) s st → ∀ Z : Fl → Sto → Prop, (∀ r st, turnQ (I xs) Q r st → Z r st) → (f x s st).wp Z E) : ∀ (xs : List PV) (s : Env) (st : Sto), I xs s st → (forL f xs s st).wp Q E
  | [], s, st, h => by rw [show forL f [] s st = .ok (.nx s) st from rfl, s_ok]; exact hend s st h
  | x :: xs, s, st, h => by
    rw [show forL f (x :: xs) s st = (f x s st).bnd fun r st1 => match r with
      | .nx s1 => forL f xs s1 st1
      | .ct s1 => forL f xs s1 st1
      | .bk s1 => .ok (.nx s1) st1
      | .rt v => .ok (.rt v) st1 from rfl, s_bnd]
    refine hstep x xs s st h _ fun r st1 hr => ?_
    cases r with
    | nx s1 => exact forL_sat I hend hstep xs s1 st1 hr
    | ct s1 => exact forL_sat I hend hstep xs s1 st1 hr
    | bk s1 => show (Res.ok _ _).wp _ _; rw [s_ok]; exact hr
    | rt v => show (Res.ok _ _).wp _ _; rw [s_ok]; exact hr
/-- the same invariant at each turn -/
theorem forL_inv {f : PV → Env → Sto → Res Fl} {Q : Fl → Sto → Prop} {E : PX → Sto → Prop} (I : Env → Sto → Prop) {xs : List PV} {s : Env} {st : Sto} (h0 : I s st) (hend : ∀ s st, I s st → Q (.nx s) st)
    (hstep : ∀ x ∈ xs, ∀ s st, I s st → ∀ Z : Fl → Sto → Prop, (∀ r st, turnQ I Q r st → Z r st) → (f x s st).wp Z E) : (forL f xs s st).wp Q E := by
  induction xs generalizing s st with
  | nil => rw [show forL f [] s st = .ok (.nx s) st from rfl, s_ok]; exact hend s st h0
  | cons x xs ih =>
    rw [show forL f (x :: xs) s st = (f x s st).bnd fun r st1 => match r with
      | .nx s1 => forL f xs s1 st1
      | .ct s1 => forL f xs s1 st1
      | .bk s1 => .ok (.nx s1) st1
      | .rt v => .ok (.rt v) st1 from rfl, s_bnd]
    refine hstep x List.mem_cons_self s st h0 _ fun r st1 hr => ?_
    cases r with
    | nx s1 => exact ih hr fun y hy => hstep y (List.mem_cons_of_mem _ hy)
    | ct s1 => exact ih hr fun y hy => hstep y (List.mem_cons_of_mem _ hy)
    | bk s1 => show (Res.ok _ _).wp _ _; rw [s_ok]; exact hr
    | rt v => show (Res.ok _ _).wp _ _; rw [s_ok]; exact hr
/-- a comprehension, item by item -/
theorem compL_sat {f : PV → Sto → Res (List PV)} {E : PX → Sto → Prop} (I : List PV → List PV → Sto → Prop)
    (hstep : ∀ x xs ys st, I (x :: xs) ys st → (f x st).wp (fun a st1 => I xs (ys ++ a) st1) E) : ∀ (xs ys : List PV) (st : Sto) (Q : List PV → Sto → Prop), I xs ys st → (∀ r st, I [] (ys ++ r) st → Q r st) → (compL f xs st).wp Q E
  | [], ys, st, Q, h, hQ => by rw [show compL f [] st = .ok [] st from rfl, s_ok]; exact hQ [] st (by rw [List.append_nil]; exact h)
  | x :: xs, ys, st, Q, h, hQ => by
    rw [show compL f (x :: xs) st = (f x st).bnd fun a st1 => (compL f xs st1).bnd fun r st2 => .ok (a ++ r) st2 from rfl, s_bnd]
    refine wp_imp (hstep x xs ys st h) fun a st1 ha => ?_
    rw [s_bnd]
    refine compL_sat I hstep xs (ys ++ a) st1 _ ha fun r st2 hr => ?_
    rw [s_ok]
    exact hQ (a ++ r) st2 (by rw [← List.append_assoc]; exact hr)
/-- .. that leaves the store -/
theorem compL_pure {f : PV → Sto → Res (List PV)} {st : Sto} {g : PV → List PV} : ∀ {xs : List PV}, (∀ x ∈ xs, f x st = .ok (g x) st) → compL f xs st = .ok (xs.flatMap g) st
  | [], _ => rfl
  | x :: xs, h => by
    show (f x st).bnd _ = _
    rw [h x List.mem_cons_self, Res.bnd_ok, compL_pure fun y hy => h y (List.mem_cons_of_mem _ hy)]
    rfl

/-! ### what a def drops -/
mutual
/-- all places in a value are below k -/
def lb (k : Nat) : PV → Bool
  | .loc m => decide (m < k)
  | .tup xs => lbs k xs
  | .lst xs => lbs k xs
  | _ => true
def lbs (k : Nat) : List PV → Bool
  | [] => true
  | x :: xs => lb k x && lbs k xs
end
theorem lbs_all {k : Nat} : ∀ {xs : List PV}, lbs k xs = true ↔ ∀ x ∈ xs, lb k x = true
  | [] => by simp [lbs]
  | x :: xs => by simp [lbs, lbs_all (xs := xs)]
theorem lbs_append {k : Nat} {xs ys : List PV} : lbs k (xs ++ ys) = (lbs k xs && lbs k ys) := by
  induction xs with
  | nil => simp [lbs]
  | cons x xs ih => simp [lbs, ih, Bool.and_assoc]
mutual
theorem lb_mono {j k : Nat} (h : j ≤ k) : ∀ {v : PV}, lb j v = true → lb k v = true
  | .loc m, e => by simp only [lb, decide_eq_true_eq] at e ⊢; omega
  | .tup xs, e => lbs_mono h (xs := xs) e
  | .lst xs, e => lbs_mono h (xs := xs) e
  | .non, _ => rfl
  | .bl _, _ => rfl
  | .int _, _ => rfl
  | .str _, _ => rfl
  | .dct _, _ => rfl
theorem lbs_mono {j k : Nat} (h : j ≤ k) : ∀ {xs : List PV}, lbs j xs = true → lbs k xs = true
  | [], _ => rfl
  | x :: xs, e => by
    simp only [lbs, Bool.and_eq_true] at e ⊢
    exact ⟨lb_mono h e.1, lbs_mono h e.2⟩
end
mutual
theorem mapLoc_lb {k : Nat} {f : Nat → Option PV} (hf : ∀ m, m < k → f m = some (.loc m)) : ∀ {v : PV}, lb k v = true → mapLoc f v = some v
  | .loc m, e => hf m (by simpa [lb] using e)
  | .tup xs, e => by
    show (mapLocs f xs).map PV.tup = _
    rw [mapLocs_lb hf (xs := xs) e]; rfl
  | .lst xs, e => by
    show (mapLocs f xs).map PV.lst = _
    rw [mapLocs_lb hf (xs := xs) e]; rfl
  | .non, _ => rfl
  | .bl _, _ => rfl
  | .int _, _ => rfl
  | .str _, _ => rfl
  | .dct _, _ => rfl
theorem mapLocs_lb {k : Nat} {f : Nat → Option PV} (hf : ∀ m, m < k → f m = some (.loc m)) : ∀ {xs : List PV}, lbs k xs = true → mapLocs f xs = some xs
  | [], _ => rfl
  | x :: xs, e => by
    simp only [lbs, Bool.and_eq_true] at e
    show (mapLoc f x).bind _ = _
    rw [mapLoc_lb hf e.1, Option.bind_some, mapLocs_lb hf e.2]; rfl
end
theorem resAt_low {k : Nat} {st : Sto} (n : Nat) {m : Nat} (h : m < k) : resAt k st n m = some (.loc m) := by
  cases n <;> simp [resAt, h]
theorem resAt_new {k : Nat} {st : Sto} {n m : Nat} {xs : List PV} (h : k ≤ m) (e : st[m]? = some (.lst xs)) (hx : lbs k xs = true) : resAt k st (n + 1) m = some (.lst xs) := by
  simp only [resAt, if_neg (Nat.not_lt.mpr h), e]
  rw [mapLocs_lb (fun m h => resAt_low n h) hx]; rfl
def olb (k : Nat) : PO → Bool
  | .lst xs => lbs k xs
/-- all places in the store's objects are below k -/
def StB (k : Nat) (st : Sto) : Prop := ∀ o ∈ st, olb k o = true
theorem StB.mono {j k : Nat} {st : Sto} (h : j ≤ k) (s : StB j st) : StB k st := fun o ho => by
  have := s o ho
  cases o with
  | lst xs => exact lbs_mono h this
theorem StB.cons {k : Nat} {st : Sto} {o : PO} (h : olb k o = true) (s : StB k st) : StB k (o :: st) := fun p hp => (List.mem_cons.mp hp).elim (fun e => e ▸ h) fun e => s p e
theorem StB.append {k : Nat} {st st2 : Sto} (s : StB k st) (s2 : StB k st2) : StB k (st ++ st2) := fun p hp => (List.mem_append.mp hp).elim (s p) (s2 p)
theorem StB.take {k n : Nat} {st : Sto} (s : StB k st) : StB k (st.take n) := fun p hp => s p (List.mem_of_mem_take hp)
theorem StB.nil {k : Nat} : StB k [] := fun p hp => by cases hp
theorem dropO_lb {k : Nat} {f : Nat → Option PV} (hf : ∀ m, m < k → f m = some (.loc m)) : ∀ {st : Sto}, StB k st → dropO f st = some st
  | [], _ => rfl
  | .lst xs :: os, h => by
    show (mapLocs f xs).bind _ = _
    rw [mapLocs_lb hf (h (.lst xs) List.mem_cons_self), Option.bind_some, dropO_lb hf fun o ho => h o (List.mem_cons_of_mem _ ho)]; rfl
theorem dropRes_gen {k : Nat} {v u : PV} {st : Sto} (hv : mapLoc (resAt k st 8) v = some u) (hs : StB k (st.take k)) : dropRes k (.ok v st) = .ok u (st.take k) := by
  show (match mapLoc (resAt k st 8) v, dropO (resAt k st 8) (st.take k) with
    | some u, some st1 => Res.ok u st1
    | _, _ => .bad) = _
  rw [hv, dropO_lb (fun m h => resAt_low 8 h) hs]
theorem dropRes_ok {k : Nat} {v : PV} {st : Sto} (hv : lb k v = true) (hs : StB k (st.take k)) : dropRes k (.ok v st) = .ok v (st.take k) :=
  dropRes_gen (mapLoc_lb (fun m h => resAt_low 8 h) hv) hs
theorem dropRes_new {k m : Nat} {xs : List PV} {st : Sto} (h : k ≤ m) (e : st[m]? = some (.lst xs)) (hx : lbs k xs = true) (hs : StB k (st.take k)) : dropRes k (.ok (.loc m) st) = .ok (.lst xs) (st.take k) :=
  dropRes_gen (show resAt k st 8 m = _ from resAt_new h e hx) hs

/-! ### what a def gives -/
/-- its end as the caller sees it -/
def endQ (kp : Bool) (k : Nat) (Q : PV → Sto → Prop) (E : PX → Sto → Prop) : Fl → Sto → Prop := fun f st => match f with
  | .rt v => (if kp then Res.ok v st else dropRes k (.ok v st)).wp Q E
  | .nx _ => (if kp then Res.ok PV.non st else dropRes k (.ok .non st)).wp Q E
  | _ => False
theorem run_sat {T : Tab} {fu n p : Nat} {kp : Bool} {b : RB} {vs : List PV} {st : Sto} {Q : PV → Sto → Prop} (hp : vs.length = p)
    (h : ∀ Z : Fl → Sto → Prop, (∀ f st1, endQ kp st.length Q NoX f st1 → Z f st1) → (evB T fu b (vs.map some ++ List.replicate (n - vs.length) none) st).wp Z NoX) : (run T fu n p kp b vs st).wp Q NoX := by
  unfold run
  rw [if_pos hp]
  obtain ⟨f, st1, e, hf⟩ := wp_eq (h _ fun _ _ q => q)
  rw [e]
  cases f with
  | rt v => cases kp <;> exact hf
  | nx s => cases kp <;> exact hf
  | bk s => exact hf.elim
  | ct s => exact hf.elim
theorem run_eq {T : Tab} {fu n p : Nat} {b : RB} {vs : List PV} {st st1 : Sto} {f : Fl} {v : PV} (hp : vs.length = p) (e : evB T fu b (vs.map some ++ List.replicate (n - vs.length) none) st = .ok f st1)
    (hf : f = .rt v ∨ (∃ s, f = .nx s) ∧ v = .non) : run T fu n p false b vs st = dropRes st.length (.ok v st1) := by
  unfold run
  rw [if_pos hp, e]
  rcases hf with rfl | ⟨⟨s, rfl⟩, rfl⟩ <;> rfl
theorem tab_succ {rows : Rows} {fu k i : Nat} {r : Row} (h : rows.lookup i = some r) : tab rows fu (k + 1) i = run (tab rows fu k) fu r.Ns.length r.ps.length r.kp r.body := by
  show (match rows.lookup i with
    | some r => run (tab rows fu k) fu r.Ns.length r.ps.length r.kp r.body
    | none => fun _ _ => .bad) = _
  rw [h]

abbrev Fn := List PV → Sto → Res PV
/-- a fact of a def at all levels from some on -/
theorem lvl {rows : Rows} {fu i d : Nat} {r : Row} {P : Fn → Prop} (h : rows.lookup i = some r) (step : ∀ k, d ≤ k → P (run (tab rows fu k) fu r.Ns.length r.ps.length r.kp r.body)) : ∀ k, d + 1 ≤ k → P (tab rows fu k i) := by
  intro k hk
  obtain ⟨j, rfl⟩ : ∃ j, k = j + 1 := ⟨k - 1, by omega⟩
  rw [tab_succ h]
  exact step j (by omega)
theorem lvlH {rows : Rows} {fu i d n p : Nat} {kp : Bool} {b : RB} {P : Fn → Prop} (h : Has rows i n p kp b) (step : ∀ k, d ≤ k → P (run (tab rows fu k) fu n p kp b)) : ∀ k, d + 1 ≤ k → P (tab rows fu k i) := by
  obtain ⟨r, h, rfl, rfl, rfl, rfl⟩ := h
  exact lvl h step
/-! ### draws -/
def P61 : Int := 2305843009213693951
/-- the spring -/
def SpO (o : PO) : Prop := ∃ g m c : Int, o = .lst [.int g, .int m, .int c] ∧ 0 ≤ g ∧ 0 ≤ m ∧ m < P61 ∧ 0 ≤ c
theorem SpO.olb {o : PO} (h : SpO o) (k : Nat) : olb k o = true := by
  obtain ⟨g, m, c, rfl, _⟩ := h
  rfl
/-- a def that draws: the spring is the place 0; nothing else is changed -/
def Draws (F : Fn) (vs : List PV) (P : PV → Prop) : Prop :=
  ∀ o rest, SpO o → StB (rest.length + 1) rest → (F (.loc 0 :: vs) (o :: rest)).wp (fun v st => P v ∧ ∃ o', SpO o' ∧ st = o' :: rest) NoX
/-- a def that only tells a value -/
def Gives (F : Fn) (vs : List PV) (v : PV) : Prop := ∀ st, StB st.length st → F vs st = .ok v st
theorem Draws.mono {F : Fn} {vs : List PV} {P P' : PV → Prop} (h : Draws F vs P) (hp : ∀ v, P v → P' v) : Draws F vs P' :=
  fun o rest ho hr => wp_imp (h o rest ho hr) fun v st ⟨a, b⟩ => ⟨hp v a, b⟩
end MP.PL

/-! PL, part s: the evaluator's rules as simp takes them: from left to right, never under what comes later. -/
namespace MP.PL
open PySem L2
theorem szl : sizeLine = 16777216 := sizeLine_eq
@[simp] theorem b_assoc {A B C : Type} (r : Res A) (f : A → Sto → Res B) (g : B → Sto → Res C) : (r.bnd f).bnd g = r.bnd fun a st => (f a st).bnd g := Res.bnd_assoc r f g
/-- by a truth that is known or not -/
def condR {A : Type} (o : Option Bool) (a b : Res A) : Res A := match o with
  | some true => a
  | some false => b
  | none => .bad
@[simp] theorem condR_some {A : Type} {k : Bool} {a b : Res A} : condR (some k) a b = if k then a else b := by cases k <;> rfl
@[simp] theorem condR_none {A : Type} {a b : Res A} : condR none a b = .bad := id rfl
section
variable {T : Tab} {fu : Nat} {s : Env} {st : Sto}
def getR (o : Option (Option PV)) (st : Sto) : Res PV := match o with
  | some (some v) => .ok v st
  | _ => .bad
@[simp] theorem getR_some {v : PV} : getR (some (some v)) st = .ok v st := id rfl
@[simp] theorem e_var {i : Nat} : evE T (.var i) s st = getR (s[i]?) st := by rw [evE]; rfl
@[simp] theorem e_cst {v : PV} : evE T (.cst v) s st = .ok v st := by rw [evE]
@[simp] theorem e_glo {x : String} {v : PV} : evE T (.glo x v) s st = .ok v st := by rw [evE]
@[simp] theorem e_bin {op : Operator} {a b : RE} : evE T (.bin op a b) s st = (evE T a s st).bnd fun x st1 => (evE T b s st1).bnd fun y st2 => optR (binP op x y st2) st2 := by rw [evE]
@[simp] theorem e_un {op : UnaryOp} {a : RE} : evE T (.un op a) s st = (evE T a s st).bnd fun x st1 => optR (unP op x st1) st1 := by rw [evE]
@[simp] theorem e_and {a b : RE} : evE T (.and a b) s st = (evE T a s st).bnd fun x st1 => condR (truP st1 x) (evE T b s st1) (.ok x st1) := by rw [evE]; rfl
@[simp] theorem e_or {a b : RE} : evE T (.or a b) s st = (evE T a s st).bnd fun x st1 => condR (truP st1 x) (.ok x st1) (evE T b s st1) := by rw [evE]; rfl
@[simp] theorem e_cmp {op : CmpOp} {a b : RE} : evE T (.cmp op a b) s st = (evE T a s st).bnd fun x st1 => (evE T b s st1).bnd fun y st2 => optR ((cmpP op x y st2).map .bl) st2 := by rw [evE]
@[simp] theorem e_chn {o1 o2 : CmpOp} {a b c : RE} : evE T (.chn o1 o2 a b c) s st = (evE T a s st).bnd fun x st1 => (evE T b s st1).bnd fun y st2 => condR (cmpP o1 x y st2) ((evE T c s st2).bnd fun z st3 => optR ((cmpP o2 y z st3).map .bl) st3) (.ok (.bl false) st2) := by rw [evE]; rfl
@[simp] theorem e_ifx {c a b : RE} : evE T (.ifx c a b) s st = (evE T c s st).bnd fun x st1 => condR (truP st1 x) (evE T a s st1) (evE T b s st1) := by rw [evE]; rfl
@[simp] theorem e_sub {a b : RE} : evE T (.sub a b) s st = (evE T a s st).bnd fun x st1 => (evE T b s st1).bnd fun y st2 => optR (subP x y st2) st2 := by rw [evE]
@[simp] theorem e_slc {a : RE} {lo hi : RO} : evE T (.slc a lo hi) s st = (evE T a s st).bnd fun x st1 => (evP T lo s st1).bnd fun l st2 => (evP T hi s st2).bnd fun h st3 => optR (sliceP x l h st3) st3 := by rw [evE]
@[simp] theorem e_rev {a : RE} : evE T (.rev a) s st = (evE T a s st).bnd fun x st1 => optR (revP x st1) st1 := by rw [evE]
@[simp] theorem e_tup {es : RL} : evE T (.tup es) s st = (evL T es s st).bnd fun xs st1 => if xs.length ≤ 16777216 then .ok (.tup xs) st1 else .bad := by rw [evE, szl]
@[simp] theorem e_lst {es : RL} : evE T (.lst es) s st = (evL T es s st).bnd fun xs st1 => if xs.length ≤ 16777216 then .ok (.lst xs) st1 else .bad := by rw [evE, szl]
@[simp] theorem e_new {es : RL} : evE T (.new es) s st = (evL T es s st).bnd fun xs st1 => if xs.length ≤ 16777216 then .ok (.loc st1.length) (st1 ++ [.lst xs]) else .bad := by rw [evE, szl]
@[simp] theorem e_dct : evE T .dct s st = .ok (.dct []) st := by rw [evE]
@[simp] theorem e_call {f : Nat} {es : RL} : evE T (.call f es) s st = (evL T es s st).bnd fun xs st1 => T f xs st1 := by rw [evE]
@[simp] theorem e_bi {b : BI} {es : RL} : evE T (.bi b es) s st = (evL T es s st).bnd fun xs st1 => optR (biP b xs st1) st1 := by rw [evE]
@[simp] theorem e_mth {m : MI} {o : RE} {es : RL} : evE T (.mth m o es) s st = (evE T o s st).bnd fun x st1 => condR (some (mOk m x st1)) ((evL T es s st1).bnd fun xs st2 => mthP m x xs st2) .bad := by
  rw [evE]; congr 1; funext x st1; rw [condR_some]
@[simp] theorem e_isi {e : RE} {t : TY} : evE T (.isi e t) s st = (evE T e s st).bnd fun x st1 => optR ((isiP t x st1).map .bl) st1 := by rw [evE]
@[simp] theorem e_srt {e : RE} : evE T (.srt e) s st = (evE T e s st).bnd fun x st1 => optR (srtP x st1) st1 := by rw [evE]
/-- one turn of a comprehension -/
def turnC (T : Tab) (e : RE) (t : RT) (own : List Nat) (c : RO) (s : Env) (x : PV) (st2 : Sto) : Res (List PV) := match bindT st2 t x (wipeE s own) with
  | some s1 => (evO T c s1 st2).bnd fun b st3 => match b with
    | none => (evE T e s1 st3).bnd fun y st4 => .ok [y] st4
    | some v => condR (truP st3 v) ((evE T e s1 st3).bnd fun y st4 => .ok [y] st4) (.ok [] st3)
  | none => .bad
theorem e_lc {e : RE} {t : RT} {own : List Nat} {it : RI} {c : RO} : evE T (.lc e t own it c) s st = (evI T it s st).bnd fun src st1 => (calmR (comp (turnC T e t own c s) src st1)).bnd fun ys st2 => if ys.length ≤ 16777216 then .ok (.lst ys) st2 else .bad := by
  rw [evE, szl]; rfl
@[simp] theorem l_nil : evL T .nil s st = .ok [] st := by rw [evL]
@[simp] theorem l_cons {e : RE} {es : RL} : evL T (.cons e es) s st = (evE T e s st).bnd fun x st1 => (evL T es s st1).bnd fun xs st2 => .ok (x :: xs) st2 := by rw [evL]
@[simp] theorem o_no : evO T .no s st = .ok none st := by rw [evO]
@[simp] theorem o_yes {e : RE} : evO T (.yes e) s st = (evE T e s st).bnd fun x st1 => .ok (some x) st1 := by rw [evO]
@[simp] theorem p_no : evP T .no s st = .ok none st := by rw [evP]
def intR (v : PV) (st : Sto) : Res (Option Int) := match v with
  | .int n => .ok (some n) st
  | _ => .bad
@[simp] theorem intR_int {n : Int} : intR (.int n) st = .ok (some n) st := id rfl
@[simp] theorem p_yes {e : RE} : evP T (.yes e) s st = (evE T e s st).bnd fun x st1 => intR x st1 := by rw [evP]; rfl
@[simp] theorem i_seq {e : RE} : evI T (.seq e) s st = (evE T e s st).bnd fun x st1 => optR (srcOf st1 x) st1 := by rw [evI]
def rngR (v : PV) (st : Sto) : Res Src := match v with
  | .int n => if -(2 ^ 62) ≤ n ∧ n < 2 ^ 62 then .ok (.its (rngL 0 n.toNat)) st else .bad
  | _ => .bad
theorem rngR_int {n : Int} (h1 : 0 ≤ n) (h2 : n < 4611686018427387904) : rngR (.int n) st = .ok (.its (rngL 0 n.toNat)) st := by
  show (if -(2 ^ 62) ≤ n ∧ n < 2 ^ 62 then _ else _) = _
  rw [if_pos ⟨by omega, by omega⟩]
@[simp] theorem i_rng {a : RE} : evI T (.rng a) s st = (evE T a s st).bnd fun x st1 => rngR x st1 := by rw [evI]; rfl
def enumR (x : PV) (st1 : Sto) : Res Src := match x with
    | .tup xs => .ok (.its (enumL 0 xs)) st1
    | .lst xs => .ok (.its (enumL 0 xs)) st1
    | .loc n => match st1[n]? with
      | some (.lst xs) => .ok (.at n xs.length true) st1
      | none => .bad
    | _ => .bad
@[simp] theorem enumR_tup {xs : List PV} : enumR (.tup xs) st = .ok (.its (enumL 0 xs)) st := id rfl
@[simp] theorem enumR_lst {xs : List PV} : enumR (.lst xs) st = .ok (.its (enumL 0 xs)) st := id rfl
@[simp] theorem i_enum {a : RE} : evI T (.enum a) s st = (evE T a s st).bnd fun x st1 => enumR x st1 := by rw [evI]; rfl
def zipR (x y : PV) (st2 : Sto) : Res Src := match x, y with
    | .tup xs, .tup ys => .ok (.its (zipL xs ys)) st2
    | .lst xs, .lst ys => .ok (.its (zipL xs ys)) st2
    | _, _ => .bad
@[simp] theorem zipR_tup {xs ys : List PV} : zipR (.tup xs) (.tup ys) st = .ok (.its (zipL xs ys)) st := id rfl
@[simp] theorem zipR_lst {xs ys : List PV} : zipR (.lst xs) (.lst ys) st = .ok (.its (zipL xs ys)) st := id rfl
@[simp] theorem i_zip {a b : RE} : evI T (.zip a b) s st = (evE T a s st).bnd fun x st1 => (evE T b s st1).bnd fun y st2 => zipR x y st2 := by rw [evI]; rfl
@[simp] theorem t_def {e : RE} : evT T e s st = (evE T e s st).bnd fun x st1 => optR (truP st1 x) st1 := id rfl
@[simp] theorem st_set {i : Nat} {e : RE} : evS T fu (.set i e) s st = (evE T e s st).bnd fun x st1 => .ok (.nx (s.set i (some x))) st1 := by rw [evS]
def bindR (o : Option Env) (st : Sto) : Res Fl := match o with
  | some s1 => .ok (.nx s1) st
  | none => .bad
@[simp] theorem bindR_some {s : Env} : bindR (some s) st = .ok (.nx s) st := id rfl
@[simp] theorem st_unp {t : RT} {e : RE} : evS T fu (.unp t e) s st = (evE T e s st).bnd fun x st1 => bindR (bindT st1 t x s) st1 := by rw [evS]; rfl
@[simp] theorem st_par {i j : Nat} {a b : RE} : evS T fu (.par i j a b) s st = (evE T a s st).bnd fun x st1 => (evE T b s st1).bnd fun y st2 => .ok (.nx ((s.set i (some x)).set j (some y))) st2 := by rw [evS]
@[simp] theorem st_put {o i e : RE} : evS T fu (.put o i e) s st = (evE T e s st).bnd fun v st1 => (evE T o s st1).bnd fun x st2 => (evE T i s st2).bnd fun k st3 => (putP x k v st3).bnd fun _ st4 => .ok (.nx s) st4 := by rw [evS]
@[simp] theorem st_exp {e : RE} : evS T fu (.exp e) s st = (evE T e s st).bnd fun _ st1 => .ok (.nx s) st1 := by rw [evS]
@[simp] theorem st_ret {e : RE} : evS T fu (.ret e) s st = (evE T e s st).bnd fun x st1 => .ok (.rt x) st1 := by rw [evS]
@[simp] theorem st_retN : evS T fu .retN s st = .ok (.rt .non) st := by rw [evS]
@[simp] theorem st_ite {c : RE} {a b : RB} : evS T fu (.ite c a b) s st = (evT T c s st).bnd fun k st1 => condR (some k) (evB T fu a s st1) (evB T fu b s st1) := by
  rw [evS]; congr 1; funext k st1; rw [condR_some]
/-- one turn of a for -/
def turnF (T : Tab) (fu : Nat) (t : RT) (b : RB) (x : PV) (s1 : Env) (st2 : Sto) : Res Fl := match bindT st2 t x s1 with
      | some s2 => evB T fu b s2 st2
      | none => .bad
@[simp] theorem st_for {t : RT} {it : RI} {b : RB} : evS T fu (.for t it b) s st = (evI T it s st).bnd fun src st1 => forS (turnF T fu t b) src s st1 := by rw [evS]; rfl
@[simp] theorem st_whl {c : RE} {b : RB} : evS T fu (.whl c b) s st = whlL (evT T c) (evB T fu b) fu s st := by rw [evS]
@[simp] theorem st_brk : evS T fu .brk s st = .ok (.bk s) st := by rw [evS]
@[simp] theorem st_cnt : evS T fu .cnt s st = .ok (.ct s) st := by rw [evS]
@[simp] theorem st_pas : evS T fu .pas s st = .ok (.nx s) st := by rw [evS]
@[simp] theorem bl_nil : evB T fu .nil s st = .ok (.nx s) st := by rw [evB]
/-- behind a statement -/
def nextR (T : Tab) (fu : Nat) (r : RB) (f : Fl) (st1 : Sto) : Res Fl := match f with
  | .nx s1 => evB T fu r s1 st1
  | f => .ok f st1
@[simp] theorem nextR_nx {r : RB} {s1 : Env} : nextR T fu r (.nx s1) st = evB T fu r s1 st := id rfl
@[simp] theorem nextR_rt {r : RB} {v : PV} : nextR T fu r (.rt v) st = .ok (.rt v) st := id rfl
@[simp] theorem nextR_bk {r : RB} {s1 : Env} : nextR T fu r (.bk s1) st = .ok (.bk s1) st := id rfl
@[simp] theorem nextR_ct {r : RB} {s1 : Env} : nextR T fu r (.ct s1) st = .ok (.ct s1) st := id rfl
@[simp] theorem bl_cons {x : RS} {r : RB} : evB T fu (.cons x r) s st = (evS T fu x s st).bnd fun f st1 => nextR T fu r f st1 := by rw [evB]; rfl
@[simp] theorem turnF_name {i : Nat} {b : RB} {x : PV} : turnF T fu (.name i) b x s st = evB T fu b (s.set i (some x)) st := id rfl
@[simp] theorem turnF_pair {i j : Nat} {b : RB} {x y : PV} : turnF T fu (.pair (.name i) (.name j)) b (.tup [x, y]) s st = evB T fu b ((s.set i (some x)).set j (some y)) st := id rfl
@[simp] theorem turnC_name {e : RE} {i : Nat} {own : List Nat} {x : PV} : turnC T e (.name i) own .no s x st = (evE T e ((wipeE s own).set i (some x)) st).bnd fun y st4 => .ok [y] st4 := by
  unfold turnC
  simp only [bindT, o_no, Res.bnd_ok]
@[simp] theorem turnC_nameif {e c : RE} {i : Nat} {own : List Nat} {x : PV} : turnC T e (.name i) own (.yes c) s x st = (evE T c ((wipeE s own).set i (some x)) st).bnd fun v st3 => condR (truP st3 v) ((evE T e ((wipeE s own).set i (some x)) st3).bnd fun y st4 => .ok [y] st4) (.ok [] st3) := by
  unfold turnC
  simp only [bindT, o_yes, Res.bnd_assoc, Res.bnd_ok]
@[simp] theorem wipe_nil {s : Env} : wipeE s [] = s := id rfl
@[simp] theorem wipe_cons {s : Env} {i : Nat} {is : List Nat} : wipeE s (i :: is) = (wipeE s is).set i none := id rfl
@[simp] theorem forS_its {f : PV → Env → Sto → Res Fl} {xs : List PV} : forS f (.its xs) s st = forL f xs s st := id rfl
@[simp] theorem comp_its {f : PV → Sto → Res (List PV)} {xs : List PV} : comp f (.its xs) st = compL f xs st := id rfl
@[simp] theorem calm_ok {A : Type} {a : A} : calmR (.ok a st) = .ok a st := id rfl
theorem calm_sat {A : Type} {r : Res A} {Q : A → Sto → Prop} (h : r.wp Q NoX) : (calmR r).wp Q NoX := by
  obtain ⟨a, st, rfl, q⟩ := wp_eq h
  rw [calm_ok]; exact h
end
/-! ### values -/
@[simp] theorem i_le {a n : Nat} : ((a : Int) ≤ (no_index (OfNat.ofNat n) : Int)) ↔ a ≤ n := by show (a : Int) ≤ (n : Int) ↔ _; omega
@[simp] theorem i_lt {a n : Nat} : ((a : Int) < (no_index (OfNat.ofNat n) : Int)) ↔ a < n := by show (a : Int) < (n : Int) ↔ _; omega
@[simp] theorem i_ge {a n : Nat} : ((no_index (OfNat.ofNat n) : Int) ≤ (a : Int)) ↔ n ≤ a := by show (n : Int) ≤ (a : Int) ↔ _; omega
@[simp] theorem i_gt {a n : Nat} : ((no_index (OfNat.ofNat n) : Int) < (a : Int)) ↔ n < a := by show (n : Int) < (a : Int) ↔ _; omega
@[simp] theorem i_eq {a n : Nat} : ((a : Int) = (no_index (OfNat.ofNat n) : Int)) ↔ a = n := by show (a : Int) = (n : Int) ↔ _; omega
section
variable {st : Sto}
@[simp] theorem bt_name {i : Nat} {v : PV} {s : Env} : bindT st (.name i) v s = some (s.set i (some v)) := id rfl
@[simp] theorem bt_pair {a b : RT} {x y : PV} {s : Env} : bindT st (.pair a b) (.tup [x, y]) s = (bindT st a x s).bind fun s1 => bindT st b y s1 := id rfl
@[simp] theorem bt_trip {a b c : RT} {x y z : PV} {s : Env} : bindT st (.trip a b c) (.tup [x, y, z]) s = (bindT st a x s).bind fun s1 => (bindT st b y s1).bind fun s2 => bindT st c z s2 := id rfl
@[simp] theorem tr_bl {b : Bool} : truP st (.bl b) = some b := id rfl
@[simp] theorem tr_int {i : Int} : truP st (.int i) = some (i != 0) := id rfl
@[simp] theorem tr_non : truP st .non = some false := id rfl
@[simp] theorem un_not {v : PV} : unP .Not v st = (truP st v).map fun b => .bl (!b) := id rfl
@[simp] theorem un_neg {i : Int} : unP .USub (.int i) st = some (.int (-i)) := id rfl
@[simp] theorem un_negb {b : Bool} : unP .USub (.bl b) st = some (.int (-(if b then 1 else 0))) := id rfl
@[simp] theorem bin_add {i j : Int} : binP .Add (.int i) (.int j) st = some (.int (i + j)) := id rfl
@[simp] theorem bin_addb {i : Bool} {j : Int} : binP .Add (.bl i) (.int j) st = some (.int ((if i then 1 else 0) + j)) := id rfl
@[simp] theorem bin_addi {j : Bool} {i : Int} : binP .Add (.int i) (.bl j) st = some (.int (i + (if j then 1 else 0))) := id rfl
@[simp] theorem bin_sub {i j : Int} : binP .Sub (.int i) (.int j) st = some (.int (i - j)) := id rfl
@[simp] theorem bin_subb {i : Bool} {j : Int} : binP .Sub (.bl i) (.int j) st = some (.int ((if i then 1 else 0) - j)) := id rfl
theorem bin_mul {i j : Int} (h : (-18446744073709551616 < i ∧ i < 18446744073709551616) ∨ (-18446744073709551616 < j ∧ j < 18446744073709551616)) : binP .Mult (.int i) (.int j) st = some (.int (i * j)) := by
  show (if ((-(2 ^ 64) < i ∧ i < 2 ^ 64) ∨ (-(2 ^ 64) < j ∧ j < 2 ^ 64)) ∨ (i.natAbs.log2 < 100000 ∧ j.natAbs.log2 < 100000) then _ else _) = _
  rw [if_pos (.inl (by omega))]
theorem bin_mulw {i j : Int} (h : i.natAbs.log2 < 100000) (h2 : j.natAbs.log2 < 100000) : binP .Mult (.int i) (.int j) st = some (.int (i * j)) := by
  show (if ((-(2 ^ 64) < i ∧ i < 2 ^ 64) ∨ (-(2 ^ 64) < j ∧ j < 2 ^ 64)) ∨ (i.natAbs.log2 < 100000 ∧ j.natAbs.log2 < 100000) then _ else _) = _
  rw [if_pos (.inr ⟨h, h2⟩)]
theorem bin_mod {i j : Int} (h : 0 < j) : binP .Mod (.int i) (.int j) st = some (.int (i % j)) := by
  show (if 0 < j then _ else _) = _
  rw [if_pos h]
theorem big10 : (2305843009213693952 : Int) ≤ 10 ^ 1000 := by decide +kernel
theorem bin_div {i j : Int} (h : 0 < j) (h2 : j < 2305843009213693952) : binP .FloorDiv (.int i) (.int j) st = some (.int (i / j)) := by
  show (if 0 < j ∧ j < 10 ^ 1000 then _ else _) = _
  rw [if_pos ⟨h, Int.lt_of_lt_of_le h2 big10⟩]
@[simp] theorem bi_min {i j : Int} : biP .min [.int i, .int j] st = some (.int (if j < i then j else i)) := id rfl
@[simp] theorem bi_max {i j : Int} : biP .max [.int i, .int j] st = some (.int (if j > i then j else i)) := id rfl
theorem bin_pow {i j : Int} (h : 0 ≤ j) (h2 : j ≤ 1000000) (h3 : i.natAbs < 18446744073709551616) : binP .Pow (.int i) (.int j) st = some (.int (i ^ j.toNat)) := by
  show (if 0 ≤ j ∧ j ≤ 1000000 ∧ i.natAbs < 2 ^ 64 then _ else _) = _
  rw [if_pos ⟨h, h2, by omega⟩]
@[simp] theorem bin_pow10 {j : Nat} : binP .Pow (.int 10) (.int (no_index (OfNat.ofNat j))) st = if j ≤ 1000000 then some (.int (10 ^ j)) else none := by
  show (if 0 ≤ (j : Int) ∧ (j : Int) ≤ 1000000 ∧ (10 : Int).natAbs < 2 ^ 64 then _ else _) = _
  by_cases h : j ≤ 1000000
  · rw [if_pos h, if_pos ⟨by omega, by omega, by decide⟩]; rfl
  · rw [if_neg h, if_neg (by omega)]
theorem bin_str {a b : List Nat} (h : a.length + b.length ≤ 16777216) : binP .Add (.str a) (.str b) st = some (.str (a ++ b)) := by
  show (if a.length + b.length ≤ sizeLine then _ else _) = _
  rw [if_pos (by rw [szl]; exact h)]
theorem bin_tup {a b : List PV} (h : a.length + b.length ≤ 16777216) : binP .Add (.tup a) (.tup b) st = some (.tup (a ++ b)) := by
  show (if a.length + b.length ≤ sizeLine then _ else _) = _
  rw [if_pos (by rw [szl]; exact h)]
theorem bin_lst {a b : List PV} (h : a.length + b.length ≤ 16777216) : binP .Add (.lst a) (.lst b) st = some (.lst (a ++ b)) := by
  show (if a.length + b.length ≤ sizeLine then _ else _) = _
  rw [if_pos (by rw [szl]; exact h)]
@[simp] theorem sq_tup {xs : List PV} : seqOf st (.tup xs) = some (false, xs) := id rfl
@[simp] theorem sq_lst {xs : List PV} : seqOf st (.lst xs) = some (true, xs) := id rfl
theorem sq_loc {n : Nat} {xs : List PV} (h : st[n]? = some (.lst xs)) : seqOf st (.loc n) = some (true, xs) := by
  simp only [seqOf, h]
@[simp] theorem ix_tup {xs : List PV} {k : Int} : subP (.tup xs) (.int k) st = atI xs k := id rfl
@[simp] theorem ix_lst {xs : List PV} {k : Int} : subP (.lst xs) (.int k) st = atI xs k := id rfl
theorem ix_loc {n : Nat} {xs : List PV} {k : Int} (h : st[n]? = some (.lst xs)) : subP (.loc n) (.int k) st = atI xs k := by
  simp only [subP, sq_loc h]
theorem ix_str {z : List Nat} {k : Int} (h : z.length ≤ 16777216) : subP (.str z) (.int k) st = (atI z k).map fun c => .str [c] := by
  simp only [subP, szl, if_pos h]
theorem atI_nat {A : Type} {xs : List A} {k : Nat} : atI xs (k : Int) = xs[k]? := by
  unfold atI ixN
  rw [if_pos (by omega)]
  split
  · simp
  · rw [Option.bind_none, List.getElem?_eq_none (by omega)]
@[simp] theorem atI_0 {A : Type} {x : A} {xs : List A} : atI (x :: xs) 0 = some x := atI_nat (k := 0)
@[simp] theorem atI_1 {A : Type} {x y : A} {xs : List A} : atI (x :: y :: xs) 1 = some y := atI_nat (k := 1)
@[simp] theorem atI_2 {A : Type} {x y z : A} {xs : List A} : atI (x :: y :: z :: xs) 2 = some z := atI_nat (k := 2)
@[simp] theorem atI_3 {A : Type} {x y z u : A} {xs : List A} : atI (x :: y :: z :: u :: xs) 3 = some u := atI_nat (k := 3)
@[simp] theorem atI_4 {A : Type} {x y z u v : A} {xs : List A} : atI (x :: y :: z :: u :: v :: xs) 4 = some v := atI_nat (k := 4)
@[simp] theorem sl_tup {xs : List PV} {lo hi : Option Int} : sliceP (.tup xs) lo hi st = some (.tup (cutP xs lo hi)) := id rfl
@[simp] theorem sl_lst {xs : List PV} {lo hi : Option Int} : sliceP (.lst xs) lo hi st = some (.lst (cutP xs lo hi)) := id rfl
theorem sl_str {z : List Nat} {lo hi : Option Int} (h : z.length ≤ 16777216) : sliceP (.str z) lo hi st = some (.str (cutP z lo hi)) := by
  simp only [sliceP, szl, if_pos h]
@[simp] theorem rv_tup {xs : List PV} : revP (.tup xs) st = some (.tup xs.reverse) := id rfl
@[simp] theorem rv_lst {xs : List PV} : revP (.lst xs) st = some (.lst xs.reverse) := id rfl
theorem rv_str {z : List Nat} (h : z.length ≤ 16777216) : revP (.str z) st = some (.str z.reverse) := by
  simp only [revP, szl, if_pos h]
@[simp] theorem cut_pre {A : Type} {xs : List A} {k : Nat} : cutP xs none (some (k : Int)) = xs.take k := by
  unfold cutP
  rw [HT.sIx_none, HT.sIx_nat]
  simp only [List.drop_zero, Nat.sub_zero]
  rcases Nat.le_total k xs.length with h | h
  · rw [Nat.min_eq_left h]
  · rw [Nat.min_eq_right h, List.take_length, List.take_of_length_le h]
@[simp] theorem cut_post {A : Type} {xs : List A} {k : Nat} : cutP xs (some (k : Int)) none = xs.drop k := by
  unfold cutP
  rw [HT.sIx_none, HT.sIx_nat]
  rcases Nat.le_total k xs.length with h | h
  · rw [Nat.min_eq_left h, List.take_of_length_le (by simp)]
  · rw [Nat.min_eq_right h, List.drop_of_length_le (Nat.le_refl _), List.drop_of_length_le h]; simp
@[simp] theorem cut_post1 {A : Type} {xs : List A} {k : Nat} : cutP xs (some ((k : Int) + 1)) none = xs.drop (k + 1) := cut_post (k := k + 1)
@[simp] theorem cut_pre1 {A : Type} {xs : List A} {k : Nat} : cutP xs none (some ((k : Int) + 1)) = xs.take (k + 1) := cut_pre (k := k + 1)
@[simp] theorem cut_1 {A : Type} {xs : List A} : cutP xs (some 1) none = xs.drop 1 := cut_post (k := 1)
@[simp] theorem cut_to1 {A : Type} {xs : List A} : cutP xs none (some 1) = xs.take 1 := cut_pre (k := 1)
@[simp] theorem cut_last {A : Type} {xs : List A} : cutP xs none (some (-1)) = xs.dropLast := by
  unfold cutP
  rw [HT.sIx_none]
  have e : HT.sIx xs.length xs.length (some (-1)) = xs.length - 1 := by
    show (if (-1 : Int) < 0 then ((-1 : Int) + (xs.length : Int)).toNat else min (-1 : Int).toNat xs.length) = _
    rw [if_pos (by omega)]; omega
  rw [e, List.drop_zero, List.dropLast_eq_take, Nat.sub_zero]
@[simp] theorem c_lt {i j : Int} : cmpP .Lt (.int i) (.int j) st = some (decide (i < j)) := id rfl
@[simp] theorem c_le {i j : Int} : cmpP .LtE (.int i) (.int j) st = some (decide (i ≤ j)) := id rfl
@[simp] theorem c_gt {i j : Int} : cmpP .Gt (.int i) (.int j) st = some (decide (j < i)) := id rfl
@[simp] theorem c_ge {i j : Int} : cmpP .GtE (.int i) (.int j) st = some (decide (j ≤ i)) := id rfl
@[simp] theorem c_lts {i j : List Nat} : cmpP .Lt (.str i) (.str j) st = some (decide (i < j)) := id rfl
@[simp] theorem c_les {i j : List Nat} : cmpP .LtE (.str i) (.str j) st = some (decide (¬ j < i)) := id rfl
@[simp] theorem c_gts {i j : List Nat} : cmpP .Gt (.str i) (.str j) st = some (decide (j < i)) := id rfl
@[simp] theorem c_ges {i j : List Nat} : cmpP .GtE (.str i) (.str j) st = some (decide (¬ i < j)) := id rfl
@[simp] theorem c_is {v : PV} : cmpP .Is v .non st = some (isNonB v) := id rfl
@[simp] theorem c_isn {v : PV} : cmpP .IsNot v .non st = some (!isNonB v) := id rfl
@[simp] theorem c_ne {x y : PV} : cmpP .NotEq x y st = (cmpP .Eq x y st).map (!·) := id rfl
@[simp] theorem c_nin {x y : PV} : cmpP .NotIn x y st = (cmpP .In x y st).map (!·) := id rfl
theorem okData_int {i : Int} : okData (.int i) = true := by simp [okData, PyData.canLay0, PyData.depth]
theorem okData_bl {i : Bool} : okData (.bool i) = true := by simp [okData, PyData.canLay0, PyData.depth]
theorem okData_non : okData .none = true := by simp [okData, PyData.canLay0, PyData.depth]
@[simp] theorem c_eq {i j : Int} : cmpP .Eq (.int i) (.int j) st = some (decide (i = j)) := by
  show (if okData (.int i) && okData (.int j) then some (PyData.eqv (.int i) (.int j)) else none) = _
  rw [okData_int, okData_int]
  simp [PyData.eqv]
  by_cases h : i = j <;> simp [h]
@[simp] theorem c_eq0 {xs : List PV} : cmpP .Eq (.tup xs) (.tup []) st = some xs.isEmpty := id rfl
/-- codes that are signs -/
def okS (s : List Nat) : Bool := s.all fun c => decide (c < 0x110000)
theorem okData_str {s : List Nat} (h : okS s = true) : okData (.str ⟨s.toArray⟩) = true := by
  simp only [okData, PyData.canLay0, PyData.depth]
  simp only [okS] at h
  simp [PyData.strOk, h]
theorem eqv_str {a b : List Nat} : PyData.eqv (.str ⟨a.toArray⟩) (.str ⟨b.toArray⟩) = decide (a = b) := by
  simp [PyData.eqv]
  by_cases h : a = b
  · simp [h]
  · simp [h]
@[simp] theorem c_eqs {a b : List Nat} : cmpP .Eq (.str a) (.str b) st = some (decide (a = b)) := id rfl
@[simp] theorem c_eql0 {xs : List PV} : cmpP .Eq (.lst xs) (.lst []) st = some xs.isEmpty := id rfl
@[simp] theorem c_ins {a b : List Nat} : cmpP .In (.str a) (.str b) st = some (inStr a b) := id rfl
theorem in_one {a : List Nat} {c : Nat} : inStr [c] a = decide (c ∈ a) := by
  have := SX.in_one a c
  simpa [inStr, SX.S, lenStr] using this
@[simp] theorem isi_non {t : TY} : isiP t .non st = some false := id rfl
@[simp] theorem isi_bl {t : TY} {b : Bool} : isiP t (.bl b) st = some (decide (t = .int) || decide (t = .bool)) := by cases t <;> rfl
@[simp] theorem isi_int {t : TY} {b : Int} : isiP t (.int b) st = some (decide (t = .int)) := by cases t <;> rfl
@[simp] theorem isi_str {t : TY} {b : List Nat} : isiP t (.str b) st = some (decide (t = .str)) := by cases t <;> rfl
@[simp] theorem isi_tup {t : TY} {b : List PV} : isiP t (.tup b) st = some (decide (t = .tuple)) := by cases t <;> rfl
@[simp] theorem isi_lst {t : TY} {b : List PV} : isiP t (.lst b) st = some (decide (t = .list)) := by cases t <;> rfl
@[simp] theorem isi_dct {t : TY} {b : List PV} : isiP t (.dct b) st = some (decide (t = .dict)) := by cases t <;> rfl
@[simp] theorem len_tup {b : List PV} : biP .len [.tup b] st = some (.int b.length) := id rfl
@[simp] theorem len_lst {b : List PV} : biP .len [.lst b] st = some (.int b.length) := id rfl
theorem len_str {b : List Nat} (h : b.length ≤ 16777216) : biP .len [.str b] st = some (.int b.length) := by
  simp only [biP, szl, if_pos h]
@[simp] theorem bi_abs {i : Int} : biP .abs [.int i] st = some (.int (if i < 0 then -i else i)) := id rfl
@[simp] theorem bi_int {i : Int} : biP .int [.int i] st = some (.int i) := id rfl
@[simp] theorem bi_intb {i : Bool} : biP .int [.bl i] st = some (.int (if i then 1 else 0)) := id rfl
@[simp] theorem bi_list_t {b : List PV} : biP .list [.tup b] st = some (.lst b) := id rfl
@[simp] theorem bi_list_l {b : List PV} : biP .list [.lst b] st = some (.lst b) := id rfl
@[simp] theorem bi_tuple_t {b : List PV} : biP .tuple [.tup b] st = some (.tup b) := id rfl
@[simp] theorem bi_tuple_l {b : List PV} : biP .tuple [.lst b] st = some (.tup b) := id rfl
theorem bools_map (bs : List Bool) : boolsOf (bs.map .bl) = some bs := by
  induction bs with
  | nil => rfl
  | cons b bs ih => simp [boolsOf, ih]
@[simp] theorem bi_all {bs : List Bool} : biP .all [.lst (bs.map .bl)] st = some (.bl (bs.all id)) := by
  simp [biP, bools_map]
@[simp] theorem bi_any {bs : List Bool} : biP .any [.lst (bs.map .bl)] st = some (.bl (bs.any id)) := by
  simp [biP, bools_map]
theorem map_blf {A : Type} {xs : List A} {f : A → Bool} : (xs.map fun x => PV.bl (f x)) = (xs.map f).map PV.bl := by rw [List.map_map]; rfl
@[simp] theorem bi_allf {A : Type} {xs : List A} {f : A → Bool} : biP .all [.lst (xs.map fun x => PV.bl (f x))] st = some (.bl (xs.all f)) := by
  rw [map_blf, bi_all, List.all_map]; rfl
@[simp] theorem bi_anyf {A : Type} {xs : List A} {f : A → Bool} : biP .any [.lst (xs.map fun x => PV.bl (f x))] st = some (.bl (xs.any f)) := by
  rw [map_blf, bi_any, List.any_map]; rfl
@[simp] theorem bi_strb {b : Bool} : biP .str [.bl b] st = some (.str (if b then [84, 114, 117, 101] else [70, 97, 108, 115, 101])) := id rfl
@[simp] theorem bi_strs {b : List Nat} : biP .str [.str b] st = some (.str b) := id rfl
/-- a number's digits -/
def decP (i : Int) : List Nat := (toString i).toList.map Char.toNat
theorem bi_stri {i : Int} (h : i.natAbs.log2 < 12900) : biP .str [.int i] st = some (.str (decP i)) := by
  simp only [biP, if_pos h, decP]
theorem log2_sm {i : Int} (h : i.natAbs < 2 ^ 1900) : i.natAbs.log2 < 1900 := by
  by_cases z : i.natAbs = 0
  · rw [z]; decide
  · exact (Nat.log2_lt z).mpr h
theorem log2_small {i : Int} (h : i.natAbs < 2 ^ 1900) : i.natAbs.log2 < 12900 := by
  by_cases z : i.natAbs = 0
  · rw [z]; decide
  · have := (Nat.log2_lt z).mpr h; omega
@[simp] theorem c_eqbi {b : Bool} {i : Int} : cmpP .Eq (.bl b) (.int i) st = some (decide ((if b then 1 else 0) = i)) := by
  show (if okData (.bool b) && okData (.int i) then some (PyData.eqv (.bool b) (.int i)) else none) = _
  rw [okData_int, okData_bl]
  by_cases h : (if b then (1 : Int) else 0) = i
  · subst h; cases b <;> simp [PyData.eqv]
  · rw [decide_eq_false h]
    cases b
    · simp at h; simp [PyData.eqv]; exact h
    · simp at h; simp [PyData.eqv]; exact h
theorem put_loc {n : Nat} {xs : List PV} {k : Nat} {v : PV} (h : st[n]? = some (.lst xs)) (hk : k < xs.length) : putP (.loc n) (.int (k : Int)) v st = .ok () (st.set n (.lst (xs.set k v))) := by
  have e : ixN xs.length (k : Int) = some k := by
    unfold ixN
    rw [if_pos (by omega), if_pos (by omega)]; simp
  simp only [putP, h, e]
@[simp] theorem ix_loc0 {xs : List PV} {k : Int} {rest : Sto} : subP (.loc 0) (.int k) (.lst xs :: rest) = atI xs k := id rfl
@[simp] theorem put_loc0 {xs : List PV} {k : Int} {v : PV} {rest : Sto} : putP (.loc 0) (.int k) v (.lst xs :: rest) = (optR (ixN xs.length k) (.lst xs :: rest)).bnd fun j _ => .ok () (.lst (xs.set j v) :: rest) := by
  unfold putP
  show (match ixN xs.length k with | some j => _ | none => _) = _
  cases ixN xs.length k <;> rfl
@[simp] theorem ixN_lit {n k : Nat} : ixN n (k : Int) = if k < n then some k else none := by
  unfold ixN
  rw [if_pos (by omega)]
  by_cases h : k < n
  · rw [if_pos h, if_pos (by omega)]; simp
  · rw [if_neg h, if_neg (by omega)]
@[simp] theorem ixN_0 {n : Nat} : ixN n 0 = if 0 < n then some 0 else none := ixN_lit (k := 0)
@[simp] theorem ixN_1 {n : Nat} : ixN n 1 = if 1 < n then some 1 else none := ixN_lit (k := 1)
@[simp] theorem ixN_2 {n : Nat} : ixN n 2 = if 2 < n then some 2 else none := ixN_lit (k := 2)
theorem app_loc {n : Nat} {xs : List PV} {v : PV} (h : st[n]? = some (.lst xs)) (hk : xs.length < 16777216) : mthP .append (.loc n) [v] st = .ok .non (st.set n (.lst (xs ++ [v]))) := by
  simp only [mthP, h, szl, if_pos hk]
theorem mok_loc {n : Nat} {xs : List PV} (h : st[n]? = some (.lst xs)) : mOk .append (.loc n) st = true := by
  simp only [mOk, h]
def lstK {A : Type} (o : Option PO) (f : List PV → A) (b : A) : A := match o with
  | some (.lst xs) => f xs
  | none => b
@[simp] theorem lstK_some {A : Type} {xs : List PV} {f : List PV → A} {b : A} : lstK (some (.lst xs)) f b = f xs := id rfl
@[simp] theorem mth_app {n : Nat} {v : PV} : mthP .append (.loc n) [v] st = lstK (st[n]?) (fun xs => if xs.length < 16777216 then .ok .non (st.set n (.lst (xs ++ [v]))) else .bad) .bad := by
  simp only [mthP, szl]
  rcases st[n]? with _ | ⟨xs⟩ <;> rfl
@[simp] theorem mok_app {n : Nat} : mOk .append (.loc n) st = lstK (st[n]?) (fun _ => true) false := by
  simp only [mOk]
  rcases st[n]? with _ | ⟨xs⟩ <;> rfl
@[simp] theorem ix_at {n : Nat} {k : Int} : subP (.loc n) (.int k) st = lstK (st[n]?) (fun xs => atI xs k) none := by
  simp only [subP, seqOf]
  rcases st[n]? with _ | ⟨xs⟩ <;> rfl
@[simp] theorem sq_at {n : Nat} : seqOf st (.loc n) = lstK (st[n]?) (fun xs => some (true, xs)) none := by
  simp only [seqOf]
  rcases st[n]? with _ | ⟨xs⟩ <;> rfl
@[simp] theorem src_at {n : Nat} : srcOf st (.loc n) = lstK (st[n]?) (fun xs => some (.at n xs.length false)) none := by
  simp only [srcOf]
  rcases st[n]? with _ | ⟨xs⟩ <;> rfl
@[simp] theorem len_at {n : Nat} : biP .len [.loc n] st = lstK (st[n]?) (fun xs => some (.int xs.length)) none := by
  simp only [biP, seqOf]
  rcases st[n]? with _ | ⟨xs⟩ <;> rfl
@[simp] theorem tuple_at {n : Nat} : biP .tuple [.loc n] st = lstK (st[n]?) (fun xs => some (.tup xs)) none := by
  simp only [biP, seqOf]
  rcases st[n]? with _ | ⟨xs⟩ <;> rfl
@[simp] theorem list_at {n : Nat} : biP .list [.loc n] st = lstK (st[n]?) (fun xs => some (.lst xs)) none := by
  simp only [biP, seqOf]
  rcases st[n]? with _ | ⟨xs⟩ <;> rfl
@[simp] theorem get_n0 {rest ys : Sto} {o : PO} : (o :: (rest ++ ys))[rest.length + 1]? = ys[0]? := by
  rw [List.getElem?_cons_succ, List.getElem?_append_right (Nat.le_refl _), Nat.sub_self]
@[simp] theorem get_n1 {rest ys : Sto} {o : PO} : (o :: (rest ++ ys))[rest.length + 1 + 1]? = ys[1]? := by
  rw [List.getElem?_cons_succ, List.getElem?_append_right (by omega)]; congr 1; omega
@[simp] theorem get_n2 {rest ys : Sto} {o : PO} : (o :: (rest ++ ys))[rest.length + 1 + 1 + 1]? = ys[2]? := by
  rw [List.getElem?_cons_succ, List.getElem?_append_right (by omega)]; congr 1; omega
@[simp] theorem get_n2' {rest ys : Sto} {o : PO} : (o :: (rest ++ ys))[rest.length + 2]? = ys[1]? := get_n1
@[simp] theorem get_n3' {rest ys : Sto} {o : PO} : (o :: (rest ++ ys))[rest.length + 2 + 1]? = ys[2]? := get_n2
@[simp] theorem set_n0 {rest ys : Sto} {o x : PO} : (o :: (rest ++ ys)).set (rest.length + 1) x = o :: (rest ++ ys.set 0 x) := by
  rw [List.set_cons_succ, List.set_append_right _ _ (Nat.le_refl _), Nat.sub_self]
@[simp] theorem set_n1 {rest ys : Sto} {o x : PO} : (o :: (rest ++ ys)).set (rest.length + 1 + 1) x = o :: (rest ++ ys.set 1 x) := by
  rw [List.set_cons_succ, List.set_append_right _ _ (by omega)]; congr 3; omega
@[simp] theorem set_n2 {rest ys : Sto} {o x : PO} : (o :: (rest ++ ys)).set (rest.length + 1 + 1 + 1) x = o :: (rest ++ ys.set 2 x) := by
  rw [List.set_cons_succ, List.set_append_right _ _ (by omega)]; congr 3; omega
@[simp] theorem set_n2' {rest ys : Sto} {o x : PO} : (o :: (rest ++ ys)).set (rest.length + 2) x = o :: (rest ++ ys.set 1 x) := set_n1
@[simp] theorem src_tup {xs : List PV} : srcOf st (.tup xs) = some (.its xs) := id rfl
@[simp] theorem src_lst {xs : List PV} : srcOf st (.lst xs) = some (.its xs) := id rfl
@[simp] theorem src_str {xs : List Nat} : srcOf st (.str xs) = some (.its (xs.map fun c => .str [c])) := id rfl
theorem rngL_length : ∀ (n : Nat) (lo : Int), (rngL lo n).length = n
  | 0, _ => rfl
  | n + 1, lo => by simp [rngL, rngL_length n]
/-- a comprehension over the list at a place, which stays -/
theorem compA_sat {f : PV → Sto → Res (List PV)} {E : PX → Sto → Prop} {n : Nat} {xs : List PV} (I : List PV → List PV → Sto → Prop) (hget : ∀ rem ys st, I rem ys st → st[n]? = some (.lst xs))
    (hstep : ∀ x rem ys st, I (x :: rem) ys st → (f x st).wp (fun a st1 => I rem (ys ++ a) st1) E) : ∀ (k i : Nat) (ys : List PV) (st : Sto) (Q : List PV → Sto → Prop), i + k = xs.length → I (xs.drop i) ys st → (∀ r st, I [] (ys ++ r) st → Q r st) → (compA f n false i k st).wp Q E
  | 0, i, ys, st, Q, hk, h, hQ => by
    have e := hget _ _ _ h
    rw [show compA f n false i 0 st = .ok [] st from by simp only [compA, e]; rw [if_pos (by omega)], s_ok]
    rw [List.drop_of_length_le (by omega)] at h
    exact hQ [] st (by rw [List.append_nil]; exact h)
  | k + 1, i, ys, st, Q, hk, h, hQ => by
    have e := hget _ _ _ h
    have hi : i < xs.length := by omega
    rw [List.drop_eq_getElem_cons hi] at h
    rw [show compA f n false i (k + 1) st = (f xs[i] st).bnd fun a st1 => (compA f n false (i + 1) k st1).bnd fun r st2 => .ok (a ++ r) st2 from by simp only [compA, e, List.getElem?_eq_getElem hi, itA], s_bnd]
    refine wp_imp (hstep _ _ _ _ h) fun a st1 ha => ?_
    rw [s_bnd]
    refine compA_sat I hget hstep k (i + 1) (ys ++ a) st1 _ (by omega) ha fun r st2 hr => ?_
    rw [s_ok]
    exact hQ (a ++ r) st2 (by rw [← List.append_assoc]; exact hr)
theorem rngL_mem : ∀ {n : Nat} {lo : Int} {x : PV}, x ∈ rngL lo n → ∃ i : Int, x = .int i ∧ lo ≤ i ∧ i < lo + n
  | 0, lo, x, h => by cases h
  | n + 1, lo, x, h => by
    rcases List.mem_cons.mp h with rfl | h
    · exact ⟨lo, rfl, Int.le_refl _, by omega⟩
    · obtain ⟨i, e, h1, h2⟩ := rngL_mem h
      exact ⟨i, e, by omega, by omega⟩
end
end MP.PL

namespace MP.TX
open PySem L2
def b0 : RB :=
    (.cons (.ret (.and (.isi (.var 0) .str) (.and (.cmp .NotEq (.var 0) (.cst (.str []))) (.bi .all (.cons (.lc (.cmp .In (.var 1) (.glo "LETTERS" (.str [97, 98, 99, 100, 101, 102, 103, 104, 105, 106, 107, 108, 109, 110, 111, 112, 113, 114, 115, 116, 117, 118, 119, 120, 121, 122]))) (.name 1) [1] (.seq (.var 0)) .no) .nil)))))
    .nil)
def r0 : Row := ⟨"is_word", ["value", "sign"], 1, false, b0, []⟩
abbrev H0 (rows : Rows) : Prop := Has rows 0 2 1 false b0
def b5 : RB :=
    (.cons (.unp (.pair (.name 2) (.name 3)) (.tup (.cons (.cst (.int 0)) (.cons (.cst (.int 2918)) .nil))))
    (.cons (.for (.name 1) (.seq (.slc (.var 0) .no (.yes (.cst (.int 63))))) (.cons (.set 4 (.bin .Add (.bin .Add (.bin .Mult (.cst (.int 2)) (.bi .abs (.cons (.var 1) .nil))) (.bi .int (.cons (.cmp .Lt (.var 1) (.cst (.int 0))) .nil))) (.cst (.int 1))))
    (.cons (.set 3 (.bin .Mod (.bi .int (.cons (.bin .Add (.bin .Mult (.var 3) (.cst (.int 6364136223846793005))) (.var 4)) .nil)) (.cst (.int 2305843009213693951))))
    (.cons (.ite (.cmp .GtE (.bi .abs (.cons (.var 1) .nil)) (.bin .Pow (.cst (.int 10)) (.cst (.int 18)))) (.cons (.set 2 (.bin .Add (.bin .Mult (.var 2) (.cst (.int 37))) (.bi .abs (.cons (.var 1) .nil))))
    .nil) .nil)
    .nil))))
    (.cons (.ret (.new (.cons (.var 2) (.cons (.var 3) (.cons (.cst (.int 0)) .nil)))))
    .nil)))
def r5 : Row := ⟨"_law_spring", ["_law_script", "_law_cell", "_law_great", "_law_mixed", "_law_more"], 1, true, b5, []⟩
abbrev H5 (rows : Rows) : Prop := Has rows 5 5 1 true b5
def b6 : RB :=
    (.cons (.ite (.cmp .Gt (.sub (.var 0) (.cst (.int 0))) (.cst (.int 0))) (.cons (.set 3 (.bin .Mod (.bi .int (.cons (.sub (.var 0) (.cst (.int 0))) .nil)) (.var 1)))
    (.cons (.put (.var 0) (.cst (.int 0)) (.bin .FloorDiv (.sub (.var 0) (.cst (.int 0))) (.var 1)))
    (.cons (.ret (.var 3))
    .nil))) .nil)
    (.cons (.put (.var 0) (.cst (.int 2)) (.bin .Add (.sub (.var 0) (.cst (.int 2))) (.cst (.int 1))))
    (.cons (.set 2 (.bin .Add (.bin .Mult (.cst (.int 3202034522624059733)) (.sub (.var 0) (.cst (.int 2)))) (.cst (.int 29))))
    (.cons (.put (.var 0) (.cst (.int 1)) (.bin .Mod (.bi .int (.cons (.bin .Add (.bin .Mult (.sub (.var 0) (.cst (.int 1))) (.cst (.int 2862933555777941757))) (.var 2)) .nil)) (.cst (.int 2305843009213693951))))
    (.cons (.ret (.bin .Mod (.bi .int (.cons (.bin .FloorDiv (.bin .Mod (.bi .int (.cons (.bin .Mult (.sub (.var 0) (.cst (.int 1))) (.sub (.var 0) (.cst (.int 1)))) .nil)) (.cst (.int 2305843009213693951))) (.cst (.int 131071))) .nil)) (.var 1)))
    .nil)))))
def r6 : Row := ⟨"_law_dip", ["_law_spring_here", "_law_many", "_law_more", "_law_digit"], 2, false, b6, []⟩
abbrev H6 (rows : Rows) : Prop := Has rows 6 4 2 false b6
def b7 : RB :=
    (.cons (.ret (.sub (.var 1) (.call 6 (.cons (.var 0) (.cons (.bi .len (.cons (.var 1) .nil)) .nil)))))
    .nil)
def r7 : Row := ⟨"_law_pick", ["_law_spring_here", "_law_some"], 2, false, b7, []⟩
abbrev H7 (rows : Rows) : Prop := Has rows 7 2 2 false b7
def b8 : RB :=
    (.cons (.set 2 (.cst (.str [])))
    (.cons (.for (.name 3) (.rng (.bin .Add (.cst (.int 1)) (.call 6 (.cons (.var 0) (.cons (.var 1) .nil))))) (.cons (.set 2 (.bin .Add (.var 2) (.sub (.cst (.str [97, 98, 99, 100, 101, 102, 103, 104, 105, 106, 107, 108, 109, 110, 111, 112, 113, 114, 115, 116, 117, 118, 119, 120, 121, 122])) (.call 6 (.cons (.var 0) (.cons (.cst (.int 26)) .nil))))))
    .nil))
    (.cons (.ret (.var 2))
    .nil)))
def r8 : Row := ⟨"_law_word", ["_law_spring_here", "_law_most", "_law_text", "_law_k"], 2, false, b8, []⟩
abbrev H8 (rows : Rows) : Prop := Has rows 8 4 2 false b8
def b9 : RB :=
    (.cons (.set 1 (.lst (.cons (.cst .non) (.cons (.cst (.bl true)) (.cons (.cst (.bl false)) (.cons (.cst (.int 0)) (.cons (.cst (.int 1)) (.cons (.un .USub (.cst (.int 1))) (.cons (.cst (.int 2)) (.cons (.cst (.str [])) (.cons (.cst (.str [65])) (.cons (.cst (.str [97, 98, 99, 100, 101, 102, 103, 104, 105])) (.cons (.cst (.str [97, 98])) (.cons (.cst (.str [107, 101, 121])) (.cons (.cst (.str [97, 110, 121])) (.cons (.tup .nil) (.cons (.lst .nil) .nil)))))))))))))))))
    (.cons (.set 1 (.bin .Add (.var 1) (.lst (.cons .dct (.cons (.tup (.cons (.cst (.str [97, 110, 121])) .nil)) (.cons (.lst (.cons (.cst (.str [97, 110, 121])) .nil)) (.cons (.bin .Add (.bin .Pow (.cst (.int 10)) (.cst (.int 18))) (.cst (.int 1))) (.cons (.bin .Pow (.cst (.int 10)) (.cst (.int 39))) (.cons (.cst (.str [97, 32, 98])) (.cons (.cst (.str [97, 10])) (.cons (.cst (.str [110, 111, 110, 101])) (.cons (.tup (.cons (.tup .nil) .nil)) .nil))))))))))))
    (.cons (.ret (.call 7 (.cons (.var 0) (.cons (.bin .Add (.var 1) (.lst (.cons (.tup (.cons (.cst (.str [105, 115])) (.cons (.cst (.str [107, 101, 121])) (.cons (.cst (.int 1)) .nil)))) (.cons (.cst (.str [114, 117, 108, 101])) (.cons (.tup (.cons (.cst (.str [101, 110, 100])) (.cons (.cst (.bl true)) .nil))) .nil))))) .nil))))
    .nil)))
def r9 : Row := ⟨"_law_odd", ["_law_spring_here", "_law_some"], 1, false, b9, []⟩
abbrev H9 (rows : Rows) : Prop := Has rows 9 2 1 false b9
def b10 : RB :=
    (.cons (.set 2 (.call 9 (.cons (.var 0) .nil)))
    (.cons (.set 3 (.lst (.cons (.var 2) (.cons (.var 2) .nil))))
    (.cons (.ite (.isi (.var 1) .tuple) (.cons (.set 4 (.call 6 (.cons (.var 0) (.cons (.bin .Add (.bi .len (.cons (.var 1) .nil)) (.cst (.int 1))) .nil))))
    (.cons (.par 5 6 (.slc (.var 1) .no (.yes (.var 4))) (.slc (.var 1) (.yes (.var 4)) .no))
    (.cons (.set 3 (.bin .Add (.var 3) (.lst (.cons (.bi .list (.cons (.var 1) .nil)) (.cons (.slc (.var 1) .no (.yes (.un .USub (.cst (.int 1))))) (.cons (.bin .Add (.var 1) (.tup (.cons (.var 2) .nil))) (.cons (.bin .Add (.bin .Add (.var 5) (.tup (.cons (.var 2) .nil))) (.var 6)) .nil)))))))
    (.cons (.set 3 (.bin .Add (.var 3) (.lst (.cons (.bin .Add (.var 5) (.slc (.var 6) (.yes (.cst (.int 1))) .no)) (.cons (.bin .Add (.bin .Add (.var 5) (.slc (.var 6) .no (.yes (.cst (.int 1))))) (.var 6)) (.cons (.rev (.var 1)) .nil))))))
    .nil)))) .nil)
    (.cons (.ite (.isi (.var 1) .str) (.cons (.set 3 (.bin .Add (.var 3) (.lst (.cons (.bin .Add (.var 1) (.cst (.str [97]))) (.cons (.slc (.var 1) .no (.yes (.un .USub (.cst (.int 1))))) (.cons (.mth .upper (.var 1) .nil) (.cons (.bin .Add (.var 1) (.cst (.str [32]))) (.cons (.rev (.var 1)) .nil))))))))
    .nil) .nil)
    (.cons (.ite (.isi (.var 1) .int) (.cons (.set 3 (.bin .Add (.var 3) (.lst (.cons (.bin .Add (.var 1) (.cst (.int 1))) (.cons (.bin .Sub (.var 1) (.cst (.int 1))) (.cons (.un .USub (.var 1)) (.cons (.cmp .Eq (.var 1) (.cst (.int 1))) (.cons (.bi .int (.cons (.var 1) .nil)) (.cons (.bi .str (.cons (.var 1) .nil)) .nil)))))))))
    .nil) .nil)
    (.cons (.ret (.call 7 (.cons (.var 0) (.cons (.var 3) .nil))))
    .nil))))))
def r10 : Row := ⟨"_law_other", ["_law_spring_here", "_law_value", "_law_odd_here", "_law_some", "_law_spot", "_law_front", "_law_back"], 2, false, b10, []⟩
abbrev H10 (rows : Rows) : Prop := Has rows 10 7 2 false b10
def b11 : RB :=
    (.cons (.ite (.and (.isi (.var 1) .tuple) (.and (.cmp .NotEq (.var 1) (.tup .nil)) (.cmp .Gt (.call 6 (.cons (.var 0) (.cons (.cst (.int 5)) .nil))) (.cst (.int 0))))) (.cons (.set 2 (.call 6 (.cons (.var 0) (.cons (.bi .len (.cons (.var 1) .nil)) .nil))))
    (.cons (.ret (.bin .Add (.bin .Add (.slc (.var 1) .no (.yes (.var 2))) (.tup (.cons (.call 11 (.cons (.var 0) (.cons (.sub (.var 1) (.var 2)) .nil))) .nil))) (.slc (.var 1) (.yes (.bin .Add (.var 2) (.cst (.int 1)))) .no)))
    .nil)) .nil)
    (.cons (.ret (.call 10 (.cons (.var 0) (.cons (.var 1) .nil))))
    .nil))
def r11 : Row := ⟨"_law_spoilt", ["_law_spring_here", "_law_value", "_law_spot"], 2, false, b11, []⟩
abbrev H11 (rows : Rows) : Prop := Has rows 11 3 2 false b11
def b21 : RB :=
    (.cons (.set 2 (.lst (.cons (.cst (.str [97, 109, 111, 117, 110, 116])) (.cons (.cst (.str [107, 101, 121])) (.cons (.cst (.str [119, 104, 111])) (.cons (.cst (.str [97, 110, 121])) (.cons (.cst (.str [110, 111, 116])) (.cons (.cst (.str [97])) (.cons (.cst (.str [122, 122])) .nil)))))))))
    (.cons (.set 3 (.new .nil))
    (.cons (.for (.name 4) (.rng (.bin .Add (.cst (.int 1)) (.call 6 (.cons (.var 0) (.cons (.var 1) .nil))))) (.cons (.set 5 (.cmp .Eq (.call 6 (.cons (.var 0) (.cons (.cst (.int 3)) .nil))) (.cst (.int 0))))
    (.cons (.exp (.mth .append (.var 3) (.cons (.ifx (.var 5) (.call 8 (.cons (.var 0) (.cons (.cst (.int 8)) .nil))) (.call 7 (.cons (.var 0) (.cons (.var 2) .nil)))) .nil)))
    .nil)))
    (.cons (.ret (.srt (.var 3)))
    .nil))))
def r21 : Row := ⟨"_law_names", ["_law_spring_here", "_law_most", "_law_some", "_law_found", "_law_k", "_law_is_new"], 2, false, b21, []⟩
abbrev H21 (rows : Rows) : Prop := Has rows 21 6 2 false b21
def b22 : RB :=
    (.cons (.ret (.bi .tuple (.cons (.lc (.sub (.var 1) (.cst (.int 1))) (.name 1) [1] (.seq (.srt (.lc (.tup (.cons (.bi .len (.cons (.var 2) .nil)) (.cons (.var 2) .nil))) (.name 2) [2] (.seq (.var 0)) .no))) .no) .nil)))
    .nil)
def r22 : Row := ⟨"_law_ordered", ["_law_words", "_law_pair", "_law_word_here"], 1, false, b22, []⟩
abbrev H22 (rows : Rows) : Prop := Has rows 22 3 1 false b22
def b23 : RB :=
    (.cons (.ite (.cmp .Eq (.var 1) (.cst (.str [102, 108, 97, 103]))) (.cons (.ret (.slc (.slc (.tup (.cons (.cst (.bl true)) .nil)) .no (.yes (.call 6 (.cons (.var 0) (.cons (.cst (.int 4)) .nil))))) .no (.yes (.var 2))))
    .nil) .nil)
    (.cons (.par 4 5 (.new .nil) (.lst (.cons (.cst (.str [97])) (.cons (.cst (.str [98])) (.cons (.cst (.str [97, 110, 110])) (.cons (.cst (.str [98, 111, 98])) (.cons (.cst (.str [122])) (.cons (.cst (.str [97, 97])) .nil))))))))
    (.cons (.for (.name 3) (.rng (.call 6 (.cons (.var 0) (.cons (.bin .Add (.var 2) (.cst (.int 1))) .nil)))) (.cons (.set 6 (.call 6 (.cons (.var 0) (.cons (.cst (.int 4)) .nil))))
    (.cons (.ite (.cmp .Eq (.var 1) (.cst (.str [119, 111, 114, 100]))) (.cons (.exp (.mth .append (.var 4) (.cons (.ifx (.cmp .Eq (.var 6) (.cst (.int 0))) (.call 8 (.cons (.var 0) (.cons (.cst (.int 8)) .nil))) (.call 7 (.cons (.var 0) (.cons (.var 5) .nil)))) .nil)))
    .nil) (.cons (.ite (.cmp .Lt (.var 6) (.cst (.int 2))) (.cons (.exp (.mth .append (.var 4) (.cons (.bin .Add (.cst (.int 1)) (.call 6 (.cons (.var 0) (.cons (.cst (.int 5)) .nil)))) .nil)))
    .nil) (.cons (.set 7 (.bin .Sub (.bin .Pow (.cst (.int 10)) (.cst (.int 18))) (.call 6 (.cons (.var 0) (.cons (.cst (.int 3)) .nil)))))
    (.cons (.exp (.mth .append (.var 4) (.cons (.bin .Add (.cst (.int 1)) (.ifx (.cmp .Eq (.var 6) (.cst (.int 2))) (.var 7) (.call 6 (.cons (.var 0) (.cons (.bin .Pow (.cst (.int 10)) (.cst (.int 18))) .nil))))) .nil)))
    .nil)))
    .nil))
    .nil)))
    (.cons (.ret (.ifx (.cmp .Eq (.var 1) (.cst (.str [119, 111, 114, 100]))) (.call 22 (.cons (.var 4) .nil)) (.bi .tuple (.cons (.srt (.var 4)) .nil))))
    .nil))))
def r23 : Row := ⟨"_law_marks", ["_law_spring_here", "_law_kind", "_law_most", "_law_k", "_law_found", "_law_some", "_law_way", "_law_far"], 3, false, b23, []⟩
abbrev H23 (rows : Rows) : Prop := Has rows 23 8 3 false b23
def b24 : RB :=
    (.cons (.par 4 5 (.new .nil) (.new .nil))
    (.cons (.for (.name 3) (.seq (.call 21 (.cons (.var 0) (.cons (.var 1) .nil)))) (.cons (.set 6 (.call 7 (.cons (.var 0) (.cons (.lst (.cons (.cst (.str [110, 117, 109, 98, 101, 114])) (.cons (.cst (.str [119, 111, 114, 100])) (.cons (.cst (.str [102, 108, 97, 103])) (.cons (.cst (.str [110, 117, 109, 98, 101, 114])) (.cons (.cst (.str [119, 111, 114, 100])) .nil)))))) .nil))))
    (.cons (.set 7 (.call 23 (.cons (.var 0) (.cons (.var 6) (.cons (.bi .min (.cons (.bin .Sub (.var 2) (.cst (.int 1))) (.cons (.cst (.int 5)) .nil))) .nil)))))
    (.cons (.set 2 (.bin .FloorDiv (.var 2) (.bin .Add (.bi .len (.cons (.var 7) .nil)) (.cst (.int 1)))))
    (.cons (.exp (.mth .append (.var 4) (.cons (.tup (.cons (.var 3) (.cons (.var 6) .nil))) .nil)))
    (.cons (.exp (.mth .append (.var 5) (.cons (.var 7) .nil)))
    .nil))))))
    (.cons (.ret (.lst (.cons (.bi .tuple (.cons (.var 4) .nil)) (.cons (.var 5) .nil))))
    .nil)))
def r24 : Row := ⟨"_law_house", ["_law_spring_here", "_law_most", "_law_room", "_law_name", "_law_fields", "_law_marks_here", "_law_kind", "_law_own"], 3, false, b24, []⟩
abbrev H24 (rows : Rows) : Prop := Has rows 24 8 3 false b24
def b25 : RB :=
    (.cons (.set 2 (.new .nil))
    (.cons (.for (.name 3) (.rng (.bi .len (.cons (.sub (.var 1) (.cst (.int 0))) .nil))) (.cons (.par 5 6 (.sub (.sub (.sub (.var 1) (.cst (.int 0))) (.var 3)) (.cst (.int 1))) (.sub (.sub (.var 1) (.cst (.int 1))) (.var 3)))
    (.cons (.set 4 (.call 6 (.cons (.var 0) (.cons (.cst (.int 4)) .nil))))
    (.cons (.ite (.cmp .Eq (.var 5) (.cst (.str [102, 108, 97, 103]))) (.cons (.exp (.mth .append (.var 2) (.cons (.cmp .Gt (.var 4) (.cst (.int 1))) .nil)))
    .nil) (.cons (.ite (.cmp .Eq (.var 5) (.cst (.str [119, 111, 114, 100]))) (.cons (.set 7 (.bin .Add (.bi .list (.cons (.var 6) .nil)) (.lst (.cons (.cst (.str [97])) (.cons (.cst (.str [122, 122, 122, 122, 122, 122, 122, 122, 122, 122, 122, 122])) .nil)))))
    (.cons (.exp (.mth .append (.var 2) (.cons (.ifx (.cmp .Eq (.var 4) (.cst (.int 0))) (.call 8 (.cons (.var 0) (.cons (.cst (.int 9)) .nil))) (.call 7 (.cons (.var 0) (.cons (.var 7) .nil)))) .nil)))
    .nil)) (.cons (.set 7 (.bin .Add (.bin .Add (.bin .Add (.lst (.cons (.cst (.int 0)) .nil)) (.bi .list (.cons (.var 6) .nil))) (.lc (.bin .Sub (.var 9) (.cst (.int 1))) (.name 9) [9] (.seq (.var 6)) .no)) (.lst (.cons (.bin .Pow (.cst (.int 10)) (.cst (.int 18))) (.cons (.bin .Pow (.cst (.int 10)) (.cst (.int 39))) .nil)))))
    (.cons (.set 8 (.call 6 (.cons (.var 0) (.cons (.bin .Add (.bin .Pow (.cst (.int 10)) (.cst (.int 18))) (.cst (.int 9))) .nil))))
    (.cons (.exp (.mth .append (.var 2) (.cons (.ifx (.cmp .Eq (.var 4) (.cst (.int 0))) (.var 8) (.call 7 (.cons (.var 0) (.cons (.var 7) .nil)))) .nil)))
    .nil))))
    .nil))
    .nil))))
    (.cons (.ret (.bi .tuple (.cons (.var 2) .nil)))
    .nil)))
def r25 : Row := ⟨"_law_request", ["_law_spring_here", "_law_house_here", "_law_found", "_law_spot", "_law_way", "_law_kind", "_law_own", "_law_some", "_law_far", "_law_mark"], 2, false, b25, []⟩
abbrev H25 (rows : Rows) : Prop := Has rows 25 10 2 false b25
def b26 : RB :=
    (.cons (.set 2 (.call 25 (.cons (.var 0) (.cons (.var 1) .nil))))
    (.cons (.ret (.bi .tuple (.cons (.lc (.ifx (.cmp .Eq (.call 6 (.cons (.var 0) (.cons (.cst (.int 2)) .nil))) (.cst (.int 0))) (.cst .non) (.var 3)) (.name 3) [3] (.seq (.var 2)) .no) .nil)))
    .nil))
def r26 : Row := ⟨"_law_partial", ["_law_spring_here", "_law_house_here", "_law_request_here", "_law_value"], 2, false, b26, []⟩
abbrev H26 (rows : Rows) : Prop := Has rows 26 4 2 false b26
def b35 : RB :=
    (.cons (.set 2 (.lc (.var 3) (.pair (.name 3) (.name 4)) [3, 4] (.enum (.var 0)) (.yes (.and (.isi (.var 1) .str) (.cmp .Eq (.sub (.var 4) (.cst (.int 0))) (.var 1))))))
    (.cons (.ret (.ifx (.cmp .NotEq (.var 2) (.lst .nil)) (.sub (.var 2) (.cst (.int 0))) (.un .USub (.cst (.int 1)))))
    .nil))
def r35 : Row := ⟨"place_of", ["fields", "name", "found", "at", "field"], 2, false, b35, []⟩
abbrev H35 (rows : Rows) : Prop := Has rows 35 5 2 false b35
def b66 : RB :=
    (.cons (.set 2 (.call 6 (.cons (.var 0) (.cons (.bi .len (.cons (.sub (.var 1) (.cst (.int 0))) .nil)) .nil))))
    (.cons (.unp (.pair (.name 4) (.name 5)) (.sub (.sub (.var 1) (.cst (.int 0))) (.var 2)))
    (.cons (.unp (.pair (.name 6) (.name 7)) (.tup (.cons (.sub (.sub (.var 1) (.cst (.int 1))) (.var 2)) (.cons (.call 6 (.cons (.var 0) (.cons (.cst (.int 9)) .nil))) .nil))))
    (.cons (.ite (.or (.cmp .Eq (.var 7) (.cst (.int 0))) (.and (.cmp .Eq (.var 5) (.cst (.str [102, 108, 97, 103]))) (.cmp .Eq (.var 6) (.tup .nil)))) (.cons (.ret (.tup (.cons (.cst (.str [97, 110, 121])) .nil)))
    .nil) .nil)
    (.cons (.ite (.cmp .Eq (.var 5) (.cst (.str [102, 108, 97, 103]))) (.cons (.ret (.tup (.cons (.cst (.str [105, 115])) (.cons (.var 4) (.cons (.cmp .Gt (.var 7) (.cst (.int 4))) .nil)))))
    .nil) .nil)
    (.cons (.ite (.cmp .Eq (.var 5) (.cst (.str [119, 111, 114, 100]))) (.cons (.ite (.and (.cmp .NotEq (.var 6) (.tup .nil)) (.cmp .Lt (.var 7) (.cst (.int 5)))) (.cons (.ret (.tup (.cons (.cst (.str [105, 115])) (.cons (.var 4) (.cons (.call 7 (.cons (.var 0) (.cons (.var 6) .nil))) .nil)))))
    .nil) .nil)
    (.cons (.ret (.tup (.cons (.cst (.str [97, 109, 111, 110, 103])) (.cons (.var 4) (.cons (.bi .tuple (.cons (.lc (.var 9) (.name 9) [9] (.seq (.var 6)) (.yes (.cmp .Eq (.call 6 (.cons (.var 0) (.cons (.cst (.int 2)) .nil))) (.cst (.int 0))))) .nil)) .nil)))))
    .nil)) .nil)
    (.cons (.set 3 (.lc (.var 8) (.name 8) [8] (.seq (.bin .Add (.tup (.cons (.cst (.int 0)) .nil)) (.var 6))) (.yes (.and (.cmp .In (.bin .Add (.var 8) (.cst (.int 1))) (.var 6)) (.cmp .LtE (.var 8) (.bin .Pow (.cst (.int 10)) (.cst (.int 18))))))))
    (.cons (.ite (.and (.cmp .NotEq (.var 3) (.lst .nil)) (.cmp .Lt (.var 7) (.cst (.int 5)))) (.cons (.ret (.tup (.cons (.cst (.str [105, 115])) (.cons (.var 4) (.cons (.call 7 (.cons (.var 0) (.cons (.var 3) .nil))) .nil)))))
    .nil) .nil)
    (.cons (.ret (.tup (.cons (.cst (.str [98, 101, 108, 111, 119])) (.cons (.var 4) (.cons (.call 7 (.cons (.var 0) (.cons (.bin .Add (.lst (.cons (.cst (.int 0)) .nil)) (.bin .Mult (.lc (.var 10) (.name 10) [10] (.seq (.var 6)) (.yes (.cmp .LtE (.var 10) (.bin .Pow (.cst (.int 10)) (.cst (.int 18)))))) (.cst (.int 3)))) .nil))) .nil)))))
    .nil)))))))))
def r66 : Row := ⟨"_law_plain", ["_law_spring_here", "_law_house_here", "_law_spot", "_law_values", "_law_name", "_law_kind", "_law_own", "_law_way", "_law_value", "_law_word_here", "_law_cut"], 2, false, b66, []⟩
abbrev H66 (rows : Rows) : Prop := Has rows 66 11 2 false b66
def b67 : RB :=
    (.cons (.set 3 (.ifx (.cmp .Gt (.var 2) (.cst (.int 1))) (.call 6 (.cons (.var 0) (.cons (.cst (.int 7)) .nil))) (.cst (.int 0))))
    (.cons (.ite (.cmp .Lt (.var 3) (.cst (.int 3))) (.cons (.ret (.call 66 (.cons (.var 0) (.cons (.var 1) .nil))))
    .nil) .nil)
    (.cons (.ite (.cmp .Eq (.var 3) (.cst (.int 3))) (.cons (.ret (.tup (.cons (.cst (.str [110, 111, 116])) (.cons (.call 67 (.cons (.var 0) (.cons (.var 1) (.cons (.bin .Sub (.var 2) (.cst (.int 1))) .nil)))) .nil))))
    .nil) .nil)
    (.cons (.set 4 (.call 67 (.cons (.var 0) (.cons (.var 1) (.cons (.bin .Sub (.var 2) (.cst (.int 1))) .nil)))))
    (.cons (.ret (.tup (.cons (.sub (.lst (.cons (.cst (.str [97, 110, 100])) (.cons (.cst (.str [111, 114])) .nil))) (.bin .Mod (.bi .int (.cons (.var 3) .nil)) (.cst (.int 2)))) (.cons (.var 4) (.cons (.call 67 (.cons (.var 0) (.cons (.var 1) (.cons (.bin .Sub (.var 2) (.cst (.int 1))) .nil)))) .nil)))))
    .nil)))))
def r67 : Row := ⟨"_law_test", ["_law_spring_here", "_law_house_here", "_law_deep", "_law_way", "_law_one"], 3, false, b67, []⟩
abbrev H67 (rows : Rows) : Prop := Has rows 67 5 3 false b67
def b102 : RB :=
    (.cons (.set 3 (.sub (.var 1) (.cst (.int 0))))
    (.cons (.ite (.cmp .Eq (.var 3) (.cst (.str [97, 110, 121]))) (.cons (.ret (.cst (.bl true)))
    .nil) .nil)
    (.cons (.ite (.cmp .Eq (.var 3) (.cst (.str [110, 111, 116]))) (.cons (.ret (.un .Not (.call 102 (.cons (.var 0) (.cons (.sub (.var 1) (.cst (.int 1))) (.cons (.var 2) .nil))))))
    .nil) .nil)
    (.cons (.ite (.cmp .In (.var 3) (.tup (.cons (.cst (.str [97, 110, 100])) (.cons (.cst (.str [111, 114])) .nil)))) (.cons (.set 5 (.lc (.call 102 (.cons (.var 0) (.cons (.var 6) (.cons (.var 2) .nil)))) (.name 6) [6] (.seq (.slc (.var 1) (.yes (.cst (.int 1))) .no)) .no))
    (.cons (.ret (.ifx (.cmp .Eq (.var 3) (.cst (.str [97, 110, 100]))) (.bi .all (.cons (.var 5) .nil)) (.bi .any (.cons (.var 5) .nil))))
    .nil)) .nil)
    (.cons (.set 4 (.sub (.var 2) (.call 35 (.cons (.var 0) (.cons (.sub (.var 1) (.cst (.int 1))) .nil)))))
    (.cons (.ite (.cmp .Eq (.var 3) (.cst (.str [105, 115]))) (.cons (.ret (.cmp .Eq (.var 4) (.sub (.var 1) (.cst (.int 2)))))
    .nil) .nil)
    (.cons (.ret (.ifx (.cmp .Eq (.var 3) (.cst (.str [98, 101, 108, 111, 119]))) (.cmp .Lt (.var 4) (.sub (.var 1) (.cst (.int 2)))) (.cmp .In (.var 4) (.sub (.var 1) (.cst (.int 2))))))
    .nil)))))))
def r102 : Row := ⟨"is_so", ["fields", "test", "request", "head", "value", "flags", "item"], 3, false, b102, []⟩
abbrev H102 (rows : Rows) : Prop := Has rows 102 7 3 false b102
def b103 : RB :=
    (.cons (.ite (.cmp .Eq (.sub (.var 1) (.cst (.int 0))) (.cst (.str [97, 110, 121]))) (.cons (.ret (.cst (.bl true)))
    .nil) .nil)
    (.cons (.ite (.cmp .Eq (.sub (.var 1) (.cst (.int 0))) (.cst (.str [110, 111, 116]))) (.cons (.ret (.un .Not (.call 103 (.cons (.var 0) (.cons (.sub (.var 1) (.cst (.int 1))) (.cons (.var 2) .nil))))))
    .nil) .nil)
    (.cons (.ite (.cmp .In (.sub (.var 1) (.cst (.int 0))) (.tup (.cons (.cst (.str [97, 110, 100])) (.cons (.cst (.str [111, 114])) .nil)))) (.cons (.set 4 (.lc (.call 103 (.cons (.var 0) (.cons (.var 5) (.cons (.var 2) .nil)))) (.name 5) [5] (.seq (.slc (.var 1) (.yes (.cst (.int 1))) .no)) .no))
    (.cons (.ret (.ifx (.cmp .Eq (.sub (.var 1) (.cst (.int 0))) (.cst (.str [97, 110, 100]))) (.cmp .NotIn (.cst (.bl false)) (.var 4)) (.cmp .In (.cst (.bl true)) (.var 4))))
    .nil)) .nil)
    (.cons (.set 3 (.sub (.var 2) (.mth .index (.lc (.sub (.var 6) (.cst (.int 0))) (.name 6) [6] (.seq (.var 0)) .no) (.cons (.sub (.var 1) (.cst (.int 1))) .nil))))
    (.cons (.ite (.cmp .Eq (.sub (.var 1) (.cst (.int 0))) (.cst (.str [105, 115]))) (.cons (.ret (.cmp .Eq (.var 3) (.sub (.var 1) (.cst (.int 2)))))
    .nil) .nil)
    (.cons (.ret (.ifx (.cmp .Eq (.sub (.var 1) (.cst (.int 0))) (.cst (.str [98, 101, 108, 111, 119]))) (.cmp .Lt (.var 3) (.sub (.var 1) (.cst (.int 2)))) (.cmp .In (.var 3) (.sub (.var 1) (.cst (.int 2))))))
    .nil))))))
def r103 : Row := ⟨"_law_so", ["_law_fields", "_law_test_here", "_law_request_here", "_law_value", "_law_flags", "_law_one", "_law_field"], 3, false, b103, []⟩
abbrev H103 (rows : Rows) : Prop := Has rows 103 7 3 false b103
def b104 : RB :=
    (.cons (.set 3 (.new .nil))
    (.cons (.for (.name 4) (.rng (.bi .len (.cons (.sub (.var 1) (.cst (.int 0))) .nil))) (.cons (.par 6 7 (.sub (.sub (.sub (.var 1) (.cst (.int 0))) (.var 4)) (.cst (.int 1))) (.sub (.sub (.var 1) (.cst (.int 1))) (.var 4)))
    (.cons (.set 5 (.sub (.var 2) (.var 4)))
    (.cons (.ite (.cmp .Eq (.var 6) (.cst (.str [110, 117, 109, 98, 101, 114]))) (.cons (.set 8 (.lc (.var 11) (.name 11) [11] (.seq (.var 7)) (.yes (.cmp .Gt (.var 11) (.var 5)))))
    (.cons (.set 9 (.bin .Add (.var 5) (.call 7 (.cons (.var 0) (.cons (.lst (.cons (.cst (.int 0)) (.cons (.cst (.int 1)) (.cons (.bin .Pow (.cst (.int 10)) (.cst (.int 20))) .nil)))) .nil)))))
    (.cons (.exp (.mth .append (.var 3) (.cons (.ifx (.cmp .NotEq (.var 8) (.lst .nil)) (.bin .Sub (.sub (.var 8) (.cst (.int 0))) (.cst (.int 1))) (.var 9)) .nil)))
    .nil))) (.cons (.ite (.and (.cmp .Eq (.var 6) (.cst (.str [119, 111, 114, 100]))) (.cmp .NotIn (.var 5) (.var 7))) (.cons (.set 10 (.call 8 (.cons (.var 0) (.cons (.cst (.int 9)) .nil))))
    (.cons (.exp (.mth .append (.var 3) (.cons (.ifx (.cmp .NotIn (.var 10) (.var 7)) (.var 10) (.bin .Add (.var 5) (.cst (.str [97, 97, 97, 97, 97, 97, 97, 97, 97])))) .nil)))
    .nil)) (.cons (.exp (.mth .append (.var 3) (.cons (.var 5) .nil)))
    .nil))
    .nil))
    .nil))))
    (.cons (.ret (.bi .tuple (.cons (.var 3) .nil)))
    .nil)))
def r104 : Row := ⟨"_law_moved", ["_law_spring_here", "_law_house_here", "_law_request_here", "_law_found", "_law_k", "_law_value", "_law_kind", "_law_own", "_law_above", "_law_more", "_law_word_here", "_law_mark"], 3, false, b104, []⟩
abbrev H104 (rows : Rows) : Prop := Has rows 104 12 3 false b104
def b127 : RB :=
    (.cons (.ret (.ifx (.cmp .Eq (.sub (.var 0) (.cst (.int 0))) (.cst (.str [114, 117, 108, 101]))) (.sub (.var 0) (.cst (.int 3))) (.sub (.var 0) (.cst (.int 2)))))
    .nil)
def r127 : Row := ⟨"test_in", ["item"], 1, false, b127, []⟩
abbrev H127 (rows : Rows) : Prop := Has rows 127 1 1 false b127
def b130 : RB :=
    (.cons (.par 2 3 (.new .nil) (.lst (.cons (.cst (.str [108, 111, 103])) (.cons (.cst (.str [109, 97, 105, 108])) (.cons (.cst (.str [97])) (.cons (.cst (.str [115, 105, 103, 110])) .nil))))))
    (.cons (.for (.name 1) (.rng (.call 6 (.cons (.var 0) (.cons (.cst (.int 4)) .nil)))) (.cons (.set 4 (.cmp .Eq (.call 6 (.cons (.var 0) (.cons (.cst (.int 4)) .nil))) (.cst (.int 0))))
    (.cons (.exp (.mth .append (.var 2) (.cons (.ifx (.var 4) (.call 8 (.cons (.var 0) (.cons (.cst (.int 8)) .nil))) (.call 7 (.cons (.var 0) (.cons (.var 3) .nil)))) .nil)))
    .nil)))
    (.cons (.ret (.bi .tuple (.cons (.srt (.var 2)) .nil)))
    .nil)))
def r130 : Row := ⟨"_law_duties", ["_law_spring_here", "_law_k", "_law_found", "_law_some", "_law_is_new"], 1, false, b130, []⟩
abbrev H130 (rows : Rows) : Prop := Has rows 130 5 1 false b130
def b131 : RB :=
    (.cons (.set 5 (.new .nil))
    (.cons (.for (.name 6) (.rng (.bi .min (.cons (.var 3) (.cons (.bi .len (.cons (.var 2) .nil)) .nil)))) (.cons (.ite (.cmp .NotEq (.var 2) (.lst .nil)) (.cons (.set 7 (.mth .pop (.var 2) (.cons (.call 6 (.cons (.var 0) (.cons (.bi .len (.cons (.var 2) .nil)) .nil))) .nil)))
    (.cons (.set 8 (.call 67 (.cons (.var 0) (.cons (.var 1) (.cons (.cst (.int 3)) .nil)))))
    (.cons (.ite (.and (.cmp .Gt (.var 4) (.cst (.int 0))) (.cmp .Eq (.call 6 (.cons (.var 0) (.cons (.cst (.int 3)) .nil))) (.cst (.int 0)))) (.cons (.set 9 (.call 7 (.cons (.var 0) (.cons (.lst (.cons (.cst (.str [102, 105, 114, 115, 116])) (.cons (.cst (.str [100, 101, 110, 121])) (.cons (.cst (.str [97, 108, 108, 111, 119])) (.cons (.cst (.str [111, 110, 101])) .nil))))) .nil))))
    (.cons (.set 10 (.call 131 (.cons (.var 0) (.cons (.var 1) (.cons (.var 2) (.cons (.call 6 (.cons (.var 0) (.cons (.cst (.int 4)) .nil))) (.cons (.bin .Sub (.var 4) (.cst (.int 1))) .nil)))))))
    (.cons (.exp (.mth .append (.var 5) (.cons (.tup (.cons (.cst (.str [98, 111, 111, 107])) (.cons (.var 7) (.cons (.var 8) (.cons (.var 9) (.cons (.var 10) .nil)))))) .nil)))
    .nil))) (.cons (.set 11 (.call 7 (.cons (.var 0) (.cons (.lst (.cons (.cst (.str [97, 108, 108, 111, 119])) (.cons (.cst (.str [100, 101, 110, 121])) .nil))) .nil))))
    (.cons (.exp (.mth .append (.var 5) (.cons (.tup (.cons (.cst (.str [114, 117, 108, 101])) (.cons (.var 7) (.cons (.var 11) (.cons (.var 8) (.cons (.call 130 (.cons (.var 0) .nil)) .nil)))))) .nil)))
    .nil)))
    .nil))) .nil)
    .nil))
    (.cons (.ret (.bi .tuple (.cons (.var 5) .nil)))
    .nil)))
def r131 : Row := ⟨"_law_items", ["_law_spring_here", "_law_house_here", "_law_names_here", "_law_many", "_law_deep", "_law_found", "_law_k", "_law_name", "_law_test_here", "_law_way", "_law_items_here", "_law_effect"], 5, false, b131, []⟩
abbrev H131 (rows : Rows) : Prop := Has rows 131 12 5 false b131
def b132 : RB :=
    (.cons (.set 3 (.new (.cons (.cst (.str [97])) (.cons (.cst (.str [98])) (.cons (.cst (.str [98, 105, 103])) (.cons (.cst (.str [107, 101, 121])) (.cons (.cst (.str [108, 111, 103])) (.cons (.cst (.str [110, 105, 103, 104, 116])) (.cons (.cst (.str [115, 116, 97, 102, 102])) (.cons (.cst (.str [119, 104, 111])) (.cons (.cst (.str [120])) (.cons (.cst (.str [122, 122])) .nil))))))))))))
    (.cons (.set 3 (.srtN (.bin .Add (.var 3) (.lst (.cons (.call 8 (.cons (.var 0) (.cons (.cst (.int 8)) .nil))) (.cons (.call 8 (.cons (.var 0) (.cons (.cst (.int 2)) .nil))) .nil))))))
    (.cons (.whl (.cmp .Gt (.bi .len (.cons (.var 3) .nil)) (.var 2)) (.cons (.exp (.mth .pop (.var 3) (.cons (.call 6 (.cons (.var 0) (.cons (.bi .len (.cons (.var 3) .nil)) .nil))) .nil)))
    .nil))
    (.cons (.set 4 (.call 7 (.cons (.var 0) (.cons (.lst (.cons (.cst (.str [102, 105, 114, 115, 116])) (.cons (.cst (.str [100, 101, 110, 121])) (.cons (.cst (.str [97, 108, 108, 111, 119])) (.cons (.cst (.str [111, 110, 101])) .nil))))) .nil))))
    (.cons (.ret (.tup (.cons (.cst (.str [112, 111, 108, 105, 99, 121])) (.cons (.var 4) (.cons (.call 131 (.cons (.var 0) (.cons (.var 1) (.cons (.var 3) (.cons (.bin .Add (.cst (.int 1)) (.call 6 (.cons (.var 0) (.cons (.var 2) .nil)))) (.cons (.cst (.int 3)) .nil)))))) .nil)))))
    .nil)))))
def r132 : Row := ⟨"_law_policy", ["_law_spring_here", "_law_house_here", "_law_most", "_law_names_here", "_law_way"], 3, false, b132, []⟩
abbrev H132 (rows : Rows) : Prop := Has rows 132 5 3 false b132
def b163 : RB :=
    (.cons (.ret (.bi .tuple (.cons (.ssc2 (.var 2) (.name 1) (.name 2) [1, 2] [2] (.seq (.var 0)) (.seq (.sub (.sub (.var 1) (.cst (.int 0))) (.cst (.int 1))))) .nil)))
    .nil)
def r163 : Row := ⟨"joined_duties", ["results", "result", "duty"], 1, false, b163, []⟩
abbrev H163 (rows : Rows) : Prop := Has rows 163 3 1 false b163
def b164 : RB :=
    (.cons (.ret (.bi .tuple (.cons (.lc2 (.var 2) (.name 1) (.name 2) [1, 2] [2] (.seq (.var 0)) (.seq (.sub (.var 1) (.cst (.int 1))))) .nil)))
    .nil)
def r164 : Row := ⟨"joined_names", ["results", "result", "name"], 1, false, b164, []⟩
abbrev H164 (rows : Rows) : Prop := Has rows 164 3 1 false b164
def b165 : RB :=
    (.cons (.for (.name 2) (.seq (.dsub "RANKS" [([100, 101, 110, 121], (.tup [(.str [100, 101, 110, 121]), (.str [99, 108, 97, 115, 104]), (.str [97, 108, 108, 111, 119])])), ([97, 108, 108, 111, 119], (.tup [(.str [97, 108, 108, 111, 119]), (.str [99, 108, 97, 115, 104]), (.str [100, 101, 110, 121])]))] (.var 1))) (.cons (.set 3 (.lc (.var 5) (.name 5) [5] (.seq (.var 0)) (.yes (.cmp .Eq (.sub (.sub (.var 5) (.cst (.int 0))) (.cst (.int 0))) (.var 2)))))
    (.cons (.ite (.cmp .NotEq (.var 3) (.lst .nil)) (.cons (.set 4 (.ifx (.cmp .Eq (.var 2) (.cst (.str [99, 108, 97, 115, 104]))) (.tup .nil) (.call 163 (.cons (.var 3) .nil))))
    (.cons (.ret (.tup (.cons (.tup (.cons (.var 2) (.cons (.var 4) .nil))) (.cons (.call 164 (.cons (.var 3) .nil)) .nil))))
    .nil)) .nil)
    .nil)))
    (.cons (.ret (.tup (.cons (.glo "NOTHING" (.tup [(.str [110, 111, 110, 101]), (.tup [])])) (.cons (.tup .nil) .nil))))
    .nil))
def r165 : Row := ⟨"by_rank", ["results", "way", "decision", "some", "duties", "result"], 2, false, b165, []⟩
abbrev H165 (rows : Rows) : Prop := Has rows 165 6 2 false b165
def b166 : RB :=
    (.cons (.ite (.din false "RANKS" [([100, 101, 110, 121], (.tup [(.str [100, 101, 110, 121]), (.str [99, 108, 97, 115, 104]), (.str [97, 108, 108, 111, 119])])), ([97, 108, 108, 111, 119], (.tup [(.str [97, 108, 108, 111, 119]), (.str [99, 108, 97, 115, 104]), (.str [100, 101, 110, 121])]))] (.var 1)) (.cons (.ret (.call 165 (.cons (.var 0) (.cons (.var 1) .nil))))
    .nil) .nil)
    (.cons (.ite (.cmp .Eq (.var 0) (.lst .nil)) (.cons (.ret (.tup (.cons (.glo "NOTHING" (.tup [(.str [110, 111, 110, 101]), (.tup [])])) (.cons (.tup .nil) .nil))))
    .nil) .nil)
    (.cons (.ite (.or (.cmp .Eq (.var 1) (.cst (.str [102, 105, 114, 115, 116]))) (.cmp .Eq (.bi .len (.cons (.var 0) .nil)) (.cst (.int 1)))) (.cons (.ret (.sub (.var 0) (.cst (.int 0))))
    .nil) .nil)
    (.cons (.ret (.tup (.cons (.tup (.cons (.cst (.str [99, 108, 97, 115, 104])) (.cons (.tup .nil) .nil))) (.cons (.call 164 (.cons (.var 0) .nil)) .nil))))
    .nil))))
def r166 : Row := ⟨"by_way", ["results", "way"], 2, false, b166, []⟩
abbrev H166 (rows : Rows) : Prop := Has rows 166 2 2 false b166
def b167 : RB :=
    (.cons (.ite (.un .Not (.call 102 (.cons (.var 0) (.cons (.call 127 (.cons (.var 1) .nil)) (.cons (.var 2) .nil))))) (.cons (.ret (.tup (.cons (.glo "NOTHING" (.tup [(.str [110, 111, 110, 101]), (.tup [])])) (.cons (.tup .nil) .nil))))
    .nil) .nil)
    (.cons (.ite (.cmp .Eq (.sub (.var 1) (.cst (.int 0))) (.cst (.str [114, 117, 108, 101]))) (.cons (.ret (.tup (.cons (.tup (.cons (.sub (.var 1) (.cst (.int 2))) (.cons (.sub (.var 1) (.cst (.int 4))) .nil))) (.cons (.tup (.cons (.sub (.var 1) (.cst (.int 1))) .nil)) .nil))))
    .nil) .nil)
    (.cons (.ret (.call 168 (.cons (.var 0) (.cons (.sub (.var 1) (.cst (.int 4))) (.cons (.sub (.var 1) (.cst (.int 3))) (.cons (.var 2) .nil))))))
    .nil)))
def r167 : Row := ⟨"item_result", ["fields", "item", "request"], 3, false, b167, []⟩
abbrev H167 (rows : Rows) : Prop := Has rows 167 3 3 false b167
def b168 : RB :=
    (.cons (.set 4 (.lc (.call 167 (.cons (.var 0) (.cons (.var 5) (.cons (.var 3) .nil)))) (.name 5) [5] (.seq (.var 1)) .no))
    (.cons (.ret (.call 166 (.cons (.lc (.var 6) (.name 6) [6] (.seq (.var 4)) (.yes (.cmp .NotEq (.sub (.sub (.var 6) (.cst (.int 0))) (.cst (.int 0))) (.cst (.str [110, 111, 110, 101]))))) (.cons (.var 2) .nil))))
    .nil))
def r168 : Row := ⟨"items_result", ["fields", "items", "way", "request", "results", "item", "result"], 4, false, b168, []⟩
abbrev H168 (rows : Rows) : Prop := Has rows 168 7 4 false b168
def b169 : RB :=
    (.cons (.ret (.sub (.call 168 (.cons (.var 0) (.cons (.sub (.var 1) (.cst (.int 2))) (.cons (.sub (.var 1) (.cst (.int 1))) (.cons (.var 2) .nil))))) (.cst (.int 0))))
    .nil)
def r169 : Row := ⟨"outcome", ["fields", "policy", "request"], 3, false, b169, []⟩
abbrev H169 (rows : Rows) : Prop := Has rows 169 3 3 false b169
def b170 : RB :=
    (.cons (.ite (.un .Not (.call 103 (.cons (.var 0) (.cons (.ifx (.cmp .Eq (.sub (.var 1) (.cst (.int 0))) (.cst (.str [114, 117, 108, 101]))) (.sub (.var 1) (.cst (.int 3))) (.sub (.var 1) (.cst (.int 2)))) (.cons (.var 2) .nil))))) (.cons (.ret (.lst (.cons (.cst (.str [110, 111, 110, 101])) (.cons (.tup .nil) (.cons (.tup .nil) .nil)))))
    .nil) .nil)
    (.cons (.ite (.cmp .Eq (.sub (.var 1) (.cst (.int 0))) (.cst (.str [114, 117, 108, 101]))) (.cons (.ret (.lst (.cons (.sub (.var 1) (.cst (.int 2))) (.cons (.sub (.var 1) (.cst (.int 4))) (.cons (.tup (.cons (.sub (.var 1) (.cst (.int 1))) .nil)) .nil)))))
    .nil) .nil)
    (.cons (.ret (.call 171 (.cons (.var 0) (.cons (.sub (.var 1) (.cst (.int 3))) (.cons (.sub (.var 1) (.cst (.int 4))) (.cons (.var 2) .nil))))))
    .nil)))
def r170 : Row := ⟨"_law_result", ["_law_fields", "_law_item", "_law_request_here"], 3, false, b170, []⟩
abbrev H170 (rows : Rows) : Prop := Has rows 170 3 3 false b170
def b171 : RB :=
    (.cons (.set 4 (.lc (.call 170 (.cons (.var 0) (.cons (.var 11) (.cons (.var 3) .nil)))) (.name 11) [11] (.seq (.var 2)) .no))
    (.cons (.set 4 (.lc (.var 7) (.name 7) [7] (.seq (.var 4)) (.yes (.cmp .NotEq (.sub (.var 7) (.cst (.int 0))) (.cst (.str [110, 111, 110, 101]))))))
    (.cons (.ite (.cmp .Eq (.var 4) (.lst .nil)) (.cons (.ret (.lst (.cons (.cst (.str [110, 111, 110, 101])) (.cons (.tup .nil) (.cons (.tup .nil) .nil)))))
    .nil) .nil)
    (.cons (.ite (.or (.cmp .Eq (.var 1) (.cst (.str [102, 105, 114, 115, 116]))) (.and (.cmp .Eq (.var 1) (.cst (.str [111, 110, 101]))) (.cmp .Eq (.bi .len (.cons (.var 4) .nil)) (.cst (.int 1))))) (.cons (.ret (.sub (.var 4) (.cst (.int 0))))
    .nil) .nil)
    (.cons (.set 5 (.lc (.sub (.var 7) (.cst (.int 0))) (.name 7) [7] (.seq (.var 4)) .no))
    (.cons (.set 6 (.cst (.str [99, 108, 97, 115, 104])))
    (.cons (.ite (.cmp .NotEq (.var 1) (.cst (.str [111, 110, 101]))) (.cons (.set 8 (.lst (.cons (.var 1) (.cons (.cst (.str [99, 108, 97, 115, 104])) (.cons (.ifx (.cmp .Eq (.var 1) (.cst (.str [100, 101, 110, 121]))) (.cst (.str [97, 108, 108, 111, 119])) (.cst (.str [100, 101, 110, 121]))) .nil)))))
    (.cons (.set 6 (.sub (.lc (.var 12) (.name 12) [12] (.seq (.var 8)) (.yes (.cmp .In (.var 12) (.var 5)))) (.cst (.int 0))))
    (.cons (.set 4 (.lc (.var 7) (.name 7) [7] (.seq (.var 4)) (.yes (.cmp .Eq (.sub (.var 7) (.cst (.int 0))) (.var 6)))))
    .nil))) .nil)
    (.cons (.par 9 10 (.new .nil) (.new .nil))
    (.cons (.for (.name 7) (.seq (.var 4)) (.cons (.exp (.mth .extend (.var 9) (.cons (.sub (.var 7) (.cst (.int 1))) .nil)))
    (.cons (.exp (.mth .extend (.var 10) (.cons (.sub (.var 7) (.cst (.int 2))) .nil)))
    .nil)))
    (.cons (.ret (.lst (.cons (.var 6) (.cons (.ifx (.cmp .Eq (.var 6) (.cst (.str [99, 108, 97, 115, 104]))) (.tup .nil) (.bi .tuple (.cons (.srt (.var 9)) .nil))) (.cons (.bi .tuple (.cons (.var 10) .nil)) .nil)))))
    .nil))))))))))
def r171 : Row := ⟨"_law_results", ["_law_fields", "_law_way", "_law_items_here", "_law_request_here", "_law_some", "_law_told", "_law_decision", "_law_result_here", "_law_ranks", "_law_duties_here", "_law_names_here", "_law_item", "_law_word_here"], 4, false, b171, []⟩
abbrev H171 (rows : Rows) : Prop := Has rows 171 13 4 false b171
def b172 : RB :=
    (.cons (.ret (.bi .tuple (.cons (.slc (.call 171 (.cons (.var 0) (.cons (.sub (.var 1) (.cst (.int 1))) (.cons (.sub (.var 1) (.cst (.int 2))) (.cons (.var 2) .nil))))) .no (.yes (.cst (.int 2)))) .nil)))
    .nil)
def r172 : Row := ⟨"_law_outcome", ["_law_fields", "_law_policy", "_law_request_here"], 3, false, b172, []⟩
abbrev H172 (rows : Rows) : Prop := Has rows 172 3 3 false b172
def b176 : RB :=
    (.cons (.ret (.sub (.call 168 (.cons (.var 0) (.cons (.sub (.var 1) (.cst (.int 2))) (.cons (.sub (.var 1) (.cst (.int 1))) (.cons (.var 2) .nil))))) (.cst (.int 1))))
    .nil)
def r176 : Row := ⟨"told_by", ["fields", "policy", "request"], 3, false, b176, []⟩
abbrev H176 (rows : Rows) : Prop := Has rows 176 3 3 false b176
def b178 : RB :=
    (.cons (.ret (.mth .get (.dlit [([97, 108, 108, 111, 119], (.str [100, 101, 110, 121])), ([100, 101, 110, 121], (.str [97, 108, 108, 111, 119]))]) (.cons (.var 0) (.cons (.var 0) .nil))))
    .nil)
def r178 : Row := ⟨"_law_swapped", ["_law_word_here"], 1, false, b178, []⟩
abbrev H178 (rows : Rows) : Prop := Has rows 178 1 1 false b178
def b179 : RB :=
    (.cons (.set 1 (.new .nil))
    (.cons (.for (.name 2) (.seq (.var 0)) (.cons (.ite (.cmp .Eq (.sub (.var 2) (.cst (.int 0))) (.cst (.str [114, 117, 108, 101]))) (.cons (.exp (.mth .append (.var 1) (.cons (.bin .Add (.bin .Add (.slc (.var 2) .no (.yes (.cst (.int 2)))) (.tup (.cons (.call 178 (.cons (.sub (.var 2) (.cst (.int 2))) .nil)) .nil))) (.slc (.var 2) (.yes (.cst (.int 3))) .no)) .nil)))
    .nil) (.cons (.exp (.mth .append (.var 1) (.cons (.bin .Add (.slc (.var 2) .no (.yes (.cst (.int 3)))) (.tup (.cons (.call 178 (.cons (.sub (.var 2) (.cst (.int 3))) .nil)) (.cons (.call 179 (.cons (.sub (.var 2) (.cst (.int 4))) .nil)) .nil)))) .nil)))
    .nil))
    .nil))
    (.cons (.ret (.bi .tuple (.cons (.var 1) .nil)))
    .nil)))
def r179 : Row := ⟨"_law_mirrored", ["_law_items_here", "_law_found", "_law_item"], 1, false, b179, []⟩
abbrev H179 (rows : Rows) : Prop := Has rows 179 3 1 false b179
def b180 : RB :=
    (.cons (.set 1 (.new .nil))
    (.cons (.for (.name 2) (.seq (.var 0)) (.cons (.exp (.mth .extend (.var 1) (.cons (.ifx (.cmp .Eq (.sub (.var 2) (.cst (.int 0))) (.cst (.str [114, 117, 108, 101]))) (.lst (.cons (.var 2) .nil)) (.call 180 (.cons (.sub (.var 2) (.cst (.int 4))) .nil))) .nil)))
    .nil))
    (.cons (.ret (.var 1))
    .nil)))
def r180 : Row := ⟨"_law_rules_of", ["_law_items_here", "_law_found", "_law_item"], 1, false, b180, []⟩
abbrev H180 (rows : Rows) : Prop := Has rows 180 3 1 false b180
def b181 : RB :=
    (.cons (.unp (.pair (.name 7) (.name 8)) (.call 169 (.cons (.var 0) (.cons (.var 1) (.cons (.var 2) .nil)))))
    (.cons (.set 3 (.call 176 (.cons (.var 0) (.cons (.var 1) (.cons (.var 2) .nil)))))
    (.cons (.set 4 (.lc (.var 6) (.name 6) [6] (.seq (.call 180 (.cons (.sub (.var 1) (.cst (.int 2))) .nil))) (.yes (.cmp .In (.sub (.var 6) (.cst (.int 1))) (.var 3)))))
    (.cons (.ite (.or (.cmp .NotEq (.lc (.sub (.var 6) (.cst (.int 1))) (.name 6) [6] (.seq (.var 4)) .no) (.bi .list (.cons (.var 3) .nil))) (.cmp .NotEq (.cmp .Eq (.var 3) (.tup .nil)) (.cmp .Eq (.var 7) (.cst (.str [110, 111, 110, 101]))))) (.cons (.ret (.cst (.bl false)))
    .nil) .nil)
    (.cons (.ite (.cmp .NotEq (.lc (.var 6) (.name 6) [6] (.seq (.var 4)) (.yes (.un .Not (.call 103 (.cons (.var 0) (.cons (.sub (.var 6) (.cst (.int 3))) (.cons (.var 2) .nil))))))) (.lst .nil)) (.cons (.ret (.cst (.bl false)))
    .nil) .nil)
    (.cons (.ite (.cmp .NotIn (.var 7) (.tup (.cons (.cst (.str [97, 108, 108, 111, 119])) (.cons (.cst (.str [100, 101, 110, 121])) .nil)))) (.cons (.ret (.cmp .Eq (.var 8) (.tup .nil)))
    .nil) .nil)
    (.cons (.set 5 (.new .nil))
    (.cons (.for (.name 6) (.seq (.var 4)) (.cons (.exp (.mth .extend (.var 5) (.cons (.sub (.var 6) (.cst (.int 4))) .nil)))
    .nil))
    (.cons (.ret (.and (.cmp .Eq (.lc (.var 6) (.name 6) [6] (.seq (.var 4)) (.yes (.cmp .NotEq (.sub (.var 6) (.cst (.int 2))) (.var 7)))) (.lst .nil)) (.cmp .Eq (.var 8) (.bi .tuple (.cons (.srt (.var 5)) .nil)))))
    .nil)))))))))
def r181 : Row := ⟨"_law_given", ["_law_fields", "_law_policy", "_law_request_here", "_law_names_here", "_law_rules_here", "_law_told", "_law_rule", "_law_decision", "_law_duties_here"], 3, false, b181, []⟩
abbrev H181 (rows : Rows) : Prop := Has rows 181 9 3 false b181
def b182 : RB :=
    (.cons (.par 10 11 (.sub (.var 2) (.cst (.int 1))) (.sub (.var 2) (.cst (.int 2))))
    (.cons (.par 12 13 (.call 169 (.cons (.var 1) (.cons (.var 2) (.cons (.var 3) .nil)))) (.call 176 (.cons (.var 1) (.cons (.var 2) (.cons (.var 3) .nil)))))
    (.cons (.set 4 (.tup (.cons (.cst (.str [114, 117, 108, 101])) (.cons (.cst (.str [110, 101, 118, 101, 114])) (.cons (.cst (.str [100, 101, 110, 121])) (.cons (.tup (.cons (.cst (.str [110, 111, 116])) (.cons (.tup (.cons (.cst (.str [97, 110, 121])) .nil)) .nil))) (.cons (.tup (.cons (.cst (.str [122, 122])) .nil)) .nil)))))))
    (.cons (.set 5 (.call 6 (.cons (.var 0) (.cons (.bin .Add (.bi .len (.cons (.var 11) .nil)) (.cst (.int 1))) .nil))))
    (.cons (.set 6 (.tup (.cons (.cst (.str [112, 111, 108, 105, 99, 121])) (.cons (.var 10) (.cons (.bin .Add (.bin .Add (.slc (.var 11) .no (.yes (.var 5))) (.tup (.cons (.var 4) .nil))) (.slc (.var 11) (.yes (.var 5)) .no)) .nil)))))
    (.cons (.ite (.or (.cmp .NotEq (.call 169 (.cons (.var 1) (.cons (.var 6) (.cons (.var 3) .nil)))) (.var 12)) (.cmp .NotEq (.call 176 (.cons (.var 1) (.cons (.var 6) (.cons (.var 3) .nil)))) (.var 13))) (.cons (.ret (.cst (.bl false)))
    .nil) .nil)
    (.cons (.for (.name 7) (.seq (.tup (.cons (.cst (.str [102, 105, 114, 115, 116])) (.cons (.cst (.str [100, 101, 110, 121])) (.cons (.cst (.str [97, 108, 108, 111, 119])) (.cons (.cst (.str [111, 110, 101])) .nil)))))) (.cons (.set 14 (.tup (.cons (.cst (.str [112, 111, 108, 105, 99, 121])) (.cons (.var 7) (.cons (.tup (.cons (.var 4) (.cons (.tup (.cons (.cst (.str [98, 111, 111, 107])) (.cons (.cst (.str [111, 117, 116, 101, 114])) (.cons (.tup (.cons (.cst (.str [97, 110, 121])) .nil)) (.cons (.var 10) (.cons (.var 11) .nil)))))) .nil))) .nil)))))
    (.cons (.ite (.or (.cmp .NotEq (.call 169 (.cons (.var 1) (.cons (.var 14) (.cons (.var 3) .nil)))) (.var 12)) (.cmp .NotEq (.call 176 (.cons (.var 1) (.cons (.var 14) (.cons (.var 3) .nil)))) (.var 13))) (.cons (.ret (.cst (.bl false)))
    .nil) .nil)
    .nil)))
    (.cons (.set 8 (.tup (.cons (.cst (.str [112, 111, 108, 105, 99, 121])) (.cons (.call 178 (.cons (.var 10) .nil)) (.cons (.call 179 (.cons (.var 11) .nil)) .nil)))))
    (.cons (.ite (.cmp .NotEq (.call 169 (.cons (.var 1) (.cons (.var 8) (.cons (.var 3) .nil)))) (.tup (.cons (.call 178 (.cons (.sub (.var 12) (.cst (.int 0))) .nil)) (.cons (.sub (.var 12) (.cst (.int 1))) .nil)))) (.cons (.ret (.cst (.bl false)))
    .nil) .nil)
    (.cons (.ite (.cmp .NotEq (.call 176 (.cons (.var 1) (.cons (.var 8) (.cons (.var 3) .nil)))) (.var 13)) (.cons (.ret (.cst (.bl false)))
    .nil) .nil)
    (.cons (.ite (.cmp .NotEq (.var 10) (.cst (.str [102, 105, 114, 115, 116]))) (.cons (.set 15 (.tup (.cons (.cst (.str [112, 111, 108, 105, 99, 121])) (.cons (.var 10) (.cons (.rev (.var 11)) .nil)))))
    (.cons (.set 16 (.call 176 (.cons (.var 1) (.cons (.var 15) (.cons (.var 3) .nil)))))
    (.cons (.ite (.or (.cmp .NotEq (.call 169 (.cons (.var 1) (.cons (.var 15) (.cons (.var 3) .nil)))) (.var 12)) (.cmp .NotEq (.bi .len (.cons (.var 16) .nil)) (.bi .len (.cons (.var 13) .nil)))) (.cons (.ret (.cst (.bl false)))
    .nil) .nil)
    (.cons (.ret (.cmp .Eq (.lc (.var 19) (.name 19) [19] (.seq (.var 13)) (.yes (.cmp .NotIn (.var 19) (.var 16)))) (.lst .nil)))
    .nil)))) .nil)
    (.cons (.set 9 (.lc (.call 169 (.cons (.var 1) (.cons (.tup (.cons (.cst (.str [112, 111, 108, 105, 99, 121])) (.cons (.cst (.str [111, 110, 101])) (.cons (.tup (.cons (.var 17) .nil)) .nil)))) (.cons (.var 3) .nil)))) (.name 17) [17] (.seq (.var 11)) .no))
    (.cons (.set 9 (.lc (.var 18) (.name 18) [18] (.seq (.var 9)) (.yes (.cmp .NotEq (.sub (.var 18) (.cst (.int 0))) (.cst (.str [110, 111, 110, 101]))))))
    (.cons (.ret (.cmp .Eq (.var 12) (.sub (.bin .Add (.var 9) (.lst (.cons (.tup (.cons (.cst (.str [110, 111, 110, 101])) (.cons (.tup .nil) .nil))) .nil))) (.cst (.int 0)))))
    .nil))))))))))))))
def r182 : Row := ⟨"_law_kept", ["_law_spring_here", "_law_fields", "_law_policy", "_law_request_here", "_law_never", "_law_spot", "_law_more", "_law_other", "_law_mirror", "_law_some", "_law_way", "_law_items_here", "_law_due", "_law_names_here", "_law_outer", "_law_back", "_law_told", "_law_item", "_law_one", "_law_name"], 4, false, b182, []⟩
abbrev H182 (rows : Rows) : Prop := Has rows 182 20 4 false b182
def b183 : RB :=
    (.cons (.set 1 (.call 5 (.cons (.var 0) .nil)))
    (.cons (.for (.name 2) (.rng (.cst (.int 12))) (.cons (.set 3 (.call 24 (.cons (.var 1) (.cons (.cst (.int 4)) (.cons (.cst (.int 40)) .nil)))))
    (.cons (.set 4 (.new (.cons (.cst (.str [97])) (.cons (.cst (.str [98])) (.cons (.cst (.str [98, 105, 103])) (.cons (.cst (.str [107, 101, 121])) (.cons (.cst (.str [108, 111, 103])) (.cons (.cst (.str [110, 105, 103, 104, 116])) (.cons (.cst (.str [115, 116, 97, 102, 102])) (.cons (.cst (.str [119, 104, 111])) .nil))))))))))
    (.cons (.set 5 (.call 131 (.cons (.var 1) (.cons (.var 3) (.cons (.var 4) (.cons (.bin .Add (.cst (.int 1)) (.call 6 (.cons (.var 1) (.cons (.cst (.int 6)) .nil)))) (.cons (.cst (.int 2)) .nil)))))))
    (.cons (.set 6 (.tup (.cons (.cst (.str [112, 111, 108, 105, 99, 121])) (.cons (.call 7 (.cons (.var 1) (.cons (.lst (.cons (.cst (.str [102, 105, 114, 115, 116])) (.cons (.cst (.str [100, 101, 110, 121])) (.cons (.cst (.str [97, 108, 108, 111, 119])) (.cons (.cst (.str [111, 110, 101])) .nil))))) .nil))) (.cons (.var 5) .nil)))))
    (.cons (.for (.name 7) (.rng (.cst (.int 4))) (.cons (.set 8 (.call 25 (.cons (.var 1) (.cons (.var 3) .nil))))
    (.cons (.ite (.or (.un .Not (.call 181 (.cons (.sub (.var 3) (.cst (.int 0))) (.cons (.var 6) (.cons (.var 8) .nil))))) (.un .Not (.call 182 (.cons (.var 1) (.cons (.sub (.var 3) (.cst (.int 0))) (.cons (.var 6) (.cons (.var 8) .nil))))))) (.cons (.ret (.cst (.bl false)))
    .nil) .nil)
    .nil)))
    .nil))))))
    (.cons (.ret (.cst (.bl true)))
    .nil)))
def r183 : Row := ⟨"law", ["_law_script", "_law_spring_here", "_law_turn", "_law_house_here", "_law_names_here", "_law_items_here", "_law_policy", "_law_k", "_law_request_here"], 1, false, b183, []⟩
abbrev H183 (rows : Rows) : Prop := Has rows 183 9 1 false b183
def b375 : RB :=
    (.cons (.ite (.and (.isi (.var 1) .tuple) (.and (.isi (.var 0) .tuple) (.cmp .Eq (.bi .len (.cons (.var 0) .nil)) (.bi .len (.cons (.var 1) .nil))))) (.cons (.ret (.cmp .NotIn (.cst (.bl false)) (.lc (.call 375 (.cons (.sub (.var 0) (.var 2)) (.cons (.sub (.var 1) (.var 2)) .nil))) (.name 2) [2] (.rng (.bi .len (.cons (.var 1) .nil))) .no)))
    .nil) .nil)
    (.cons (.ite (.or (.isi2 (.var 1) .bool .tuple) (.isi2 (.var 0) .bool .tuple)) (.cons (.ret (.and (.isi (.var 1) .bool) (.and (.isi (.var 0) .bool) (.cmp .Eq (.var 0) (.var 1)))))
    .nil) .nil)
    (.cons (.ret (.or (.and (.cmp .Is (.var 0) (.cst .non)) (.cmp .Is (.var 1) (.cst .non))) (.and (.isi2 (.var 0) .int .str) (.cmp .Eq (.var 0) (.var 1)))))
    .nil)))
def r375 : Row := ⟨"_law_alike", ["_law_found", "_law_due", "_law_k"], 2, false, b375, []⟩
abbrev H375 (rows : Rows) : Prop := Has rows 375 3 2 false b375
def b710 : RB :=
    (.cons (.ite (.isi (.var 0) .bool) (.cons (.ret (.ifx (.var 0) (.cst (.str [121, 101, 115])) (.cst (.str [110, 111]))))
    .nil) .nil)
    (.cons (.ret (.ifx (.isi (.var 0) .str) (.var 0) (.bi .str (.cons (.var 0) .nil))))
    .nil))
def r710 : Row := ⟨"value_text", ["value"], 1, false, b710, []⟩
abbrev H710 (rows : Rows) : Prop := Has rows 710 1 1 false b710
def b711 : RB :=
    (.cons (.set 2 (.sub (.var 1) (.cst (.int 0))))
    (.cons (.ite (.cmp .Eq (.var 2) (.cst (.str [97, 110, 121]))) (.cons (.ret (.cst (.str [97, 110, 121])))
    .nil) .nil)
    (.cons (.ite (.cmp .In (.var 2) (.glo "JOINS" (.tup [(.str [110, 111, 116]), (.str [97, 110, 100]), (.str [111, 114])]))) (.cons (.ret (.bin .Add (.bin .Add (.bin .Add (.var 2) (.cst (.str [40]))) (.mth .join (.cst (.str [32])) (.cons (.lc (.call 711 (.cons (.var 0) (.cons (.var 3) .nil))) (.name 3) [3] (.seq (.slc (.var 1) (.yes (.cst (.int 1))) .no)) .no) .nil))) (.cst (.str [41]))))
    .nil) .nil)
    (.cons (.ite (.cmp .Eq (.var 2) (.cst (.str [105, 115]))) (.cons (.ret (.bin .Add (.bin .Add (.sub (.var 1) (.cst (.int 1))) (.cst (.str [61]))) (.call 710 (.cons (.sub (.var 1) (.cst (.int 2))) .nil))))
    .nil) .nil)
    (.cons (.ret (.ifx (.cmp .Eq (.var 2) (.cst (.str [98, 101, 108, 111, 119]))) (.bin .Add (.bin .Add (.sub (.var 1) (.cst (.int 1))) (.cst (.str [60]))) (.bi .str (.cons (.sub (.var 1) (.cst (.int 2))) .nil))) (.bin .Add (.bin .Add (.sub (.var 1) (.cst (.int 1))) (.cst (.str [58]))) (.mth .join (.cst (.str [46])) (.cons (.sub (.var 1) (.cst (.int 2))) .nil)))))
    .nil)))))
def r711 : Row := ⟨"test_text", ["fields", "test", "head", "item"], 2, false, b711, []⟩
abbrev H711 (rows : Rows) : Prop := Has rows 711 4 2 false b711
def b712 : RB :=
    (.cons (.ite (.or (.cmp .Is (.var 0) (.cst .non)) (.isi (.var 0) .bool)) (.cons (.ret (.ifx (.cmp .Is (.var 0) (.cst .non)) (.cst (.str [63])) (.sub (.lst (.cons (.cst (.str [110, 111])) (.cons (.cst (.str [121, 101, 115])) .nil))) (.bi .int (.cons (.var 0) .nil)))))
    .nil) .nil)
    (.cons (.ret (.ifx (.isi (.var 0) .str) (.var 0) (.bi .str (.cons (.var 0) .nil))))
    .nil))
def r712 : Row := ⟨"_law_value_text", ["_law_value"], 1, false, b712, []⟩
abbrev H712 (rows : Rows) : Prop := Has rows 712 1 1 false b712
def b713 : RB :=
    (.cons (.ite (.cmp .Eq (.sub (.var 0) (.cst (.int 0))) (.cst (.str [97, 110, 121]))) (.cons (.ret (.cst (.str [97, 110, 121])))
    .nil) .nil)
    (.cons (.ite (.cmp .Eq (.sub (.var 0) (.cst (.int 0))) (.cst (.str [105, 115]))) (.cons (.ret (.bin .Add (.bin .Add (.sub (.var 0) (.cst (.int 1))) (.cst (.str [61]))) (.call 712 (.cons (.sub (.var 0) (.cst (.int 2))) .nil))))
    .nil) .nil)
    (.cons (.ite (.cmp .Eq (.sub (.var 0) (.cst (.int 0))) (.cst (.str [98, 101, 108, 111, 119]))) (.cons (.ret (.bin .Add (.bin .Add (.sub (.var 0) (.cst (.int 1))) (.cst (.str [60]))) (.bi .str (.cons (.sub (.var 0) (.cst (.int 2))) .nil))))
    .nil) .nil)
    (.cons (.ite (.cmp .Eq (.sub (.var 0) (.cst (.int 0))) (.cst (.str [97, 109, 111, 110, 103]))) (.cons (.ret (.bin .Add (.bin .Add (.sub (.var 0) (.cst (.int 1))) (.cst (.str [58]))) (.mth .join (.cst (.str [46])) (.cons (.sub (.var 0) (.cst (.int 2))) .nil))))
    .nil) .nil)
    (.cons (.ret (.bin .Add (.bin .Add (.bin .Add (.sub (.var 0) (.cst (.int 0))) (.cst (.str [40]))) (.mth .join (.cst (.str [32])) (.cons (.lc (.call 713 (.cons (.var 1) .nil)) (.name 1) [1] (.seq (.slc (.var 0) (.yes (.cst (.int 1))) .no)) .no) .nil))) (.cst (.str [41]))))
    .nil)))))
def r713 : Row := ⟨"_law_test_text", ["_law_test_here", "_law_one"], 1, false, b713, []⟩
abbrev H713 (rows : Rows) : Prop := Has rows 713 2 1 false b713
def b714 : RB :=
    (.cons (.ite (.cmp .In (.sub (.var 0) (.cst (.int 0))) (.tup (.cons (.cst (.str [110, 111, 116])) (.cons (.cst (.str [97, 110, 100])) (.cons (.cst (.str [111, 114])) .nil))))) (.cons (.ret (.bin .Add (.cst (.int 1)) (.bi .sum (.cons (.lc (.call 714 (.cons (.var 1) .nil)) (.name 1) [1] (.seq (.slc (.var 0) (.yes (.cst (.int 1))) .no)) .no) .nil))))
    .nil) .nil)
    (.cons (.ret (.cst (.int 1)))
    .nil))
def r714 : Row := ⟨"_law_count", ["_law_test_here", "_law_one"], 1, false, b714, []⟩
abbrev H714 (rows : Rows) : Prop := Has rows 714 2 1 false b714
def b716 : RB :=
    (.cons (.ret (.ifx (.cmp .Eq (.var 0) (.tup .nil)) (.glo "NOTHING" (.str [45])) (.mth .join (.cst (.str [46])) (.cons (.var 0) .nil))))
    .nil)
def r716 : Row := ⟨"duties_text", ["duties"], 1, false, b716, []⟩
abbrev H716 (rows : Rows) : Prop := Has rows 716 1 1 false b716
def b717 : RB :=
    (.cons (.ret (.mth .join (.cst (.str [32])) (.cons (.lst (.cons (.sub (.var 1) (.cst (.int 1))) (.cons (.sub (.var 1) (.cst (.int 2))) (.cons (.call 711 (.cons (.var 0) (.cons (.sub (.var 1) (.cst (.int 3))) .nil))) (.cons (.call 716 (.cons (.sub (.var 1) (.cst (.int 4))) .nil)) .nil))))) .nil)))
    .nil)
def r717 : Row := ⟨"rule_text", ["fields", "rule"], 2, false, b717, []⟩
abbrev H717 (rows : Rows) : Prop := Has rows 717 2 2 false b717
def b718 : RB :=
    (.cons (.ret (.mth .join (.cst (.str [32])) (.cons (.lc (.ifx (.cmp .Is (.var 2) (.cst .non)) (.glo "UNKNOWN" (.str [63])) (.call 710 (.cons (.var 2) .nil))) (.name 2) [2] (.seq (.var 1)) .no) .nil)))
    .nil)
def r718 : Row := ⟨"request_text", ["fields", "partial", "value"], 2, false, b718, []⟩
abbrev H718 (rows : Rows) : Prop := Has rows 718 3 2 false b718
def b719 : RB :=
    (.cons (.ret (.ifx (.cmp .In (.sub (.var 0) (.cst (.int 0))) (.tup (.cons (.cst (.str [110, 111, 110, 101])) (.cons (.cst (.str [99, 108, 97, 115, 104])) .nil)))) (.sub (.var 0) (.cst (.int 0))) (.bin .Add (.bin .Add (.sub (.var 0) (.cst (.int 0))) (.cst (.str [32]))) (.call 716 (.cons (.sub (.var 0) (.cst (.int 1))) .nil)))))
    .nil)
def r719 : Row := ⟨"outcome_text", ["outcome"], 1, false, b719, []⟩
abbrev H719 (rows : Rows) : Prop := Has rows 719 1 1 false b719
def b720 : RB :=
    (.cons (.ret (.ifx (.cmp .NotEq (.var 0) (.tup .nil)) (.mth .join (.cst (.str [46])) (.cons (.var 0) .nil)) (.cst (.str [45]))))
    .nil)
def r720 : Row := ⟨"_law_duties_text", ["_law_duties_here"], 1, false, b720, []⟩
abbrev H720 (rows : Rows) : Prop := Has rows 720 1 1 false b720
def b721 : RB :=
    (.cons (.ite (.cmp .In (.sub (.var 0) (.cst (.int 0))) (.tup (.cons (.cst (.str [110, 111, 110, 101])) (.cons (.cst (.str [99, 108, 97, 115, 104])) .nil)))) (.cons (.ret (.sub (.var 0) (.cst (.int 0))))
    .nil) .nil)
    (.cons (.ret (.bin .Add (.bin .Add (.sub (.var 0) (.cst (.int 0))) (.cst (.str [32]))) (.call 720 (.cons (.sub (.var 0) (.cst (.int 1))) .nil))))
    .nil))
def r721 : Row := ⟨"_law_outcome_text", ["_law_outcome_told"], 1, false, b721, []⟩
abbrev H721 (rows : Rows) : Prop := Has rows 721 1 1 false b721
def b723 : RB :=
    (.cons (.ret (.mth .join (.cst (.str [32])) (.cons (.lc (.call 712 (.cons (.var 1) .nil)) (.name 1) [1] (.seq (.var 0)) .no) .nil)))
    .nil)
def r723 : Row := ⟨"_law_request_text", ["_law_partial_here", "_law_value"], 1, false, b723, []⟩
abbrev H723 (rows : Rows) : Prop := Has rows 723 2 1 false b723
def b724 : RB :=
    (.cons (.set 2 (.call 6 (.cons (.var 0) (.cons (.bin .Pow (.cst (.int 10)) (.cst (.int 18))) .nil))))
    (.cons (.for (.name 3) (.rng (.call 6 (.cons (.var 0) (.cons (.bin .Add (.var 1) (.cst (.int 1))) .nil)))) (.cons (.set 2 (.bin .Add (.bin .Mult (.var 2) (.bin .Pow (.cst (.int 10)) (.cst (.int 60)))) (.call 6 (.cons (.var 0) (.cons (.bin .Pow (.cst (.int 10)) (.cst (.int 18))) .nil)))))
    .nil))
    (.cons (.ret (.var 2))
    .nil)))
def r724 : Row := ⟨"_law_long", ["_law_spring_here", "_law_most", "_law_number", "_law_k"], 2, false, b724, []⟩
abbrev H724 (rows : Rows) : Prop := Has rows 724 4 2 false b724
def b725 : RB :=
    (.cons (.set 3 (.new .nil))
    (.cons (.for (.name 4) (.rng (.bi .len (.cons (.var 1) .nil))) (.cons (.set 5 (.sub (.var 2) (.var 4)))
    (.cons (.ite (.and (.cmp .Eq (.sub (.sub (.var 1) (.var 4)) (.cst (.int 1))) (.cst (.str [110, 117, 109, 98, 101, 114]))) (.and (.cmp .IsNot (.var 5) (.cst .non)) (.cmp .Eq (.call 6 (.cons (.var 0) (.cons (.cst (.int 2)) .nil))) (.cst (.int 0))))) (.cons (.set 5 (.call 724 (.cons (.var 0) (.cons (.cst (.int 16)) .nil))))
    .nil) .nil)
    (.cons (.exp (.mth .append (.var 3) (.cons (.var 5) .nil)))
    .nil))))
    (.cons (.ret (.bi .tuple (.cons (.var 3) .nil)))
    .nil)))
def r725 : Row := ⟨"_law_lengthened", ["_law_spring_here", "_law_fields", "_law_partial_here", "_law_found", "_law_k", "_law_value"], 3, false, b725, []⟩
abbrev H725 (rows : Rows) : Prop := Has rows 725 6 3 false b725
def b726 : RB :=
    (.cons (.set 1 (.new .nil))
    (.cons (.for (.name 2) (.rng (.call 6 (.cons (.var 0) (.cons (.cst (.int 9)) .nil)))) (.cons (.exp (.mth .append (.var 1) (.cons (.call 8 (.cons (.var 0) (.cons (.cst (.int 8)) .nil))) .nil)))
    .nil))
    (.cons (.ret (.bi .tuple (.cons (.srt (.var 1)) .nil)))
    .nil)))
def r726 : Row := ⟨"_law_many_duties", ["_law_spring_here", "_law_found", "_law_k"], 1, false, b726, []⟩
abbrev H726 (rows : Rows) : Prop := Has rows 726 3 1 false b726
end MP.TX

/-! PL, part b: the draws themselves. -/
namespace MP.PL
open PySem L2
theorem endQ_rt {k : Nat} {Q : PV → Sto → Prop} {v : PV} {st : Sto} (hv : lb k v = true) (hs : StB k (st.take k)) (h : Q v (st.take k)) : endQ false k Q NoX (.rt v) st := by
  show (dropRes k (.ok v st)).wp Q NoX
  rw [dropRes_ok hv hs, s_ok]
  exact h
/-- at a draw's end -/
theorem endQ_draw {P : PV → Prop} {v : PV} {o : PO} {rest more : Sto} (hv : lb (rest.length + 1) v = true) (ho : SpO o) (hr : StB (rest.length + 1) rest) (h : P v) :
    endQ false (rest.length + 1) (fun v st => P v ∧ ∃ o', SpO o' ∧ st = o' :: rest) NoX (.rt v) (o :: (rest ++ more)) := by
  have e : (o :: (rest ++ more)).take (rest.length + 1) = o :: rest := by simp
  refine endQ_rt hv ?_ ?_
  · rw [e]; exact StB.cons (ho.olb _) hr
  · rw [e]; exact ⟨h, o, ho, rfl⟩
theorem dip_ok {T : Tab} {fu : Nat} {n : Int} (h1 : 0 < n) (h2 : n < 2305843009213693952) : Draws (run T fu 4 2 false TX.b6) [.int n] (fun v => ∃ r, v = .int r ∧ 0 ≤ r ∧ r < n) := by
  intro o rest ho hr
  obtain ⟨g, m, c, rfl, hg, hm, hm2, hc⟩ := ho
  unfold P61 at hm2
  refine run_sat rfl fun Z hZ => ?_
  simp [TX.b6]
  split
  · rename_i h
    simp [bin_mod, bin_div, h1, h2]
    have := endQ_draw (more := []) (P := fun v => ∃ r, v = .int r ∧ 0 ≤ r ∧ r < n) (v := .int (g % n)) (o := .lst [.int (g / n), .int m, .int c]) rfl ⟨_, _, _, rfl, Int.ediv_nonneg hg (by omega), hm, hm2, hc⟩ hr ⟨_, rfl, Int.emod_nonneg _ (by omega), Int.emod_lt_of_pos _ h1⟩
    exact hZ _ _ (by simpa using this)
  · have e0 : 0 ≤ (m * 2862933555777941757 + (3202034522624059733 * (c + 1) + 29)) % 2305843009213693951 := Int.emod_nonneg _ (by omega)
    have e1 : (m * 2862933555777941757 + (3202034522624059733 * (c + 1) + 29)) % 2305843009213693951 < 2305843009213693951 := Int.emod_lt_of_pos _ (by omega)
    generalize hM : (m * 2862933555777941757 + (3202034522624059733 * (c + 1) + 29)) % 2305843009213693951 = M at e0 e1
    simp [bin_mod, bin_div, h1, h2, bin_mul, hM, show (-18446744073709551616 < M ∧ M < 18446744073709551616) by omega]
    have := endQ_draw (more := []) (P := fun v => ∃ r, v = .int r ∧ 0 ≤ r ∧ r < n) (v := .int (M * M % 2305843009213693951 / 131071 % n)) (o := .lst [.int g, .int M, .int (c + 1)]) rfl ⟨_, _, _, rfl, hg, e0, e1, by omega⟩ hr ⟨_, rfl, Int.emod_nonneg _ (by omega), Int.emod_lt_of_pos _ h1⟩
    exact hZ _ _ (by simpa using this)
end MP.PL

/-! PL, part c: the spring, picks, words. -/
namespace MP.PL
open PySem L2
theorem cutP_mem {A : Type} {xs : List A} {lo hi : Option Int} {x : A} (h : x ∈ cutP xs lo hi) : x ∈ xs := List.mem_of_mem_drop (List.mem_of_mem_take h)
theorem spring_ok {T : Tab} {fu : Nat} (zs : List Int) : (run T fu 5 1 true TX.b5 [.lst (zs.map .int)] []).wp (fun v st => v = .loc 0 ∧ ∃ o, SpO o ∧ st = [o]) NoX := by
  refine run_sat rfl fun Z hZ => ?_
  simp [TX.b5]
  refine forL_inv (fun s st => ∃ (x1 x4 : Option PV) (g m : Int), s = [some (.lst (zs.map .int)), x1, some (.int g), some (.int m), x4] ∧ 0 ≤ g ∧ 0 ≤ m ∧ m < P61 ∧ st = []) ⟨_, _, _, _, rfl, by omega, by omega, by decide, rfl⟩ ?_ ?_
  · rintro s st ⟨x1, x4, g, m, rfl, hg, hm, hm2, rfl⟩
    simp
    refine hZ _ _ ?_
    simp [endQ]
    exact ⟨g, m, 0, rfl, hg, hm, hm2, by omega⟩
  · rintro x hx s st ⟨x1, x4, g, m, rfl, hg, hm, hm2, rfl⟩ Y hY
    obtain ⟨z, _, rfl⟩ := List.mem_map.mp (cutP_mem hx)
    unfold P61 at hm2
    have hz : 0 ≤ (if z < 0 then -z else z) := by split <;> omega
    generalize (if z < 0 then -z else z) = a at hz
    simp [bin_mul, bin_mod]
    generalize e : (if z < 0 then -z else z) = a
    have ha : 0 ≤ a := by rw [← e]; split <;> omega
    have m0 : 0 ≤ (m * 6364136223846793005 + (2 * a + (if z < 0 then 1 else 0) + 1)) % 2305843009213693951 := Int.emod_nonneg _ (by omega)
    have m1 : (m * 6364136223846793005 + (2 * a + (if z < 0 then 1 else 0) + 1)) % 2305843009213693951 < 2305843009213693951 := Int.emod_lt_of_pos _ (by omega)
    split
    · simp; exact hY _ _ ⟨_, _, _, _, rfl, by omega, m0, m1, rfl⟩
    · simp; exact hY _ _ ⟨_, _, _, _, rfl, by omega, m0, m1, rfl⟩
section
variable {T : Tab} {fu : Nat}
/-- numbers below n are drawn -/
def DipOk (F : Fn) : Prop := ∀ n : Int, 0 < n → n < 2305843009213693952 → Draws F [.int n] (fun v => ∃ r : Int, v = .int r ∧ 0 ≤ r ∧ r < n)
theorem DipOk.at {F : Fn} (h : DipOk F) {n : Int} {o : PO} {rest : Sto} {Q : PV → Sto → Prop} (h1 : 0 < n) (h2 : n < 2305843009213693952) (ho : SpO o) (hr : StB (rest.length + 1) rest)
    (hQ : ∀ (r : Nat) o', (r : Int) < n → SpO o' → Q (.int r) (o' :: rest)) : (F [.loc 0, .int n] (o :: rest)).wp Q NoX := by
  refine wp_imp (h n h1 h2 o rest ho hr) fun v st ⟨⟨r, e, r0, r1⟩, o', ho', e2⟩ => ?_
  subst e e2
  have := hQ r.toNat o' (by omega) ho'
  rwa [Int.toNat_of_nonneg r0] at this
theorem Draws.at {F : Fn} {vs : List PV} {P : PV → Prop} (h : Draws F vs P) {o : PO} {rest : Sto} {Q : PV → Sto → Prop} (ho : SpO o) (hr : StB (rest.length + 1) rest)
    (hQ : ∀ v o', P v → SpO o' → Q v (o' :: rest)) : (F (.loc 0 :: vs) (o :: rest)).wp Q NoX :=
  wp_imp (h o rest ho hr) fun v st ⟨hv, o', ho', e⟩ => by subst e; exact hQ v o' hv ho'
theorem endQ_draw0 {P : PV → Prop} {v : PV} {o : PO} {rest : Sto} (hv : lb (rest.length + 1) v = true) (ho : SpO o) (hr : StB (rest.length + 1) rest) (h : P v) :
    endQ false (rest.length + 1) (fun v st => P v ∧ ∃ o', SpO o' ∧ st = o' :: rest) NoX (.rt v) (o :: rest) := by
  have := endQ_draw (more := []) hv ho hr h
  simpa using this
def PickOk (F : Fn) : Prop := ∀ xs : List PV, xs ≠ [] → xs.length < 1073741824 → lbs 0 xs = true → Draws F [.lst xs] (fun v => v ∈ xs) ∧ Draws F [.tup xs] (fun v => v ∈ xs)
theorem pick_ok (hd : DipOk (T 6)) : PickOk (run T fu 2 2 false TX.b7) := by
  intro xs h0 h1 hl
  have hp : 0 < xs.length := List.length_pos_iff.mpr h0
  refine ⟨fun o rest ho hr => run_sat rfl fun Z hZ => ?_, fun o rest ho hr => run_sat rfl fun Z hZ => ?_⟩
  all_goals
    simp [TX.b7]
    refine hd.at (by omega) (by omega) ho hr fun r o' hr' ho' => ?_
    have hlt : r < xs.length := by omega
    simp [atI_nat, List.getElem?_eq_getElem hlt]
    have m : xs[r] ∈ xs := List.getElem_mem hlt
    exact hZ _ _ <| endQ_draw0 (lb_mono (Nat.zero_le _) (lbs_all.mp hl _ m)) ho' hr m
/-- words -/
def low (c : Nat) : Bool := decide (97 ≤ c ∧ c ≤ 122)
def isW (s : List Nat) : Prop := s ≠ [] ∧ ∀ c ∈ s, low c = true
def letters : List Nat := [97, 98, 99, 100, 101, 102, 103, 104, 105, 106, 107, 108, 109, 110, 111, 112, 113, 114, 115, 116, 117, 118, 119, 120, 121, 122]
theorem letters_get {r : Nat} (h : r < 26) : letters[r]? = some (97 + r) := by
  have : ∀ r, r < 26 → letters[r]? = some (97 + r) := by decide
  exact this r h
def WordOk (F : Fn) : Prop := ∀ n : Nat, 0 < n → n < 1000000 → Draws F [.int n] (fun v => ∃ s, v = .str s ∧ isW s ∧ s.length ≤ n)
theorem word_ok (hd : DipOk (T 6)) : WordOk (run T fu 4 2 false TX.b8) := by
  intro n h0 h1 o rest ho hr
  refine run_sat rfl fun Z hZ => ?_
  simp [TX.b8]
  refine hd.at (by omega) (by omega) ho hr fun r o' hr' ho' => ?_
  simp [rngR_int (n := 1 + (r : Int)) (by omega) (by omega)]
  have e : (1 + (r : Int)).toNat = r + 1 := by omega
  rw [e]
  refine forL_sat (fun xs s st => ∃ (w : List Nat) (x : Option PV) (o : PO), s = [some (.loc 0), some (.int n), some (.str w), x] ∧ SpO o ∧ st = o :: rest ∧ (∀ c ∈ w, low c = true) ∧ w.length + xs.length = r + 1)
    ?_ ?_ _ _ _ ⟨[], none, o', rfl, ho', rfl, by simp, ?_⟩
  · rintro s st ⟨w, x, o, rfl, ho, rfl, hw, hl⟩
    simp
    simp at hl
    exact hZ _ _ <| endQ_draw0 rfl ho hr ⟨w, rfl, ⟨fun z => by rw [z] at hl; simp at hl, hw⟩, by omega⟩
  · rintro y xs s st ⟨w, x, o, rfl, ho, rfl, hw, hl⟩ Y hY
    simp at hl
    simp
    refine hd.at (by omega) (by omega) ho hr fun k o2 hk ho2 => ?_
    have hk : k < 26 := by omega
    have e2 : atI [97, 98, 99, 100, 101, 102, 103, 104, 105, 106, 107, 108, 109, 110, 111, 112, 113, 114, 115, 116, 117, 118, 119, 120, 121, 122] (k : Int) = some (97 + k) := by
      rw [atI_nat]; exact letters_get hk
    simp [ix_str, e2, bin_str, show w.length + 1 ≤ 16777216 by omega]
    refine hY _ _ ⟨_, _, o2, rfl, ho2, rfl, fun c hc => ?_, by simp; omega⟩
    rcases List.mem_append.mp hc with hc | hc
    · exact hw c hc
    · have : c = 97 + k := by simpa using hc
      subst this
      simp [low]; omega
  · have : ∀ (n : Nat) (lo : Int), (rngL lo n).length = n := by
      intro n
      induction n with
      | zero => intro lo; rfl
      | succ n ih => intro lo; simp [rngL, ih]
    simp [this]
end
end MP.PL

/-! PL, part d: values within bounds; odd values; things changed. -/
namespace MP.PL
open PySem L2
def Bd (n : Nat) : Nat → PV → Prop
  | _, .non => True
  | _, .bl _ => True
  | _, .int i => i.natAbs ≤ 10 ^ 40 + n
  | _, .str s => s.length ≤ n ∧ okS s = true
  | _, .dct xs => xs = []
  | _, .loc _ => False
  | 0, .tup _ => False
  | 0, .lst _ => False
  | d + 1, .tup xs => xs.length ≤ n ∧ ∀ x ∈ xs, Bd n d x
  | d + 1, .lst xs => xs.length ≤ n ∧ ∀ x ∈ xs, Bd n d x
@[simp] theorem Bd_non {n d : Nat} : Bd n d .non = True := by cases d <;> rfl
@[simp] theorem Bd_bl {n d : Nat} {b : Bool} : Bd n d (.bl b) = True := by cases d <;> rfl
@[simp] theorem Bd_int {n d : Nat} {i : Int} : Bd n d (.int i) = (i.natAbs ≤ 10 ^ 40 + n) := by cases d <;> rfl
@[simp] theorem Bd_str {n d : Nat} {s : List Nat} : Bd n d (.str s) = (s.length ≤ n ∧ okS s = true) := by cases d <;> rfl
@[simp] theorem Bd_dct {n d : Nat} {xs : List PV} : Bd n d (.dct xs) = (xs = []) := by cases d <;> rfl
@[simp] theorem Bd_loc {n d m : Nat} : Bd n d (.loc m) = False := by cases d <;> rfl
@[simp] theorem Bd_tup0 {n : Nat} {xs : List PV} : Bd n 0 (.tup xs) = False := id rfl
@[simp] theorem Bd_lst0 {n : Nat} {xs : List PV} : Bd n 0 (.lst xs) = False := id rfl
@[simp] theorem Bd_tup {n d : Nat} {xs : List PV} : Bd n (d + 1) (.tup xs) = (xs.length ≤ n ∧ ∀ x ∈ xs, Bd n d x) := id rfl
@[simp] theorem Bd_lst {n d : Nat} {xs : List PV} : Bd n (d + 1) (.lst xs) = (xs.length ≤ n ∧ ∀ x ∈ xs, Bd n d x) := id rfl
theorem Bd.mono {n n' : Nat} (hn : n ≤ n') : ∀ {d d' : Nat} {v : PV}, d ≤ d' → Bd n d v → Bd n' d' v := by
  intro d
  induction d with
  | zero =>
    intro d' v _ h
    cases v <;> simp at h ⊢
    · omega
    · exact ⟨by omega, h.2⟩
    · exact h
  | succ d ih =>
    intro d' v hd h
    obtain ⟨e, rfl⟩ : ∃ e, d' = e + 1 := ⟨d' - 1, by omega⟩
    cases v with
    | tup xs => rw [Bd_tup] at h ⊢; exact ⟨by omega, fun x hx => ih (by omega) (h.2 x hx)⟩
    | lst xs => rw [Bd_lst] at h ⊢; exact ⟨by omega, fun x hx => ih (by omega) (h.2 x hx)⟩
    | int i => simp at h ⊢; omega
    | str s => simp at h ⊢; exact ⟨by omega, h.2⟩
    | non => simp
    | bl b => simp
    | dct xs => simpa using h
    | loc m => simp at h
theorem Bd.lb {n : Nat} : ∀ {d : Nat} {v : PV}, Bd n d v → lb 0 v = true := by
  intro d
  induction d with
  | zero => intro v h; cases v <;> first | rfl | simp at h
  | succ d ih =>
    intro v h
    cases v with
    | tup xs => rw [Bd_tup] at h; exact lbs_all.mpr fun x hx => ih (h.2 x hx)
    | lst xs => rw [Bd_lst] at h; exact lbs_all.mpr fun x hx => ih (h.2 x hx)
    | loc m => simp at h
    | _ => rfl
theorem Bd.lbs {n d : Nat} {xs : List PV} (h : ∀ x ∈ xs, Bd n d x) : lbs 0 xs = true := lbs_all.mpr fun x hx => (h x hx).lb

/-! ### great letters -/
theorem lookup_mem {A B : Type} [BEq A] [LawfulBEq A] {c : A} {x : B} : ∀ {l : List (A × B)}, l.lookup c = some x → (c, x) ∈ l
  | [], h => by simp at h
  | (a, b) :: l, h => by
    rw [List.lookup_cons] at h
    split at h
    · rename_i e
      cases h
      have := eq_of_beq e
      subst this
      exact List.mem_cons_self
    · exact List.mem_cons_of_mem _ (lookup_mem h)
theorem shifted_lt : ∀ (l : List (Nat × Nat × Nat)) (c d : Nat), (l.all fun p => decide (p.2.2 + (p.2.1 - p.1) < 0x110000)) = true → Unicode.shifted l c = some d → d < 0x110000
  | [], c, d, _, h => by simp [Unicode.shifted] at h
  | (a, b, t) :: l, c, d, hl, h => by
    rw [List.all_cons, Bool.and_eq_true] at hl
    simp only [Unicode.shifted] at h
    have h1 : t + (b - a) < 0x110000 := by simpa using hl.1
    split at h
    · cases h
    · split at h
      · cases h; omega
      · exact shifted_lt l c d hl.2 h
theorem oneUp : (UnicodeData.oneUpper.all fun p => decide (p.2.2 + (p.2.1 - p.1) < 0x110000)) = true := by decide +kernel
theorem sevUp : (UnicodeData.severalUpper.all fun p => decide (p.2.length ≤ 3) && p.2.all fun c => decide (c < 0x110000)) = true := by decide +kernel
theorem upperOf_ok {c : Nat} (h : c < 0x110000) : (Unicode.upperOf c).length ≤ 3 ∧ ∀ d ∈ Unicode.upperOf c, d < 0x110000 := by
  unfold Unicode.upperOf Unicode.image
  split
  · rename_i cs e
    have := List.all_eq_true.mp sevUp _ (lookup_mem e)
    simp only [Bool.and_eq_true, decide_eq_true_eq, List.all_eq_true] at this
    exact this
  · refine ⟨by simp, fun d hd => ?_⟩
    rw [List.mem_singleton] at hd
    subst hd
    cases e : Unicode.shifted UnicodeData.oneUpper c with
    | none => exact h
    | some z => exact shifted_lt _ _ _ oneUp e
theorem upper_ok {s : List Nat} (h : okS s = true) : (Txt.upper ⟨s.toArray⟩).cps.toList.length ≤ 3 * s.length ∧ okS (Txt.upper ⟨s.toArray⟩).cps.toList = true := by
  have e : (Txt.upper ⟨s.toArray⟩).cps.toList = s.flatMap Unicode.upperOf := by
    unfold Txt.upper placed
    simp [List.flatMap]
    congr 1
    rw [List.mapIdx_eq_zipIdx_map, List.map_map]
    have e2 : ∀ (l : List Nat) (k : Nat), List.map (Array.toList ∘ fun x => (Unicode.upperOf x.1).toArray) (l.zipIdx k) = l.map Unicode.upperOf := by
      intro l
      induction l with
      | nil => intro k; rfl
      | cons c l ih => intro k; simp [List.zipIdx_cons]; simpa using ih (k + 1)
    exact e2 s 0
  rw [e]
  simp only [okS, List.all_eq_true, decide_eq_true_eq] at h ⊢
  refine ⟨?_, fun d hd => ?_⟩
  · clear e
    induction s with
    | nil => simp
    | cons c s ih =>
      have := (upperOf_ok (h c List.mem_cons_self)).1
      have := ih fun d hd => h d (List.mem_cons_of_mem _ hd)
      simp only [List.flatMap_cons, List.length_append, List.length_cons]
      omega
  · obtain ⟨c, hc, hd⟩ := List.mem_flatMap.mp hd
    exact (upperOf_ok (h c hc)).2 d hd
theorem toStr_ok {i : Int} {k : Nat} (hk : 0 < k) (h : i.natAbs.log2 < k) : (decP i).length ≤ k + 1 ∧ okS (decP i) = true := by
  unfold decP
  have := PySem.int_text_length_le hk h
  rw [← PySem.ofString_length] at this
  rw [strOfInt, lenStr] at this
  refine ⟨this, ?_⟩
  simp only [okS, List.all_eq_true, decide_eq_true_eq]
  intro c hc
  obtain ⟨d, _, rfl⟩ := List.mem_map.mp hc
  have := d.valid
  rcases this with h | h
  · have : d.toNat < 0xd800 := h
    omega
  · exact h.2
end MP.PL

/-! PL, part e: odd values; things changed. -/
namespace MP.PL
open PySem L2
section
variable {T : Tab} {fu : Nat}
theorem PickOk.lst {F : Fn} (h : PickOk F) {xs : List PV} {o : PO} {rest : Sto} {Q : PV → Sto → Prop} (h0 : xs ≠ []) (h1 : xs.length < 1073741824) (hl : lbs 0 xs = true) (ho : SpO o) (hr : StB (rest.length + 1) rest)
    (hQ : ∀ v o', v ∈ xs → SpO o' → Q v (o' :: rest)) : (F [.loc 0, .lst xs] (o :: rest)).wp Q NoX := (h xs h0 h1 hl).1.at ho hr hQ
theorem PickOk.tup {F : Fn} (h : PickOk F) {xs : List PV} {o : PO} {rest : Sto} {Q : PV → Sto → Prop} (h0 : xs ≠ []) (h1 : xs.length < 1073741824) (hl : lbs 0 xs = true) (ho : SpO o) (hr : StB (rest.length + 1) rest)
    (hQ : ∀ v o', v ∈ xs → SpO o' → Q v (o' :: rest)) : (F [.loc 0, .tup xs] (o :: rest)).wp Q NoX := (h xs h0 h1 hl).2.at ho hr hQ
def OddOk (F : Fn) : Prop := Draws F [] (Bd 2000 2)
theorem odd_ok (hp : PickOk (T 7)) : OddOk (run T fu 2 1 false TX.b9) := by
  intro o rest ho hr
  refine run_sat rfl fun Z hZ => ?_
  simp [TX.b9, bin_lst]
  refine hp.lst (by simp) (by simp) (by decide) ho hr fun v o' hv ho' => ?_
  refine hZ _ _ (endQ_draw0 ?_ ho' hr ?_)
  · simp at hv
    rcases hv with rfl | rfl | rfl | rfl | rfl | rfl | rfl | rfl | rfl | rfl | rfl | rfl | rfl | rfl | rfl | rfl | rfl | rfl | rfl | rfl | rfl | rfl | rfl | rfl | rfl | rfl | rfl <;> rfl
  · simp at hv
    rcases hv with rfl | rfl | rfl | rfl | rfl | rfl | rfl | rfl | rfl | rfl | rfl | rfl | rfl | rfl | rfl | rfl | rfl | rfl | rfl | rfl | rfl | rfl | rfl | rfl | rfl | rfl | rfl <;> simp [okS]
theorem Bd.cut {n d : Nat} {xs : List PV} (h : ∀ x ∈ xs, Bd n d x) (lo hi : Option Int) : ∀ x ∈ cutP xs lo hi, Bd n d x := fun x hx => h x (cutP_mem hx)
theorem okS_app {a b : List Nat} : okS (a ++ b) = (okS a && okS b) := by simp [okS]
def OtherOk (F : Fn) : Prop := ∀ (n d : Nat) (v : PV), n ≤ 100000 → Bd n d v → Draws F [v] (Bd (3 * n + 3000) (d + 3))
theorem other_ok (hd : DipOk (T 6)) (hp : PickOk (T 7)) (hod : OddOk (T 9)) : OtherOk (run T fu 7 2 false TX.b10) := by
  intro n d v hn hv o rest ho hr
  refine run_sat rfl fun Z hZ => ?_
  simp [TX.b10]
  refine Draws.at hod ho hr fun w o1 hw ho1 => ?_
  -- from here on: the list of what may come
  have fin : ∀ (xs : List PV) (s : Env) (o : PO), SpO o → xs ≠ [] → xs.length ≤ 100 → (∀ x ∈ xs, Bd (3 * n + 3000) (d + 3) x) → (T 7 [.loc 0, .lst xs] (o :: rest)).wp (fun a st => Z (.rt a) st) NoX := by
    intro xs s o ho h0 h1 hx
    refine hp.lst h0 (by omega) (Bd.lbs hx) ho hr fun v o' hv ho' => ?_
    exact hZ _ _ (endQ_draw0 (lb_mono (Nat.zero_le _) (hx v hv).lb) ho' hr (hx v hv))
  have hw' : Bd (3 * n + 3000) (d + 2) w := hw.mono (by omega) (by omega)
  have hw3 : Bd (3 * n + 3000) (d + 3) w := hw.mono (by omega) (by omega)
  cases v with
  | non =>
    simp
    exact fin _ [] _ ho1 (by simp) (by simp) (by simp [hw3])
  | bl b =>
    cases b <;> simp [bin_lst] <;> exact fin _ [] _ ho1 (by simp) (by simp) (by simp [hw3, okS]; try omega)
  | int i =>
    simp at hv
    have hl : i.natAbs.log2 < 1900 := log2_sm (by
      have : (10 : Nat) ^ 40 + 100000 < 2 ^ 1900 := by decide +kernel
      omega)
    have hs := toStr_ok (by omega) hl
    simp [bin_lst, bi_stri (i := i) (by omega)]
    refine fin _ [] _ ho1 (by simp) (by simp) fun x hx => ?_
    simp at hx
    rcases hx with rfl | rfl | rfl | rfl | rfl | rfl | rfl <;> simp [hw3, hs]
    all_goals omega
  | str s =>
    simp at hv
    have hu := upper_ok hv.2
    have h5 : (Txt.upper ⟨s.toArray⟩).cps.toList.length ≤ 3 * n := by omega
    simp [bin_lst, bin_str, sl_str, rv_str, show s.length + 1 ≤ 16777216 by omega, show s.length ≤ 16777216 by omega, mOk, mthP, show s.length ≤ 5592405 by omega]
    refine fin _ [] _ ho1 (by simp) (by simp) fun x hx => ?_
    simp only [List.mem_cons, List.not_mem_nil, or_false] at hx
    rcases hx with rfl | rfl | rfl | rfl | rfl | rfl | rfl
    · exact hw3
    · exact hw3
    · simp [okS_app, hv.2]; exact ⟨by omega, by decide⟩
    · simp; refine ⟨by omega, ?_⟩
      have := hv.2
      simp only [okS, List.all_eq_true, decide_eq_true_eq] at this ⊢
      exact fun c hc => this c (List.dropLast_subset _ hc)
    · rw [Bd_str]; exact ⟨by omega, hu.2⟩
    · simp [okS_app, hv.2]; exact ⟨by omega, by decide⟩
    · simp; refine ⟨by omega, ?_⟩
      have := hv.2
      simp only [okS, List.all_eq_true, decide_eq_true_eq] at this ⊢
      exact fun c hc => this c (List.mem_reverse.mp hc)
  | tup xs =>
    cases d with
    | zero => simp at hv
    | succ d =>
      rw [Bd_tup] at hv
      simp
      refine hd.at (by omega) (by omega) ho1 hr fun r o2 hr2 ho2 => ?_
      have b1 : ∀ x ∈ xs, Bd (3 * n + 3000) (d + 3) x := fun x hx => (hv.2 x hx).mono (by omega) (by omega)
      simp (disch := (simp only [List.length_append, List.length_take, List.length_drop, List.length_cons, List.length_nil]; omega)) [bin_lst, bin_tup]
      have t1 : ∀ x ∈ List.take r xs, Bd (3 * n + 3000) (d + 3) x := fun x hx => b1 x (List.mem_of_mem_take hx)
      have t2 : ∀ k, ∀ x ∈ List.drop k xs, Bd (3 * n + 3000) (d + 3) x := fun k x hx => b1 x (List.mem_of_mem_drop hx)
      refine fin _ [] _ ho2 (by simp) (by simp) fun x hx => ?_
      simp only [List.mem_cons, List.not_mem_nil, or_false] at hx
      rcases hx with rfl | rfl | rfl | rfl | rfl | rfl | rfl | rfl | rfl
      · exact hw3
      · exact hw3
      · rw [Bd_lst]; exact ⟨by omega, b1⟩
      · rw [Bd_tup]; exact ⟨by simp; omega, fun x hx => b1 x (List.dropLast_subset _ hx)⟩
      · rw [Bd_tup]; refine ⟨by simp; omega, fun x hx => ?_⟩
        rcases List.mem_append.mp hx with hx | hx
        · exact b1 x hx
        · rw [List.mem_singleton.mp hx]; exact hw'
      all_goals
        rw [Bd_tup]; refine ⟨by simp; try omega, fun x hx => ?_⟩
        simp only [List.mem_append, List.mem_singleton, List.mem_reverse, List.mem_cons] at hx
      · rcases hx with hx | hx | hx
        · exact t1 x hx
        · subst hx; exact hw'
        · exact t2 _ x hx
      · rcases hx with hx | hx
        · exact t1 x hx
        · exact t2 _ x hx
      · rcases hx with hx | hx | hx
        · exact t1 x hx
        · exact t2 _ x (List.mem_of_mem_take hx)
        · exact t2 _ x hx
      · exact b1 x hx
  | lst xs =>
    simp
    exact fin _ [] _ ho1 (by simp) (by simp) (by simp [hw3])
  | dct xs =>
    simp
    exact fin _ [] _ ho1 (by simp) (by simp) (by simp [hw3])
  | loc m => simp at hv
end
end MP.PL

/-! PL, part f: things changed at any depth. -/
namespace MP.PL
open PySem L2
section
variable {T : Tab} {fu : Nat}
def SpoiltAt (F : Fn) (n d : Nat) : Prop := ∀ v, Bd n d v → Draws F [v] (Bd (3 * n + 3000) (d + 3))
theorem spoilt_step {n d : Nat} (hn : n ≤ 100000) (hd : DipOk (T 6)) (hot : OtherOk (T 10)) (hs : ∀ d', d = d' + 1 → SpoiltAt (T 11) n d') : SpoiltAt (run T fu 3 2 false TX.b11) n d := by
  intro v hv o rest ho hr
  refine run_sat rfl fun Z hZ => ?_
  have oth : ∀ o, SpO o → (T 10 [.loc 0, v] (o :: rest)).wp (fun a st => Z (.rt a) st) NoX := fun o ho =>
    (hot n d v hn hv).at ho hr fun w o' hw ho' => hZ _ _ (endQ_draw0 (lb_mono (Nat.zero_le _) hw.lb) ho' hr hw)
  simp [TX.b11]
  cases v with
  | tup xs =>
    cases d with
    | zero => simp at hv
    | succ d =>
      rw [Bd_tup] at hv
      simp
      by_cases he : xs = []
      · subst he
        simp
        exact oth o ho
      · have hp : 0 < xs.length := List.length_pos_iff.mpr he
        simp [he]
        refine hd.at (by omega) (by omega) ho hr fun r o1 hr1 ho1 => ?_
        simp
        by_cases hr0 : 0 < r
        · simp [hr0]
          refine hd.at (by omega) (by omega) ho1 hr fun k o2 hk ho2 => ?_
          have hlt : k < xs.length := by omega
          simp [atI_nat, List.getElem?_eq_getElem hlt]
          have hx := hv.2 _ (List.getElem_mem hlt)
          refine (hs d rfl _ hx).at ho2 hr fun w o3 hw ho3 => ?_
          simp (disch := (simp only [List.length_append, List.length_take, List.length_drop, List.length_cons, List.length_nil]; omega)) [bin_tup]
          have bb : Bd (3 * n + 3000) (d + 1 + 3) (.tup (List.take k xs ++ w :: List.drop (k + 1) xs)) := by
            rw [Bd_tup]
            refine ⟨by simp; omega, fun x hx => ?_⟩
            simp only [List.mem_append, List.mem_cons] at hx
            rcases hx with hx | hx | hx
            · exact (hv.2 x (List.mem_of_mem_take hx)).mono (by omega) (by omega)
            · subst hx; exact hw
            · exact (hv.2 x (List.mem_of_mem_drop hx)).mono (by omega) (by omega)
          exact hZ _ _ (endQ_draw0 (lb_mono (Nat.zero_le _) bb.lb) ho3 hr bb)
        · simp [hr0]
          exact oth o1 ho1
  | non => simp; exact oth o ho
  | bl b => simp; exact oth o ho
  | int i => simp; exact oth o ho
  | str s => simp; exact oth o ho
  | lst xs => simp; exact oth o ho
  | dct xs => simp; exact oth o ho
  | loc m => simp at hv
end
end MP.PL

/-! PL, part g: defs that only tell a value; comprehensions of that sort. -/
namespace MP.PL
open PySem L2
theorem gives_of {T : Tab} {fu n p : Nat} {b : RB} {vs : List PV} {r : PV} (hp : vs.length = p) (hl : lb 0 r = true)
    (h : ∀ st, StB st.length st → ∀ Z : Fl → Sto → Prop, (∀ more, Z (.rt r) (st ++ more)) → (evB T fu b (vs.map some ++ List.replicate (n - vs.length) none) st).wp Z NoX) : Gives (run T fu n p false b) vs r := by
  intro st hs
  obtain ⟨f, st1, e, e1, more, e2⟩ := wp_eq (h st hs (fun f st1 => f = .rt r ∧ ∃ more, st1 = st ++ more) fun more => ⟨rfl, more, rfl⟩)
  subst e1 e2
  rw [run_eq hp e (.inl rfl)]
  have ht : (st ++ more).take st.length = st := by simp
  rw [dropRes_ok (lb_mono (Nat.zero_le _) hl) (by rw [ht]; exact hs), ht]
theorem Gives.at {F : Fn} {vs : List PV} {v : PV} (h : Gives F vs v) {st : Sto} {Q : PV → Sto → Prop} (hs : StB st.length st) (q : Q v st) : (F vs st).wp Q NoX := by
  rw [h st hs, s_ok]; exact q
theorem compL_map {A : Type} {f : PV → Sto → Res (List PV)} {st : Sto} {h : A → PV} {g : A → List PV} : ∀ {xs : List A}, (∀ x ∈ xs, f (h x) st = .ok (g x) st) → compL f (xs.map h) st = .ok (xs.flatMap g) st
  | [], _ => rfl
  | x :: xs, q => by
    show (f (h x) st).bnd _ = _
    rw [q x List.mem_cons_self, Res.bnd_ok, compL_map (xs := xs) fun y hy => q y (List.mem_cons_of_mem _ hy)]
    rfl
theorem compL_one {A : Type} {f : PV → Sto → Res (List PV)} {st : Sto} {h : A → PV} {g : A → PV} {xs : List A} (q : ∀ x ∈ xs, f (h x) st = .ok [g x] st) : compL f (xs.map h) st = .ok (xs.map g) st := by
  rw [compL_map (g := fun x => [g x]) q]
  congr 1
  clear q
  induction xs with
  | nil => rfl
  | cons x xs ih => rw [List.flatMap_cons, ih]; rfl
theorem compL_filter {A : Type} {f : PV → Sto → Res (List PV)} {st : Sto} {h : A → PV} {g : A → PV} {p : A → Bool} {xs : List A} (q : ∀ x ∈ xs, f (h x) st = .ok (if p x then [g x] else []) st) : compL f (xs.map h) st = .ok ((xs.filter p).map g) st := by
  rw [compL_map (g := fun x => if p x then [g x] else []) q]
  congr 1
  clear q
  induction xs with
  | nil => rfl
  | cons x xs ih =>
    rw [List.flatMap_cons, ih]
    cases e : p x <;> simp [e]
@[simp] theorem in_letters {c : Nat} : inStr [c] [97, 98, 99, 100, 101, 102, 103, 104, 105, 106, 107, 108, 109, 110, 111, 112, 113, 114, 115, 116, 117, 118, 119, 120, 121, 122] = low c := by
  rw [in_one]
  unfold low
  refine decide_eq_decide.mpr ?_
  simp
  omega
theorem low_lt {c : Nat} (h : low c = true) : c < 0x110000 := by
  simp [low] at h; omega
theorem datas_strs : ∀ l : List (List Nat), PV.datas (l.map .str) = some (l.map fun s => PyData.str ⟨s.toArray⟩)
  | [] => rfl
  | s :: l => by
    simp only [List.map_cons, PV.datas, PV.data, datas_strs l]
theorem canLay_strs : ∀ {l : List (List Nat)}, (∀ s ∈ l, okS s = true) → PyData.canLayAll0 (l.map fun s => PyData.str ⟨s.toArray⟩) = true ∧ PyData.depthAll (l.map fun s => PyData.str ⟨s.toArray⟩) ≤ 1
  | [], _ => by simp [PyData.canLayAll0, PyData.depthAll]
  | s :: l, h => by
    obtain ⟨h1, h2⟩ := canLay_strs (l := l) fun t ht => h t (List.mem_cons_of_mem _ ht)
    have h3 := okData_str (h s List.mem_cons_self)
    simp only [okData, Bool.and_eq_true, decide_eq_true_eq] at h3
    simp only [List.map_cons, PyData.canLayAll0, PyData.depthAll, h3.1, h1, Bool.and_self, true_and]
    have : (PyData.str ⟨s.toArray⟩).depth ≤ 1 := by simp [PyData.depth]
    omega
theorem okData_strs {l : List (List Nat)} (h : ∀ s ∈ l, okS s = true) : okData (.list (l.map fun s => PyData.str ⟨s.toArray⟩)) = true ∧ okData (.tuple (l.map fun s => PyData.str ⟨s.toArray⟩)) = true := by
  obtain ⟨h1, h2⟩ := canLay_strs h
  refine ⟨?_, ?_⟩
  · show (PyData.canLayAll0 _ && decide (PyData.depthAll (l.map fun s => PyData.str ⟨s.toArray⟩) + 1 ≤ 64)) = true
    rw [h1, decide_eq_true (by omega)]; rfl
  · show (PyData.canLayAll0 _ && decide (PyData.depthAll (l.map fun s => PyData.str ⟨s.toArray⟩) + 1 ≤ 64)) = true
    rw [h1, decide_eq_true (by omega)]; rfl
/-- is a value a word -/
def isWB : PV → Bool
  | .str s => !s.isEmpty && s.all low
  | _ => false
def isNB : PV → Bool
  | .str s => !s.isEmpty && s.all low && decide (s.length ≤ 8)
  | _ => false
section
variable {T : Tab} {fu : Nat}
theorem is_word_ok {n d : Nat} {v : PV} (hn : n ≤ 16777216) (hv : Bd n d v) : Gives (run T fu 2 1 false TX.b0) [v] (.bl (isWB v)) := by
  refine gives_of rfl rfl fun st hs Z hZ => ?_
  have h0 := hZ []
  rw [List.append_nil] at h0
  simp [TX.b0]
  cases v with
  | str s =>
    rw [Bd_str] at hv
    simp [e_lc]
    by_cases he : s = []
    · subst he; simpa [isWB] using h0
    · simp [he]
      rw [compL_one (g := fun c => PV.bl (low c)) fun c hc => by simp]
      simp [show s.length ≤ 16777216 by omega]
      simpa [isWB, show s.isEmpty = false by simpa using he] using h0
  | loc m => simp at hv
  | _ => simpa [isWB] using h0
end
end MP.PL

/-! PL, part h: fields with marks are drawn: names, words in order. -/
namespace MP.PL
open PySem L2
/-- a list, as a value or at a place -/
def IsL (st : Sto) (x : PV) (xs : List PV) : Prop := x = .lst xs ∨ ∃ n, x = .loc n ∧ st[n]? = some (.lst xs)
theorem IsL.seq {st : Sto} {x : PV} {xs : List PV} (h : IsL st x xs) : seqOf st x = some (true, xs) := by
  rcases h with rfl | ⟨n, rfl, e⟩
  · rfl
  · exact sq_loc e
theorem compA_pure {f : PV → Sto → Res (List PV)} {st : Sto} {n : Nat} {xs : List PV} {g : PV → List PV} (e : st[n]? = some (.lst xs)) : ∀ (k i : Nat), i + k = xs.length → (∀ x ∈ xs, f x st = .ok (g x) st) → compA f n false i k st = .ok ((xs.drop i).flatMap g) st
  | 0, i, hk, h => by
    rw [List.drop_of_length_le (by omega)]
    simp only [compA, e]
    rw [if_pos (by omega)]; rfl
  | k + 1, i, hk, h => by
    have hi : i < xs.length := by omega
    simp only [compA, e, List.getElem?_eq_getElem hi, itA]
    rw [h _ (List.getElem_mem hi), Res.bnd_ok, compA_pure e k (i + 1) (by omega) h, Res.bnd_ok, List.drop_eq_getElem_cons hi]
    rfl
theorem comp_pure {f : PV → Sto → Res (List PV)} {st : Sto} {x : PV} {xs : List PV} {g : PV → List PV} (hx : IsL st x xs) (h : ∀ x ∈ xs, f x st = .ok (g x) st) : ∃ src, srcOf st x = some src ∧ comp f src st = .ok (xs.flatMap g) st := by
  rcases hx with rfl | ⟨n, rfl, e⟩
  · exact ⟨_, rfl, compL_pure h⟩
  · refine ⟨.at n xs.length false, by simp only [srcOf, e], ?_⟩
    have := compA_pure (f := f) (g := g) e xs.length 0 (by omega) h
    simpa [comp] using this
theorem srt_strs {st : Sto} {x : PV} {ws : List (List Nat)} (h : IsL st x (ws.map .str)) (few : ws.length < 4000) : srtP x st = some (.lst ((srtS ws).map .str)) := by
  simp only [srtP, h.seq, Option.bind_some, if_true]
  have : strsOf (ws.map .str) = some ws := by
    clear h few
    induction ws with
    | nil => rfl
    | cons w ws ih => simp [strsOf, ih]
  simp only [this, if_pos few]
theorem strs_none {x : PV} {xs : List PV} (h : ∀ s, x ≠ .str s) : strsOf (x :: xs) = none := by
  cases x <;> first | rfl | exact absurd rfl (h _)
theorem srt_ints {st : Sto} {x : PV} {is : List Int} (h : IsL st x (is.map .int)) (few : is.length < 4000) : srtP x st = some (.lst ((srtO ltI is).map .int)) := by
  simp only [srtP, h.seq, Option.bind_some, if_true]
  have : intsOf (is.map .int) = some is := by
    clear h few
    induction is with
    | nil => rfl
    | cons w ws ih => simp [intsOf, ih]
  cases is with
  | nil => rfl
  | cons i is =>
    rw [List.map_cons, strs_none (fun s z => by cases z), ← List.map_cons, this]
    simp only [if_pos few]
theorem srt_prs {st : Sto} {x : PV} {ps : List (Int × List Nat)} (h : IsL st x (ps.map prV)) (few : ps.length < 4000 ∧ (srtO ltPr ps).length < 63) : srtP x st = some (.lst ((srtO ltPr ps).map prV)) := by
  simp only [srtP, h.seq, Option.bind_some, if_true]
  have : prsOf (ps.map prV) = some ps := by
    clear h few
    induction ps with
    | nil => rfl
    | cons w ws ih => simp [prsOf, prV, ih]
  cases ps with
  | nil => rfl
  | cons i is =>
    have e : intsOf ((i :: is).map prV) = none := rfl
    rw [e, this, List.map_cons, strs_none (fun s z => by cases z)]
    simp only [if_pos few]
/-- names -/
def Nm (w : List Nat) : Prop := isW w ∧ w.length ≤ 8
theorem Nm.str {w : List Nat} (h : Nm w) : lb 0 (.str w) = true := rfl
section
variable {T : Tab} {fu : Nat}
def NamesOk (F : Fn) : Prop := ∀ n : Nat, 0 < n → n < 4000 → Draws F [.int n] (fun v => ∃ ws, v = .lst (ws.map .str) ∧ ws ≠ [] ∧ ws.length ≤ n ∧ ws.Pairwise (· < ·) ∧ ∀ w ∈ ws, Nm w)
theorem stb_last {rest : Sto} {xs : List PV} (hr : StB (rest.length + 1) rest) (hx : lbs 0 xs = true) : StB ((rest ++ [PO.lst xs]).length + 1) (rest ++ [PO.lst xs]) := by
  refine StB.append (hr.mono (by simp)) fun o ho => ?_
  rw [List.mem_singleton.mp ho]
  exact lbs_mono (Nat.zero_le _) hx
theorem lbs_str (l : List (List Nat)) : lbs 0 (l.map .str) = true := lbs_all.mpr fun x hx => by
  obtain ⟨s, _, rfl⟩ := List.mem_map.mp hx
  rfl
theorem srtS_length : ∀ l : List (List Nat), (srtS l).length ≤ l.length
  | [] => by simp [srtS]
  | x :: l => by
    have gen : ∀ l : List (List Nat), (insS x l).length ≤ l.length + 1 := by
      intro l
      induction l with
      | nil => simp [insS]
      | cons y ys ih =>
        unfold insS
        split
        · simp
        · split
          · simp
          · simp; omega
    have h := srtS_length l
    have h2 := gen (srtS l)
    show (insS x (srtS l)).length ≤ _
    simp; omega
theorem names_ok (hd : DipOk (T 6)) (hp : PickOk (T 7)) (hw : WordOk (T 8)) : NamesOk (run T fu 6 2 false TX.b21) := by
  intro n h0 h1 o rest ho hr
  refine run_sat rfl fun Z hZ => ?_
  simp [TX.b21]
  refine hd.at (by omega) (by omega) ho (stb_last hr rfl) fun r o1 hr1 ho1 => ?_
  simp [rngR_int (n := 1 + (r : Int)) (by omega) (by omega)]
  rw [show (1 + (r : Int)).toNat = r + 1 by omega]
  refine forL_sat (fun rem s st => ∃ (ws : List (List Nat)) (o : PO) (x4 x5 : Option PV), s = [some (.loc 0), some (.int n), some (.lst [.str [97, 109, 111, 117, 110, 116], .str [107, 101, 121], .str [119, 104, 111], .str [97, 110, 121], .str [110, 111, 116], .str [97], .str [122, 122]]), some (.loc (rest.length + 1)), x4, x5] ∧ SpO o ∧
      st = o :: (rest ++ [.lst (ws.map .str)]) ∧ (∀ w ∈ ws, Nm w) ∧ ws.length + rem.length = r + 1) ?_ ?_ _ _ _ ⟨[], o1, none, none, rfl, ho1, by simp, by simp, by simp [rngL_length]⟩
  · rintro s st ⟨ws, o, x4, x5, rfl, ho, rfl, hws, hl⟩
    simp at hl
    simp
    rw [srt_strs (ws := ws) (.inr ⟨_, rfl, by simp⟩) (by omega)]
    simp
    refine hZ _ _ (endQ_draw (P := fun v => ∃ ws, v = .lst (ws.map .str) ∧ ws ≠ [] ∧ ws.length ≤ n ∧ ws.Pairwise (· < ·) ∧ ∀ w ∈ ws, Nm w) (lb_mono (Nat.zero_le _) (show lb 0 (.lst ((srtS ws).map .str)) = true from lbs_str _)) ho hr ⟨srtS ws, rfl, fun z => ?_, ?_, srtS_srt ws, fun w hw => hws w (srtS_mem.mp hw)⟩)
    · cases ws with
      | nil => simp at hl
      | cons w ws =>
        have : w ∈ srtS (w :: ws) := srtS_mem.mpr List.mem_cons_self
        rw [z] at this; cases this
    · have := srtS_length ws; omega
  · rintro y rem s st ⟨ws, o, x4, x5, rfl, ho, rfl, hws, hl⟩ Y hY
    simp at hl
    have hr2 := stb_last hr (lbs_str ws)
    try simp
    refine hd.at (by omega) (by omega) ho hr2 fun k o2 hk ho2 => ?_
    have fin : ∀ (w : List Nat) (o : PO) (b : PV), SpO o → Nm w → Y (.nx [some (.loc 0), some (.int n), some (.lst [.str [97, 109, 111, 117, 110, 116], .str [107, 101, 121], .str [119, 104, 111], .str [97, 110, 121], .str [110, 111, 116], .str [97], .str [122, 122]]), some (.loc (rest.length + 1)), some y, some b]) (o :: (rest ++ [.lst ((ws ++ [w]).map .str)])) := fun w o b ho hw => by
      refine hY _ _ ⟨ws ++ [w], o, _, _, rfl, ho, rfl, fun v hv => ?_, by simp; omega⟩
      rcases List.mem_append.mp hv with hv | hv
      · exact hws v hv
      · rw [List.mem_singleton.mp hv]; exact hw
    by_cases hk0 : k = 0
    · simp [hk0]
      refine (hw 8 (by omega) (by omega)).at ho2 hr2 fun a o3 ⟨w, e, h8, l8⟩ ho3 => ?_
      subst e
      simp [show ws.length < 16777216 by omega]
      have := fin w o3 (.bl true) ho3 ⟨h8, l8⟩
      simpa using this
    · simp [hk0]
      refine hp.lst (by simp) (by simp) rfl ho2 hr2 fun v o3 hv ho3 => ?_
      simp [show ws.length < 16777216 by omega]
      obtain ⟨w, rfl, hw⟩ : ∃ w, v = .str w ∧ Nm w := by
        simp at hv
        rcases hv with rfl | rfl | rfl | rfl | rfl | rfl | rfl <;> exact ⟨_, rfl, ⟨by simp, by decide⟩, by simp⟩
      have := fin w o3 (.bl false) ho3 hw
      simpa using this
/-- words in order -/
def ordW (ws : List (List Nat)) : List (List Nat) := (srtO ltPr (ws.map fun w => ((w.length : Int), w))).map (·.2)
theorem ordW_mem {ws : List (List Nat)} {w : List Nat} : w ∈ ordW ws ↔ w ∈ ws := by
  unfold ordW
  constructor
  · intro h
    obtain ⟨p, hp, rfl⟩ := List.mem_map.mp h
    obtain ⟨v, hv, rfl⟩ := List.mem_map.mp (srtO_mem.mp hp)
    exact hv
  · intro h
    exact List.mem_map.mpr ⟨((w.length : Int), w), srtO_mem.mpr (List.mem_map.mpr ⟨w, h, rfl⟩), rfl⟩
theorem ordW_len (ws : List (List Nat)) : (ordW ws).length ≤ ws.length := by
  unfold ordW
  have := srtO_len (lt := ltPr) (ws.map fun w => ((w.length : Int), w))
  simpa using this
/-- by length first -/
def ltW (a b : List Nat) : Prop := a.length < b.length ∨ (a.length = b.length ∧ a < b)
theorem ordW_srt (ws : List (List Nat)) : (ordW ws).Pairwise ltW := by
  unfold ordW
  refine List.pairwise_map.mpr ?_
  have h := srtO_srt ordPr (ws.map fun w => ((w.length : Int), w))
  refine (h.and (List.pairwise_iff_forall_sublist.mpr fun {a b} hs => ?_ : List.Pairwise (fun a b : Int × List Nat => a.1 = a.2.length ∧ b.1 = b.2.length) _)).imp fun {a b} ⟨q1, q2, q3⟩ => ?_
  · have ha := hs.subset (show a ∈ [a, b] by simp)
    have hb := hs.subset (show b ∈ [a, b] by simp)
    obtain ⟨u, _, rfl⟩ := List.mem_map.mp (srtO_mem.mp ha)
    obtain ⟨v, _, rfl⟩ := List.mem_map.mp (srtO_mem.mp hb)
    exact ⟨rfl, rfl⟩
  · simp only [ltPr, Bool.or_eq_true, Bool.and_eq_true, decide_eq_true_eq] at q1
    rcases q1 with q1 | ⟨q1, q4⟩
    · exact .inl (by omega)
    · exact .inr ⟨by omega, q4⟩
def OrderedOk (F : Fn) : Prop := ∀ (ws : List (List Nat)) (x : PV) (st : Sto), StB st.length st → IsL st x (ws.map .str) → (ws.length < 4000 ∧ (ordW ws).length < 63) → (∀ w ∈ ws, w.length ≤ 16777216) → F [x] st = .ok (.tup ((ordW ws).map .str)) st
theorem ordered_ok : OrderedOk (run T fu 3 1 false TX.b22) := by
  intro ws x st hs hx few hw
  have key : ∀ Z : Fl → Sto → Prop, Z (.rt (.tup ((ordW ws).map .str))) st → (evB T fu TX.b22 [some x, none, none] st).wp Z NoX := by
    intro Z hZ
    simp [TX.b22, e_lc]
    obtain ⟨src, e1, e2⟩ := comp_pure (f := turnC T (.tup (.cons (.bi .len (.cons (.var 2) .nil)) (.cons (.var 2) .nil))) (.name 2) [2] .no [some x, none, none]) (g := fun v => match v with | .str w => [prV ((w.length : Int), w)] | _ => []) hx (by
      intro v hv
      obtain ⟨w, hw2, rfl⟩ := List.mem_map.mp hv
      simp [len_str (hw w hw2), prV])
    have e3 : (ws.map PV.str).flatMap (fun v => match v with | .str w => [prV ((w.length : Int), w)] | _ => []) = (ws.map fun w => ((w.length : Int), w)).map prV := by
      clear e2 hx few hw e1 hZ
      induction ws with
      | nil => rfl
      | cons w ws ih => simp only [List.map_cons, List.flatMap_cons, ih]; rfl
    rw [e3] at e2
    simp [e1]
    rw [e2]
    simp [show ws.length ≤ 16777216 by omega]
    rw [show (List.map (prV ∘ fun w => ((w.length : Int), w)) ws) = (ws.map fun w => ((w.length : Int), w)).map prV by rw [List.map_map], srt_prs (.inl rfl) ⟨by rw [List.length_map]; exact few.1, by have := few.2; unfold ordW at this; rwa [List.length_map] at this⟩]
    simp
    rw [compL_one (g := fun p : Int × List Nat => PV.str p.2) (fun p hp => by simp [prV])]
    have hl := ordW_len ws
    unfold ordW at hl
    rw [List.length_map] at hl
    simp [show (srtO ltPr (ws.map fun w => ((w.length : Int), w))).length ≤ 16777216 by omega]
    have : (ordW ws).map PV.str = (srtO ltPr (ws.map fun w => ((w.length : Int), w))).map fun p => PV.str p.2 := by unfold ordW; rw [List.map_map]; rfl
    rw [this] at hZ
    exact hZ
  obtain ⟨f, st1, e, rfl, rfl⟩ := wp_eq (key (fun f st1 => f = .rt (.tup ((ordW ws).map .str)) ∧ st1 = st) ⟨rfl, rfl⟩)
  refine (run_eq (vs := [x]) (p := 1) (n := 3) rfl e (.inl rfl)).trans ?_
  rw [dropRes_ok (lb_mono (Nat.zero_le _) (show lb 0 (.tup ((ordW ws).map .str)) = true from lbs_str _)) (by rw [List.take_length]; exact hs), List.take_length]
end
end MP.PL

/-! PL, part i: marks, fields with marks. -/
namespace MP.PL
open PySem L2
inductive Kd where
  | num | wrd | flg
  deriving DecidableEq
def kdS : Kd → List Nat
  | .num => [110, 117, 109, 98, 101, 114]
  | .wrd => [119, 111, 114, 100]
  | .flg => [102, 108, 97, 103]
/-- the marks of a field -/
inductive Mk where
  | num (ms : List Int)
  | wrd (ws : List (List Nat))
  | flg (b : Bool)
def Mk.kd : Mk → Kd
  | .num _ => .num
  | .wrd _ => .wrd
  | .flg _ => .flg
def Mk.vs : Mk → List PV
  | .num ms => ms.map .int
  | .wrd ws => ws.map .str
  | .flg b => if b then [.bl true] else []
def mkV (m : Mk) : PV := .tup m.vs
def Mk.ok : Mk → Prop
  | .num ms => ms.Pairwise (fun a b => ltI a b = true) ∧ ∀ m ∈ ms, 1 ≤ m ∧ m ≤ 1000000000000000001
  | .wrd ws => ws.Pairwise ltW ∧ ∀ w ∈ ws, Nm w
  | .flg _ => True
theorem lbs_int (l : List Int) : lbs 0 (l.map .int) = true := lbs_all.mpr fun x hx => by
  obtain ⟨s, _, rfl⟩ := List.mem_map.mp hx
  rfl
theorem Mk.lb (m : Mk) : PL.lb 0 (mkV m) = true := by
  cases m with
  | num ms => exact lbs_int ms
  | wrd ws => exact lbs_str ws
  | flg b => cases b <;> rfl
section
variable {T : Tab} {fu : Nat}
def MarksOk (F : Fn) : Prop := ∀ (kd : Kd) (n : Nat), n ≤ 60 → Draws F [.str (kdS kd), .int n] (fun v => ∃ m : Mk, v = mkV m ∧ m.kd = kd ∧ m.ok ∧ m.vs.length ≤ n)
theorem marks_ok (hd : DipOk (T 6)) (hp : PickOk (T 7)) (hw : WordOk (T 8)) (h22 : OrderedOk (T 22)) : MarksOk (run T fu 8 3 false TX.b23) := by
  intro kd n hn o rest ho hr
  refine run_sat rfl fun Z hZ => ?_
  have done : ∀ (m : Mk) (o : PO) (more : Sto), SpO o → m.kd = kd → m.ok → m.vs.length ≤ n → Z (.rt (mkV m)) (o :: (rest ++ more)) := fun m o more ho h1 h2 h3 => hZ _ _ (endQ_draw (lb_mono (Nat.zero_le _) m.lb) ho hr ⟨m, rfl, h1, h2, h3⟩)
  cases kd with
  | flg =>
    simp [TX.b23, kdS]
    refine hd.at (by omega) (by omega) ho hr fun r o1 hr1 ho1 => ?_
    simp
    have e : List.take n (List.take r [PV.bl true]) = (Mk.flg (decide (0 < r ∧ 0 < n))).vs := by
      rcases r with _ | r
      · simp [Mk.vs]
      · rcases n with _ | n
        · simp [Mk.vs]
        · simp [Mk.vs]
    have := done (.flg (decide (0 < r ∧ 0 < n))) o1 [] ho1 rfl trivial (by
      rw [← e]; simp only [List.length_take]; omega)
    rw [List.append_nil, mkV, ← e] at this
    exact this
  | wrd =>
    simp [TX.b23, kdS]
    refine hd.at (by omega) (by omega) ho (stb_last hr rfl) fun r o1 hr1 ho1 => ?_
    simp [rngR_int (n := (r : Int)) (by omega) (by omega)]
    refine forL_sat (fun rem s st => ∃ (ws : List (List Nat)) (o : PO) (x3 x6 x7 : Option PV), s = [some (.loc 0), some (.str [119, 111, 114, 100]), some (.int n), x3, some (.loc (rest.length + 1)), some (.lst [.str [97], .str [98], .str [97, 110, 110], .str [98, 111, 98], .str [122], .str [97, 97]]), x6, x7] ∧ SpO o ∧
        st = o :: (rest ++ [.lst (ws.map .str)]) ∧ (∀ w ∈ ws, Nm w) ∧ ws.length + rem.length = r) ?_ ?_ _ _ _ ⟨[], o1, none, none, none, rfl, ho1, by simp, by simp, by simp [rngL_length]⟩
    · rintro s st ⟨ws, o, x3, x6, x7, rfl, ho, rfl, hws, hl⟩
      simp at hl
      simp
      have hs : StB (o :: (rest ++ [PO.lst (ws.map .str)])).length (o :: (rest ++ [PO.lst (ws.map .str)])) := StB.cons (ho.olb _) (by simpa using stb_last hr (lbs_str ws))
      rw [h22 ws _ _ hs (.inr ⟨_, rfl, by simp⟩) ⟨by omega, by have := ordW_len ws; omega⟩ (fun w hw => by have := (hws w hw).2; omega)]
      simp
      exact done (.wrd (ordW ws)) o _ ho rfl ⟨ordW_srt ws, fun w hw => hws w (ordW_mem.mp hw)⟩ (by have := ordW_len ws; simp [Mk.vs]; omega)
    · rintro y rem s st ⟨ws, o, x3, x6, x7, rfl, ho, rfl, hws, hl⟩ Y hY
      simp at hl
      have hr2 := stb_last hr (lbs_str ws)
      try simp
      refine hd.at (by omega) (by omega) ho hr2 fun k o2 hk ho2 => ?_
      have fin : ∀ (w : List Nat) (o : PO), SpO o → Nm w → Y (.nx [some (.loc 0), some (.str [119, 111, 114, 100]), some (.int n), some y, some (.loc (rest.length + 1)), some (.lst [.str [97], .str [98], .str [97, 110, 110], .str [98, 111, 98], .str [122], .str [97, 97]]), some (.int k), x7]) (o :: (rest ++ [.lst ((ws ++ [w]).map .str)])) := fun w o ho hw => by
        refine hY _ _ ⟨ws ++ [w], o, _, _, _, rfl, ho, rfl, fun v hv => ?_, by simp; omega⟩
        rcases List.mem_append.mp hv with hv | hv
        · exact hws v hv
        · rw [List.mem_singleton.mp hv]; exact hw
      by_cases hk0 : k = 0
      · simp [hk0]
        refine (hw 8 (by omega) (by omega)).at ho2 hr2 fun a o3 ⟨w, e, h8, l8⟩ ho3 => ?_
        subst e
        simp [show ws.length < 16777216 by omega]
        have := fin w o3 ho3 ⟨h8, l8⟩
        rw [hk0] at this
        simpa using this
      · simp [hk0]
        refine hp.lst (by simp) (by simp) rfl ho2 hr2 fun v o3 hv ho3 => ?_
        simp [show ws.length < 16777216 by omega]
        obtain ⟨w, rfl, hw⟩ : ∃ w, v = .str w ∧ Nm w := by
          simp at hv
          rcases hv with rfl | rfl | rfl | rfl | rfl | rfl <;> exact ⟨_, rfl, ⟨by simp, by decide⟩, by simp⟩
        have := fin w o3 ho3 hw
        simpa using this
  | num =>
    simp [TX.b23, kdS]
    refine hd.at (by omega) (by omega) ho (stb_last hr rfl) fun r o1 hr1 ho1 => ?_
    simp [rngR_int (n := (r : Int)) (by omega) (by omega)]
    refine forL_sat (fun rem s st => ∃ (is : List Int) (o : PO) (x3 x6 x7 : Option PV), s = [some (.loc 0), some (.str [110, 117, 109, 98, 101, 114]), some (.int n), x3, some (.loc (rest.length + 1)), some (.lst [.str [97], .str [98], .str [97, 110, 110], .str [98, 111, 98], .str [122], .str [97, 97]]), x6, x7] ∧ SpO o ∧
        st = o :: (rest ++ [.lst (is.map .int)]) ∧ (∀ i ∈ is, 1 ≤ i ∧ i ≤ 1000000000000000001) ∧ is.length + rem.length = r) ?_ ?_ _ _ _ ⟨[], o1, none, none, none, rfl, ho1, by simp, by simp, by simp [rngL_length]⟩
    · rintro s st ⟨is, o, x3, x6, x7, rfl, ho, rfl, his, hl⟩
      simp at hl
      simp
      rw [srt_ints (is := is) (.inr ⟨_, rfl, by simp⟩) (by omega)]
      simp
      exact done (.num (srtO ltI is)) o _ ho rfl ⟨srtO_srt ordI is, fun i hi => his i (srtO_mem.mp hi)⟩ (by have := srtO_len (lt := ltI) is; simp [Mk.vs]; omega)
    · rintro y rem s st ⟨is, o, x3, x6, x7, rfl, ho, rfl, his, hl⟩ Y hY
      simp at hl
      have hr2 := stb_last hr (lbs_int is)
      try simp
      refine hd.at (by omega) (by omega) ho hr2 fun k o2 hk ho2 => ?_
      have fin : ∀ (i : Int) (o : PO) (x7 : Option PV), SpO o → 1 ≤ i ∧ i ≤ 1000000000000000001 → Y (.nx [some (.loc 0), some (.str [110, 117, 109, 98, 101, 114]), some (.int n), some y, some (.loc (rest.length + 1)), some (.lst [.str [97], .str [98], .str [97, 110, 110], .str [98, 111, 98], .str [122], .str [97, 97]]), some (.int k), x7]) (o :: (rest ++ [.lst ((is ++ [i]).map .int)])) := fun w o x7 ho hw => by
        refine hY _ _ ⟨is ++ [w], o, _, _, _, rfl, ho, rfl, fun v hv => ?_, by simp; omega⟩
        rcases List.mem_append.mp hv with hv | hv
        · exact his v hv
        · rw [List.mem_singleton.mp hv]; exact hw
      by_cases hk2 : k < 2
      · simp [hk2]
        refine hd.at (by omega) (by omega) ho2 hr2 fun j o3 hj ho3 => ?_
        simp [show is.length < 16777216 by omega]
        have := fin (1 + j) o3 x7 ho3 (by omega)
        simpa using this
      · simp [hk2]
        refine hd.at (by omega) (by omega) ho2 hr2 fun j o3 hj ho3 => ?_
        simp
        by_cases hk3 : k = 2
        · simp [hk3, show is.length < 16777216 by omega]
          have := fin (1 + (1000000000000000000 - (j : Int))) o3 (some (.int (1000000000000000000 - (j : Int)))) ho3 (by omega)
          rw [hk3] at this
          simpa using this
        · simp [hk3]
          refine hd.at (by omega) (by omega) ho3 hr2 fun i o4 hi ho4 => ?_
          simp [show is.length < 16777216 by omega]
          have := fin (1 + (i : Int)) o4 (some (.int (1000000000000000000 - (j : Int)))) ho4 (by omega)
          simpa using this
/-- a field with its marks -/
structure Fld where
  nm : List Nat
  mr : Mk
def fldV (f : Fld) : PV := .tup [.str f.nm, .str (kdS f.mr.kd)]
def fldsV (fs : List Fld) : PV := .tup (fs.map fldV)
def houseV (fs : List Fld) : PV := .lst [fldsV fs, .lst (fs.map fun f => mkV f.mr)]
def cellsN : List Fld → Nat
  | [] => 1
  | f :: fs => (f.mr.vs.length + 1) * cellsN fs
theorem cells_app (fs gs : List Fld) : cellsN (fs ++ gs) = cellsN fs * cellsN gs := by
  induction fs with
  | nil => simp [cellsN]
  | cons f fs ih => simp [cellsN, ih, Nat.mul_assoc]
structure HsOk (most : Nat) (fs : List Fld) : Prop where
  ne : fs ≠ []
  few : fs.length ≤ most
  asc : (fs.map Fld.nm).Pairwise (· < ·)
  nm : ∀ f ∈ fs, Nm f.nm
  mr : ∀ f ∈ fs, f.mr.ok
  five : ∀ f ∈ fs, f.mr.vs.length ≤ 5
theorem fldV_lb (f : Fld) : PL.lb 0 (fldV f) = true := rfl
theorem lbs_map {A : Type} {g : A → PV} {l : List A} (h : ∀ a ∈ l, PL.lb 0 (g a) = true) : lbs 0 (l.map g) = true := lbs_all.mpr fun x hx => by
  obtain ⟨a, ha, rfl⟩ := List.mem_map.mp hx
  exact h a ha
theorem lbs_flds (fs : List Fld) : lbs 0 (fs.map fldV) = true := lbs_map fun f _ => fldV_lb f
theorem lbs_mks (fs : List Fld) : lbs 0 (fs.map fun f => mkV f.mr) = true := lbs_map fun f _ => f.mr.lb
theorem houseV_lb (fs : List Fld) : PL.lb 0 (houseV fs) = true := by
  show (lbs 0 (fs.map fldV) && (lbs 0 (fs.map fun f => mkV f.mr) && true)) = true
  rw [lbs_flds, lbs_mks]; rfl
theorem stb_last2 {rest : Sto} {xs ys : List PV} (hr : StB (rest.length + 1) rest) (hx : lbs 0 xs = true) (hy : lbs 0 ys = true) : StB ((rest ++ [PO.lst xs, PO.lst ys]).length + 1) (rest ++ [PO.lst xs, PO.lst ys]) := by
  refine StB.append (hr.mono (by simp)) fun o ho => ?_
  simp only [List.mem_cons, List.not_mem_nil, or_false] at ho
  rcases ho with rfl | rfl
  · exact lbs_mono (Nat.zero_le _) hx
  · exact lbs_mono (Nat.zero_le _) hy
def HouseOk (F : Fn) : Prop := ∀ most room : Nat, 0 < most → most < 4000 → 1 ≤ room → room ≤ 1000000 → Draws F [.int most, .int room] (fun v => ∃ fs, v = houseV fs ∧ HsOk most fs ∧ cellsN fs ≤ room)
theorem house_ok (hp : PickOk (T 7)) (h21 : NamesOk (T 21)) (h23 : MarksOk (T 23)) : HouseOk (run T fu 8 3 false TX.b24) := by
  intro most room h0 h1 h2 h3 o rest ho hr
  refine run_sat rfl fun Z hZ => ?_
  simp [TX.b24]
  refine (h21 most h0 h1).at ho (stb_last2 hr rfl rfl) fun v o1 ⟨ws, e, n1, n2, n3, n4⟩ ho1 => ?_
  subst e
  simp
  refine forL_sat (fun rem s st => ∃ (us : List (List Nat)) (fs : List Fld) (o : PO) (rm : Nat) (x3 x6 x7 : Option PV), rem = us.map .str ∧ fs.map Fld.nm ++ us = ws ∧ s = [some (.loc 0), some (.int most), some (.int rm), x3, some (.loc (rest.length + 1)), some (.loc (rest.length + 1 + 1)), x6, x7] ∧ SpO o ∧
      st = o :: (rest ++ [.lst (fs.map fldV), .lst (fs.map fun f => mkV f.mr)]) ∧ (∀ f ∈ fs, f.mr.ok ∧ f.mr.vs.length ≤ 5) ∧ 1 ≤ rm ∧ cellsN fs * rm ≤ room) ?_ ?_ _ _ _ ⟨ws, [], o1, room, none, none, none, rfl, rfl, rfl, ho1, rfl, by simp, h2, by simp [cellsN]⟩
  · rintro s st ⟨us, fs, o, rm, x3, x6, x7, e, hw, rfl, ho, rfl, hf, hrm, hc⟩
    have hu : us = [] := by cases us with | nil => rfl | cons a b => cases e
    subst hu
    rw [List.append_nil] at hw
    have lf : fs.length ≤ most := by rw [← hw, List.length_map] at n2; exact n2
    simp
    refine hZ _ _ ?_
    show (dropRes (rest.length + 1) (.ok _ _)).wp _ _
    have et : (o :: (rest ++ [PO.lst (fs.map fldV), PO.lst (fs.map fun f => mkV f.mr)])).take (rest.length + 1) = o :: rest := by simp
    rw [dropRes_gen (u := houseV fs) ?_ (by rw [et]; exact StB.cons (ho.olb _) hr), et, s_ok]
    · refine ⟨⟨fs, rfl, ⟨fun z => n1 ?_, lf, by rw [hw]; exact n3, fun f hf2 => n4 _ (by rw [← hw]; exact List.mem_map.mpr ⟨f, hf2, rfl⟩), fun f hf2 => (hf f hf2).1, fun f hf2 => (hf f hf2).2⟩, ?_⟩, o, ho, rfl⟩
      · rw [z] at hw; exact hw.symm
      · exact Nat.le_trans (Nat.le_mul_of_pos_right _ hrm) hc
    · have r1 : mapLoc (resAt (rest.length + 1) (o :: (rest ++ [PO.lst (fs.map fldV), PO.lst (fs.map fun f => mkV f.mr)])) 8) (.tup (fs.map fldV)) = some (.tup (fs.map fldV)) := mapLoc_lb (k := 0) (fun m h => absurd h (Nat.not_lt_zero _)) (lbs_flds fs)
      have r2 : mapLoc (resAt (rest.length + 1) (o :: (rest ++ [PO.lst (fs.map fldV), PO.lst (fs.map fun f => mkV f.mr)])) 8) (.loc (rest.length + 1 + 1)) = some (.lst (fs.map fun f => mkV f.mr)) :=
        resAt_new (by omega) (by simp) (lbs_mono (Nat.zero_le _) (lbs_mks fs))
      show (mapLocs _ [.tup (fs.map fldV), .loc (rest.length + 1 + 1)]).map PV.lst = _
      simp only [mapLocs, r1, r2, Option.bind_some, Option.map_some]
      rfl
  · rintro y rem s st ⟨us, fs, o, rm, x3, x6, x7, e, hw, rfl, ho, rfl, hf, hrm, hc⟩ Y hY
    cases us with
    | nil => cases e
    | cons u us =>
      obtain ⟨rfl, rfl⟩ : y = .str u ∧ rem = us.map .str := List.cons.inj e
      have hr2 := stb_last2 hr (lbs_flds fs) (lbs_mks fs)
      have rml : rm ≤ room := Nat.le_trans (Nat.le_mul_of_pos_left _ (by
        have : ∀ fs, 0 < cellsN fs := by
          intro fs
          induction fs with
          | nil => simp [cellsN]
          | cons f fs ih => exact Nat.mul_pos (Nat.succ_pos _) ih
        exact this fs)) hc
      try simp
      refine hp.lst (by simp) (by simp) rfl ho hr2 fun kv o2 hkv ho2 => ?_
      obtain ⟨kd, rfl⟩ : ∃ kd, kv = .str (kdS kd) := by
        simp at hkv
        rcases hkv with rfl | rfl | rfl | rfl | rfl
        · exact ⟨.num, rfl⟩
        · exact ⟨.wrd, rfl⟩
        · exact ⟨.flg, rfl⟩
        · exact ⟨.num, rfl⟩
        · exact ⟨.wrd, rfl⟩
      try simp
      have emin : (if (5 : Int) < (rm : Int) - 1 then 5 else (rm : Int) - 1) = ((min (rm - 1) 5 : Nat) : Int) := by split <;> omega
      rw [emin]
      refine (h23 kd (min (rm - 1) 5) (by omega)).at ho2 hr2 fun mv o3 ⟨m, e1, e2, e3, e4⟩ ho3 => ?_
      subst e1
      have el : (m.vs.length : Int) + 1 < 2305843009213693952 := by omega
      have flen : fs.length < 16777216 := by
        have : fs.length ≤ ws.length := by rw [← hw]; simp
        omega
      simp [mkV, bin_div (i := (rm : Int)) (show 0 < (m.vs.length : Int) + 1 by omega) el, flen]
      have ediv : (rm : Int) / ((m.vs.length : Int) + 1) = ((rm / (m.vs.length + 1) : Nat) : Int) := by simp
      rw [ediv]
      subst e2
      refine hY _ _ ⟨us, fs ++ [⟨u, m⟩], o3, rm / (m.vs.length + 1), _, _, _, rfl, by simp; simpa using hw, rfl, ho3, by simp [fldV, mkV], fun f hf2 => ?_, ?_, ?_⟩
      · rcases List.mem_append.mp hf2 with z | z
        · exact hf f z
        · rw [List.mem_singleton.mp z]; exact ⟨e3, by show m.vs.length ≤ 5; omega⟩
      · exact (Nat.le_div_iff_mul_le (by omega)).mpr (by omega)
      · rw [cells_app]
        have q1 : cellsN [⟨u, m⟩] = m.vs.length + 1 := by simp [cellsN]
        rw [q1, Nat.mul_assoc]
        exact Nat.le_trans (Nat.mul_le_mul_left _ (Nat.mul_div_le _ _)) hc
end
end MP.PL

/-! PL, part j: tests and requests; what a test says of a request. -/
namespace MP.PL
open PySem L2
inductive Vl where
  | n (i : Int)
  | w (s : List Nat)
  | b (t : Bool)
  deriving DecidableEq
def vlV : Vl → PV
  | .n i => .int i
  | .w s => .str s
  | .b t => .bl t
def Vl.fits : Kd → Vl → Prop
  | .num, .n i => 0 ≤ i
  | .wrd, .w s => isW s
  | .flg, .b _ => True
  | _, _ => False
inductive Tst where
  | any
  | isn (nm : List Nat) (v : Vl)
  | bel (nm : List Nat) (n : Int)
  | amo (nm : List Nat) (ws : List (List Nat))
  | nt (t : Tst)
  | an (a b : Tst)
  | orr (a b : Tst)
def encT : Tst → PV
  | .any => .tup [.str [97, 110, 121]]
  | .isn nm v => .tup [.str [105, 115], .str nm, vlV v]
  | .bel nm n => .tup [.str [98, 101, 108, 111, 119], .str nm, .int n]
  | .amo nm ws => .tup [.str [97, 109, 111, 110, 103], .str nm, .tup (ws.map .str)]
  | .nt t => .tup [.str [110, 111, 116], encT t]
  | .an a b => .tup [.str [97, 110, 100], encT a, encT b]
  | .orr a b => .tup [.str [111, 114], encT a, encT b]
def Tst.dep : Tst → Nat
  | .nt t => t.dep + 1
  | .an a b => max a.dep b.dep + 1
  | .orr a b => max a.dep b.dep + 1
  | _ => 1
/-- names and kinds of a test go with the fields -/
def Tst.wf (fs : List Fld) : Tst → Prop
  | .any => True
  | .isn nm v => ∃ f ∈ fs, f.nm = nm ∧ v.fits f.mr.kd
  | .bel nm _ => ∃ f ∈ fs, f.nm = nm ∧ f.mr.kd = .num
  | .amo nm ws => (∃ f ∈ fs, f.nm = nm ∧ f.mr.kd = .wrd) ∧ ∀ w ∈ ws, isW w
  | .nt t => t.wf fs
  | .an a b => a.wf fs ∧ b.wf fs
  | .orr a b => a.wf fs ∧ b.wf fs
def reqV (rq : List Vl) : PV := .tup (rq.map vlV)
/-- a request of the fields -/
inductive Req : List Fld → List Vl → Prop
  | nil : Req [] []
  | cons {f fs v vs} : v.fits f.mr.kd → Req fs vs → Req (f :: fs) (v :: vs)
/-- the value of the field with a name -/
def valOf : List Fld → List Vl → List Nat → Option Vl
  | f :: fs, v :: vs, nm => if f.nm = nm then some v else valOf fs vs nm
  | _, _, _ => none
def idx : List Fld → List Nat → Nat
  | [], _ => 0
  | f :: fs, nm => if f.nm = nm then 0 else idx fs nm + 1
def so (fs : List Fld) (rq : List Vl) : Tst → Bool
  | .any => true
  | .isn nm v => decide (valOf fs rq nm = some v)
  | .bel nm n => match valOf fs rq nm with
    | some (.n i) => decide (i < n)
    | _ => false
  | .amo nm ws => match valOf fs rq nm with
    | some (.w s) => decide (s ∈ ws)
    | _ => false
  | .nt t => !so fs rq t
  | .an a b => so fs rq a && so fs rq b
  | .orr a b => so fs rq a || so fs rq b
theorem req_get : ∀ {fs : List Fld} {rq : List Vl} {nm : List Nat}, Req fs rq → (∃ f ∈ fs, f.nm = nm) → ∃ v f, f ∈ fs ∧ f.nm = nm ∧ valOf fs rq nm = some v ∧ rq[idx fs nm]? = some v ∧ v.fits f.mr.kd ∧ idx fs nm < fs.length
  | _, _, _, .nil, ⟨f, hf, _⟩ => by cases hf
  | f :: fs, v :: vs, nm, .cons h t, hm => by
    by_cases e : f.nm = nm
    · exact ⟨v, f, List.mem_cons_self, e, by simp [valOf, e], by simp [idx, e], h, by simp [idx, e]⟩
    · obtain ⟨g, hg, e2⟩ := hm
      have hg2 : g ∈ fs := by
        rcases List.mem_cons.mp hg with rfl | hg
        · exact absurd e2 e
        · exact hg
      obtain ⟨u, f2, a1, a2, a3, a4, a5, a6⟩ := req_get t ⟨g, hg2, e2⟩
      exact ⟨u, f2, List.mem_cons_of_mem _ a1, a2, by simp [valOf, e, a3], by simp [idx, e, a4], a5, by simp [idx, e]; omega⟩
/-- names are unlike: the field by its name -/
theorem nm_uniq {fs : List Fld} (h : (fs.map Fld.nm).Pairwise (· < ·)) {f g : Fld} (hf : f ∈ fs) (hg : g ∈ fs) (e : f.nm = g.nm) : f = g := by
  induction fs with
  | nil => cases hf
  | cons x fs ih =>
    obtain ⟨h1, h2⟩ := List.pairwise_cons.mp h
    rcases List.mem_cons.mp hf with ef | mf
    · rcases List.mem_cons.mp hg with eg | mg
      · rw [ef, eg]
      · have := h1 g.nm (List.mem_map.mpr ⟨g, mg, rfl⟩)
        rw [← e, ef] at this
        exact absurd this (nlt_irr _)
    · rcases List.mem_cons.mp hg with eg | mg
      · have := h1 f.nm (List.mem_map.mpr ⟨f, mf, rfl⟩)
        rw [e, eg] at this
        exact absurd this (nlt_irr _)
      · exact ih h2 mf mg
theorem okData_lst {ds : List PyData} : okData (.list ds) = okData (.tuple ds) := rfl
theorem dstrs : ∀ l : List (List Nat), PV.datas (l.map .str) = some (l.map fun s => PyData.str ⟨s.toArray⟩)
  | [] => rfl
  | s :: l => by simp only [List.map_cons, PV.datas, PV.data, dstrs l]
theorem any_strs (s : List Nat) : ∀ l : List (List Nat), ((l.map fun s => PyData.str ⟨s.toArray⟩).any fun z => PyData.eqv z (.str ⟨s.toArray⟩)) = decide (s ∈ l)
  | [] => rfl
  | w :: l => by
    rw [List.map_cons, List.any_cons, any_strs s l, eqv_str]
    by_cases h : s = w
    · simp [h]
    · have : w ≠ s := fun z => h z.symm
      simp [h, this]
theorem in_strs {st : Sto} {s : List Nat} {ws : List (List Nat)} (h : okS s = true) (hw : ∀ w ∈ ws, okS w = true) : cmpP .In (.str s) (.tup (ws.map .str)) st = some (decide (s ∈ ws)) := by
  show (match dataAt st (.str s), seqOf st (.tup (ws.map .str)) with
      | some d, some (_, ys) => match PV.datas ys with
        | some ds => if okData d && okData (.list ds) then some (ds.any fun z => PyData.eqv z d) else none
        | none => none
      | _, _ => none) = _
  have e1 : dataAt st (.str s) = some (.str ⟨s.toArray⟩) := rfl
  simp only [e1, sq_tup, dstrs, okData_str h, (okData_strs hw).1, Bool.and_self, if_true]
  rw [any_strs]
theorem isW_okS {s : List Nat} (h : isW s) : okS s = true := by
  simp only [okS, List.all_eq_true, decide_eq_true_eq]
  exact fun c hc => low_lt (h.2 c hc)
section
variable {st : Sto}
@[simp] theorem c_eqb {a b : Bool} : cmpP .Eq (.bl a) (.bl b) st = some (decide (a = b)) := by cases a <;> cases b <;> rfl
@[simp] theorem all2 {a b : Bool} : biP .all [.lst [.bl a, .bl b]] st = some (.bl (a && b)) := by cases a <;> cases b <;> rfl
@[simp] theorem any2 {a b : Bool} : biP .any [.lst [.bl a, .bl b]] st = some (.bl (a || b)) := by cases a <;> cases b <;> rfl
@[simp] theorem in2f {a b : Bool} : cmpP .In (.bl false) (.lst [.bl a, .bl b]) st = some (!(a && b)) := by cases a <;> cases b <;> rfl
@[simp] theorem in2t {a b : Bool} : cmpP .In (.bl true) (.lst [.bl a, .bl b]) st = some (a || b) := by cases a <;> cases b <;> rfl
theorem repr_bl {a : Bool} : biP .repr [.bl a] st = some (.str (if a then [84, 114, 117, 101] else [70, 97, 108, 115, 101])) := by cases a <;> rfl
end
end MP.PL

/-! PL, part k: the place of a field; is_so and the law's own. -/
namespace MP.PL
open PySem L2
/-! ### the place of a field -/
def posL (nm : List Nat) (k : Nat) : List Fld → List Nat
  | [] => []
  | f :: fs => if f.nm = nm then k :: posL nm (k + 1) fs else posL nm (k + 1) fs
theorem posL_head : ∀ {fs : List Fld} {nm : List Nat} {k : Nat}, (∃ f ∈ fs, f.nm = nm) → ∃ l, posL nm k fs = (k + idx fs nm) :: l
  | [], _, _, ⟨f, hf, _⟩ => by cases hf
  | f :: fs, nm, k, hm => by
    by_cases e : f.nm = nm
    · exact ⟨posL nm (k + 1) fs, by simp [posL, idx, e]⟩
    · obtain ⟨g, hg, e2⟩ := hm
      have hg2 : g ∈ fs := by
        rcases List.mem_cons.mp hg with rfl | hg
        · exact absurd e2 e
        · exact hg
      obtain ⟨l, hl⟩ := posL_head (k := k + 1) ⟨g, hg2, e2⟩
      exact ⟨l, by simp [posL, idx, e, hl]; omega⟩
theorem posL_len (nm : List Nat) : ∀ (fs : List Fld) (k : Nat), (posL nm k fs).length ≤ fs.length
  | [], _ => by simp [posL]
  | f :: fs, k => by
    have := posL_len nm fs (k + 1)
    unfold posL
    split <;> simp <;> omega
section
variable {T : Tab} {fu : Nat} {s : Env} {st : Sto}
@[simp] theorem turnC_pairif {e c : RE} {i j : Nat} {own : List Nat} {x y : PV} : turnC T e (.pair (.name i) (.name j)) own (.yes c) s (.tup [x, y]) st = (evE T c (((wipeE s own).set i (some x)).set j (some y)) st).bnd fun v st3 => condR (truP st3 v) ((evE T e (((wipeE s own).set i (some x)).set j (some y)) st3).bnd fun y st4 => .ok [y] st4) (.ok [] st3) := by
  unfold turnC
  simp only [bindT, o_yes, Res.bnd_assoc, Res.bnd_ok, Option.bind_some]
theorem compL_enum {f : PV → Sto → Res (List PV)} {nm : List Nat} : ∀ (fs : List Fld) (k : Nat), (∀ (k : Nat) (fl : Fld), f (.tup [.int k, fldV fl]) st = .ok (if fl.nm = nm then [.int k] else []) st) → compL f (enumL k (fs.map fldV)) st = .ok ((posL nm k fs).map fun (j : Nat) => PV.int j) st
  | [], _, _ => rfl
  | fl :: fs, k, h => by
    show (f (.tup [.int k, fldV fl]) st).bnd _ = _
    have ih := compL_enum fs (k + 1) h
    have e : ((k : Int) + 1) = ((k + 1 : Nat) : Int) := by omega
    rw [h, Res.bnd_ok, e, ih, Res.bnd_ok, show posL nm k (fl :: fs) = if fl.nm = nm then k :: posL nm (k + 1) fs else posL nm (k + 1) fs from by simp only [posL]]
    split <;> simp
def PlaceOk (F : Fn) : Prop := ∀ (fs : List Fld) (nm : List Nat), fs.length ≤ 1000 → (∃ f ∈ fs, f.nm = nm) → Gives F [fldsV fs, .str nm] (.int (idx fs nm : Nat))
theorem place_ok : PlaceOk (run T fu 5 2 false TX.b35) := by
  intro fs nm hl hm
  refine gives_of rfl rfl fun st hs Z hZ => ?_
  have hz := hZ []
  rw [List.append_nil] at hz
  clear hZ
  simp [TX.b35, e_lc, fldsV]
  have e := compL_enum (f := turnC T (.var 3) (.pair (.name 3) (.name 4)) [3, 4] (.yes (.and (.isi (.var 1) .str) (.cmp .Eq (.sub (.var 4) (.cst (.int 0))) (.var 1)))) [some (.tup (fs.map fldV)), some (.str nm), none, none, none]) (st := st) (nm := nm) fs 0 (fun k fl => by
    simp [fldV]
    by_cases q : fl.nm = nm <;> simp [q])
  rw [show enumL ((0 : Nat) : Int) (fs.map fldV) = enumL 0 (fs.map fldV) from rfl] at e
  rw [e]
  obtain ⟨l, hl2⟩ := posL_head (k := 0) hm
  have ln := posL_len nm fs 0
  simp [show (posL nm 0 fs).length ≤ 16777216 by omega]
  rw [hl2]
  simp
  exact hz
/-! ### is_so -/
def SoAt (F : Fn) (fs : List Fld) (rq : List Vl) (t : Tst) : Prop := Gives F [fldsV fs, encT t, reqV rq] (.bl (so fs rq t))
theorem and_or {s : List Nat} (h : okS s = true) : cmpP .In (.str s) (.tup [.str [97, 110, 100], .str [111, 114]]) st = some (decide (s = [97, 110, 100] ∨ s = [111, 114])) := by
  have := in_strs (st := st) (s := s) (ws := [[97, 110, 100], [111, 114]]) h (by decide)
  simpa using this
theorem in_any : cmpP .In (.str [105, 115]) (.tup [.str [97, 110, 100], .str [111, 114]]) st = some false := by rw [and_or rfl]; rfl
theorem in_bel : cmpP .In (.str [98, 101, 108, 111, 119]) (.tup [.str [97, 110, 100], .str [111, 114]]) st = some false := by rw [and_or rfl]; rfl
theorem in_amo : cmpP .In (.str [97, 109, 111, 110, 103]) (.tup [.str [97, 110, 100], .str [111, 114]]) st = some false := by rw [and_or rfl]; rfl
theorem in_and : cmpP .In (.str [97, 110, 100]) (.tup [.str [97, 110, 100], .str [111, 114]]) st = some true := by rw [and_or rfl]; rfl
theorem in_or : cmpP .In (.str [111, 114]) (.tup [.str [97, 110, 100], .str [111, 114]]) st = some true := by rw [and_or rfl]; rfl
/-- a comprehension over two -/
theorem compL_two {f : PV → Sto → Res (List PV)} {a b x y : PV} (h1 : f a st = .ok [x] st) (h2 : f b st = .ok [y] st) : compL f [a, b] st = .ok [x, y] st := by
  simp [compL, h1, h2]
theorem vl_eq {u v : Vl} {k : Kd} (hu : u.fits k) (hv : v.fits k) : cmpP .Eq (vlV u) (vlV v) st = some (decide (u = v)) := by
  cases u <;> cases v <;> cases k <;> simp [Vl.fits] at hu hv <;> simp [vlV]
/-- what is left of a test on one field -/
theorem leaf_eval {fs : List Fld} {rq : List Vl} (asc : (fs.map Fld.nm).Pairwise (· < ·)) (hq : Req fs rq) {nm : List Nat} {f : Fld} (hf : f ∈ fs) (e1 : f.nm = nm) : ∃ u, valOf fs rq nm = some u ∧ (rq.map vlV)[idx fs nm]? = some (vlV u) ∧ u.fits f.mr.kd := by
  obtain ⟨u, g, g1, g2, g3, g4, g5, g6⟩ := req_get hq ⟨f, hf, e1⟩
  have := nm_uniq asc hf g1 (by rw [e1, g2])
  subst this
  exact ⟨u, g3, by rw [List.getElem?_map, g4]; rfl, g5⟩
theorem is_so_step {fs : List Fld} {rq : List Vl} (hl : fs.length ≤ 1000) (hq : Req fs rq) (asc : (fs.map Fld.nm).Pairwise (· < ·)) (h35 : PlaceOk (T 35)) (t : Tst) (hw : t.wf fs)
    (hs : ∀ u : Tst, u.dep < t.dep → u.wf fs → SoAt (T 102) fs rq u) : SoAt (run T fu 7 3 false TX.b102) fs rq t := by
  refine gives_of rfl rfl fun st hst Z hZ => ?_
  have hz := hZ []
  rw [List.append_nil] at hz
  clear hZ
  simp [TX.b102]
  cases t with
  | any => simp [encT]; exact hz
  | nt t =>
    simp [encT]
    refine (hs t (by simp [Tst.dep]) hw).at hst ?_
    simp
    exact hz
  | an a b =>
    simp [encT, in_and, e_lc]
    have ha := hs a (by simp [Tst.dep]; omega) hw.1 st hst
    have hb := hs b (by simp [Tst.dep]; omega) hw.2 st hst
    rw [compL_two (x := .bl (so fs rq a)) (y := .bl (so fs rq b)) (by simp [ha]) (by simp [hb])]
    simp
    exact hz
  | orr a b =>
    simp [encT, in_or, e_lc]
    have ha := hs a (by simp [Tst.dep]; omega) hw.1 st hst
    have hb := hs b (by simp [Tst.dep]; omega) hw.2 st hst
    rw [compL_two (x := .bl (so fs rq a)) (y := .bl (so fs rq b)) (by simp [ha]) (by simp [hb])]
    simp
    exact hz
  | isn nm v =>
    obtain ⟨f, hf, e1, e2⟩ := hw
    obtain ⟨u, g3, g4, g5⟩ := leaf_eval asc hq hf e1
    simp [encT, in_any]
    refine (h35 fs nm hl ⟨f, hf, e1⟩).at hst ?_
    simp [reqV, atI_nat]
    rw [List.getElem?_map] at g4
    simp [g4, vl_eq g5 e2]
    simp only [so, g3] at hz
    simpa using hz
  | bel nm n =>
    obtain ⟨f, hf, e1, e2⟩ := hw
    obtain ⟨u, g3, g4, g5⟩ := leaf_eval asc hq hf e1
    rw [e2] at g5
    cases u <;> simp [Vl.fits] at g5
    simp [encT, in_bel]
    refine (h35 fs nm hl ⟨f, hf, e1⟩).at hst ?_
    simp [reqV, atI_nat]
    rw [List.getElem?_map] at g4
    simp [g4, vlV]
    simp only [so, g3] at hz
    exact hz
  | amo nm ws =>
    obtain ⟨⟨f, hf, e1, e2⟩, e3⟩ := hw
    obtain ⟨u, g3, g4, g5⟩ := leaf_eval asc hq hf e1
    rw [e2] at g5
    cases u <;> simp [Vl.fits] at g5
    rename_i z
    simp [encT, in_amo]
    refine (h35 fs nm hl ⟨f, hf, e1⟩).at hst ?_
    simp [reqV, atI_nat]
    rw [List.getElem?_map] at g4
    simp [g4, vlV, in_strs (isW_okS g5) (fun w hw => isW_okS (e3 w hw))]
    simp only [so, g3] at hz
    exact hz
end
end MP.PL

/-! PL, part l: the law's own is_so. -/
namespace MP.PL
open PySem L2
section
variable {T : Tab} {fu : Nat} {s : Env} {st : Sto}
theorem find_idx : ∀ {fs : List Fld} {nm : List Nat}, (∃ f ∈ fs, f.nm = nm) → ((fs.map Fld.nm).map fun s => PyData.str ⟨s.toArray⟩).findIdx? (fun z => PyData.eqv z (.str ⟨nm.toArray⟩)) = some (idx fs nm)
  | [], _, ⟨f, hf, _⟩ => by cases hf
  | f :: fs, nm, hm => by
    rw [List.map_cons, List.map_cons, List.findIdx?_cons, eqv_str]
    by_cases e : f.nm = nm
    · simp [idx, e]
    · obtain ⟨g, hg, e2⟩ := hm
      have hg2 : g ∈ fs := by
        rcases List.mem_cons.mp hg with rfl | hg
        · exact absurd e2 e
        · exact hg
      rw [find_idx ⟨g, hg2, e2⟩]
      simp [idx, e]
theorem index_nm {fs : List Fld} {nm : List Nat} (hf : ∀ f ∈ fs, okS f.nm = true) (hm : ∃ f ∈ fs, f.nm = nm) : mthP .index (.lst (fs.map fun f => PV.str f.nm)) [.str nm] st = .ok (.int (idx fs nm : Nat)) st := by
  have hn : okS nm = true := by obtain ⟨f, h1, h2⟩ := hm; rw [← h2]; exact hf f h1
  have e1 : (fs.map fun f => PV.str f.nm) = (fs.map Fld.nm).map PV.str := by rw [List.map_map]; rfl
  have e2 : dataAt st (.str nm) = some (.str ⟨nm.toArray⟩) := rfl
  have ok : ∀ w ∈ fs.map Fld.nm, okS w = true := fun w hw => by
    obtain ⟨f, h1, rfl⟩ := List.mem_map.mp hw
    exact hf f h1
  rw [e1]
  simp only [mthP, sq_lst, e2, dstrs, okData_str hn, (okData_strs ok).1, Bool.and_self, if_true, find_idx hm]
@[simp] theorem mok_index {xs : List PV} : mOk .index (.lst xs) st = true := id rfl
theorem l_so_step {fs : List Fld} {rq : List Vl} (hl : fs.length ≤ 1000) (hq : Req fs rq) (asc : (fs.map Fld.nm).Pairwise (· < ·)) (hnm : ∀ f ∈ fs, Nm f.nm) (t : Tst) (hw : t.wf fs)
    (hs : ∀ u : Tst, u.dep < t.dep → u.wf fs → SoAt (T 103) fs rq u) : SoAt (run T fu 7 3 false TX.b103) fs rq t := by
  refine gives_of rfl rfl fun st hst Z hZ => ?_
  have hz := hZ []
  rw [List.append_nil] at hz
  clear hZ
  have hok : ∀ f ∈ fs, okS f.nm = true := fun f hf => isW_okS (hnm f hf).1
  have nms : ∀ s : Env, compL (turnC T (.sub (.var 6) (.cst (.int 0))) (.name 6) [6] .no [some (.tup (fs.map fldV)), s.getD 1 none, s.getD 2 none, s.getD 3 none, s.getD 4 none, s.getD 5 none, s.getD 6 none]) (fs.map fldV) st = .ok (fs.map fun f => PV.str f.nm) st := fun s =>
    compL_one fun f hf => by simp [fldV]
  simp [TX.b103]
  cases t with
  | any => simp [encT]; exact hz
  | nt t =>
    simp [encT]
    refine (hs t (by simp [Tst.dep]) hw).at hst ?_
    simp
    exact hz
  | an a b =>
    simp [encT, in_and, e_lc]
    have ha := hs a (by simp [Tst.dep]; omega) hw.1 st hst
    have hb := hs b (by simp [Tst.dep]; omega) hw.2 st hst
    rw [compL_two (x := .bl (so fs rq a)) (y := .bl (so fs rq b)) (by simp [ha]) (by simp [hb])]
    simp
    simpa [so] using hz
  | orr a b =>
    simp [encT, in_or, e_lc]
    have ha := hs a (by simp [Tst.dep]; omega) hw.1 st hst
    have hb := hs b (by simp [Tst.dep]; omega) hw.2 st hst
    rw [compL_two (x := .bl (so fs rq a)) (y := .bl (so fs rq b)) (by simp [ha]) (by simp [hb])]
    simp
    simpa [so] using hz
  | isn nm v =>
    obtain ⟨f, hf, e1, e2⟩ := hw
    obtain ⟨u, g3, g4, g5⟩ := leaf_eval asc hq hf e1
    simp [encT, in_any, e_lc, fldsV]
    have := nms [none, some (.tup [.str [105, 115], .str nm, vlV v]), some (reqV rq), none, none, none, none]
    simp at this
    rw [this]
    simp [show fs.length ≤ 16777216 by omega, index_nm hok ⟨f, hf, e1⟩, reqV, atI_nat]
    rw [List.getElem?_map] at g4
    simp [g4, vl_eq g5 e2]
    simp only [so, g3] at hz
    simpa using hz
  | bel nm n =>
    obtain ⟨f, hf, e1, e2⟩ := hw
    obtain ⟨u, g3, g4, g5⟩ := leaf_eval asc hq hf e1
    rw [e2] at g5
    cases u <;> simp [Vl.fits] at g5
    simp [encT, in_bel, e_lc, fldsV]
    have := nms [none, some (.tup [.str [98, 101, 108, 111, 119], .str nm, .int n]), some (reqV rq), none, none, none, none]
    simp at this
    rw [this]
    simp [show fs.length ≤ 16777216 by omega, index_nm hok ⟨f, hf, e1⟩, reqV, atI_nat]
    rw [List.getElem?_map] at g4
    simp [g4, vlV]
    simp only [so, g3] at hz
    exact hz
  | amo nm ws =>
    obtain ⟨⟨f, hf, e1, e2⟩, e3⟩ := hw
    obtain ⟨u, g3, g4, g5⟩ := leaf_eval asc hq hf e1
    rw [e2] at g5
    cases u <;> simp [Vl.fits] at g5
    rename_i z
    simp [encT, in_amo, e_lc, fldsV]
    have := nms [none, some (.tup [.str [97, 109, 111, 110, 103], .str nm, .tup (ws.map .str)]), some (reqV rq), none, none, none, none]
    simp at this
    rw [this]
    simp [show fs.length ≤ 16777216 by omega, index_nm hok ⟨f, hf, e1⟩, reqV, atI_nat]
    rw [List.getElem?_map] at g4
    simp [g4, vlV, in_strs (isW_okS g5) (fun w hw => isW_okS (e3 w hw))]
    simp only [so, g3] at hz
    exact hz
end
end MP.PL

/-! PL, part m: tests are drawn. -/
namespace MP.PL
open PySem L2
/-- a test tells marks of the fields alone -/
def Tst.told (fs : List Fld) : Tst → Prop
  | .any => True
  | .isn nm v => ∃ f ∈ fs, f.nm = nm ∧ (match f.mr, v with
    | .num ms, .n i => 0 ≤ i ∧ i ≤ 1000000000000000000 ∧ (i = 0 ∨ i ∈ ms) ∧ i + 1 ∈ ms
    | .wrd ws, .w s => s ∈ ws
    | .flg b, .b _ => b = true
    | _, _ => False)
  | .bel nm n => ∃ f ∈ fs, f.nm = nm ∧ ∃ ms, f.mr = .num ms ∧ 0 ≤ n ∧ n ≤ 1000000000000000000 ∧ (n = 0 ∨ n ∈ ms)
  | .amo nm us => ∃ f ∈ fs, f.nm = nm ∧ ∃ ws, f.mr = .wrd ws ∧ us.Sublist ws
  | .nt t => t.told fs
  | .an a b => a.told fs ∧ b.told fs
  | .orr a b => a.told fs ∧ b.told fs
theorem Tst.told.wf {fs : List Fld} (ok : ∀ f ∈ fs, f.mr.ok) : ∀ {t : Tst}, t.told fs → t.wf fs
  | .any, _ => trivial
  | .isn nm v, ⟨f, hf, e, h⟩ => by
    refine ⟨f, hf, e, ?_⟩
    have hk := ok f hf
    cases hm : f.mr with
    | num ms => rw [hm] at h; cases v <;> simp at h; exact h.1
    | wrd ws =>
      rw [hm] at h hk
      cases v <;> simp at h
      exact (hk.2 _ h).1
    | flg b => rw [hm] at h; cases v <;> simp at h; trivial
  | .bel nm n, ⟨f, hf, e, ms, e2, _⟩ => ⟨f, hf, e, by rw [e2]; rfl⟩
  | .amo nm us, ⟨f, hf, e, ws, e2, hs⟩ => by
    have hk := ok f hf
    rw [e2] at hk
    exact ⟨⟨f, hf, e, by rw [e2]; rfl⟩, fun w hw => (hk.2 w (hs.subset hw)).1⟩
  | .nt t, h => Tst.told.wf ok (t := t) h
  | .an a b, h => ⟨Tst.told.wf ok (t := a) h.1, Tst.told.wf ok (t := b) h.2⟩
  | .orr a b, h => ⟨Tst.told.wf ok (t := a) h.1, Tst.told.wf ok (t := b) h.2⟩
theorem vlV_lb (v : Vl) : lb 0 (vlV v) = true := by cases v <;> rfl
theorem encT_lb : ∀ t : Tst, lb 0 (encT t) = true
  | .any => rfl
  | .isn nm v => by show (true && (true && (lb 0 (vlV v) && true))) = true; rw [vlV_lb]; rfl
  | .bel _ _ => rfl
  | .amo nm ws => by show (true && (true && (lbs 0 (ws.map .str) && true))) = true; rw [lbs_str]; rfl
  | .nt t => by show (true && (lb 0 (encT t) && true)) = true; rw [encT_lb t]; rfl
  | .an a b => by show (true && (lb 0 (encT a) && (lb 0 (encT b) && true))) = true; rw [encT_lb a, encT_lb b]; rfl
  | .orr a b => by show (true && (lb 0 (encT a) && (lb 0 (encT b) && true))) = true; rw [encT_lb a, encT_lb b]; rfl
theorem dints : ∀ l : List Int, PV.datas (l.map .int) = some (l.map PyData.int)
  | [] => rfl
  | s :: l => by simp only [List.map_cons, PV.datas, PV.data, dints l]
theorem okData_ints : ∀ l : List Int, PyData.canLayAll0 (l.map PyData.int) = true ∧ PyData.depthAll (l.map PyData.int) = 0
  | [] => by simp [PyData.canLayAll0, PyData.depthAll]
  | s :: l => by
    obtain ⟨h1, h2⟩ := okData_ints l
    simp [PyData.canLayAll0, PyData.depthAll, PyData.canLay0, PyData.depth, h1, h2]
theorem any_ints (i : Int) : ∀ l : List Int, ((l.map PyData.int).any fun z => PyData.eqv z (.int i)) = decide (i ∈ l)
  | [] => rfl
  | w :: l => by
    rw [List.map_cons, List.any_cons, any_ints i l]
    have : PyData.eqv (.int w) (.int i) = decide (w = i) := by
      simp only [PyData.eqv]
      by_cases h : w = i <;> simp [h]
    rw [this]
    by_cases h : i = w
    · simp [h]
    · have : w ≠ i := fun z => h z.symm
      simp [h, this]
theorem in_ints {st : Sto} {i : Int} {ms : List Int} : cmpP .In (.int i) (.tup (ms.map .int)) st = some (decide (i ∈ ms)) := by
  show (match dataAt st (.int i), seqOf st (.tup (ms.map .int)) with
      | some d, some (_, ys) => match PV.datas ys with
        | some ds => if okData d && okData (.list ds) then some (ds.any fun z => PyData.eqv z d) else none
        | none => none
      | _, _ => none) = _
  have e1 : dataAt st (.int i) = some (.int i) := rfl
  have e2 : okData (.list (ms.map PyData.int)) = true := by
    show (PyData.canLayAll0 _ && decide (PyData.depthAll (ms.map PyData.int) + 1 ≤ 64)) = true
    rw [(okData_ints ms).1, (okData_ints ms).2]; rfl
  simp only [e1, sq_tup, dints, okData_int, e2, Bool.and_self, if_true]
  rw [any_ints]
section
variable {T : Tab} {fu : Nat}
theorem bin_rep {st : Sto} {xs : List PV} (h : xs.length ≤ 1000) : binP .Mult (.lst xs) (.int 3) st = some (.lst (List.replicate 3 xs).flatten) := by
  show (if 0 ≤ (3 : Int) ∧ (3 : Int) ≤ 100000 ∧ xs.length * (3 : Int).toNat ≤ sizeLine then _ else _) = _
  rw [if_pos ⟨by omega, by omega, by rw [szl]; show xs.length * 3 ≤ _; omega⟩]
  rfl
/-- some of the words, by a coin for each -/
theorem coin_comp (hd : DipOk (T 6)) {rest : Sto} (hr : StB (rest.length + 1) rest) {i : Nat} {ws : List (List Nat)} {s : Env} {o : PO} (ho : SpO o) (hi : 0 < i) (hl : i < s.length) (s0 : s[0]? = some (some (.loc 0))) {Q : List PV → Sto → Prop}
    (hQ : ∀ (us : List (List Nat)) (o' : PO), us.Sublist ws → SpO o' → Q (us.map .str) (o' :: rest)) :
    (calmR (compL (turnC T (.var i) (.name i) [i] (.yes (.cmp .Eq (.call 6 (.cons (.var 0) (.cons (.cst (.int 2)) .nil))) (.cst (.int 0)))) s) (ws.map .str) (o :: rest))).wp Q NoX := by
  refine calm_sat (compL_sat (fun rem ys st => ∃ (a b us : List (List Nat)) (o : PO), rem = b.map .str ∧ a ++ b = ws ∧ ys = us.map .str ∧ us.Sublist a ∧ SpO o ∧ st = o :: rest) ?_ _ [] _ _ ⟨[], ws, [], o, rfl, rfl, rfl, .slnil, ho, rfl⟩ ?_)
  · rintro y rem ys st ⟨a, b, us, o, e, hab, rfl, hsub, ho, rfl⟩
    cases b with
    | nil => cases e
    | cons v b =>
      obtain ⟨rfl, rfl⟩ : y = .str v ∧ rem = b.map .str := List.cons.inj e
      have s0' : ((s.set i none).set i (some (PV.str v)))[0]? = some (some (.loc 0)) := by
        rw [List.getElem?_set_ne (by omega), List.getElem?_set_ne (by omega)]; exact s0
      have s9' : ((s.set i none).set i (some (PV.str v)))[i]? = some (some (.str v)) := List.getElem?_set_self (by simpa using hl)
      rw [turnC_nameif, wipe_cons, wipe_nil]
      generalize (s.set i none).set i (some (PV.str v)) = s1 at s0' s9' ⊢
      simp [s0']
      refine hd.at (by omega) (by omega) ho hr fun k o2 hk ho2 => ?_
      by_cases hk0 : k = 0
      · have : ∃ (a2 b2 us2 : List (List Nat)) (o : PO), b.map PV.str = b2.map .str ∧ a2 ++ b2 = ws ∧ us.map PV.str ++ [PV.str v] = us2.map .str ∧ us2.Sublist a2 ∧ SpO o ∧ o2 :: rest = o :: rest := ⟨a ++ [v], b, us ++ [v], o2, rfl, by simp; exact hab, by simp, hsub.append (List.Sublist.refl _), ho2, rfl⟩
        simpa [hk0, s9'] using this
      · have : ∃ (a2 b2 us2 : List (List Nat)) (o : PO), b.map PV.str = b2.map .str ∧ a2 ++ b2 = ws ∧ us.map PV.str = us2.map .str ∧ us2.Sublist a2 ∧ SpO o ∧ o2 :: rest = o :: rest := ⟨a ++ [v], b, us, o2, rfl, by simp; exact hab, rfl, hsub.trans (List.sublist_append_left _ _), ho2, rfl⟩
        simpa [hk0] using this
  · rintro ys st ⟨a, b, us, o, e, hab, e2, hsub, ho, rfl⟩
    have : b = [] := by cases b with | nil => rfl | cons x y => cases e
    subst this
    rw [List.append_nil] at hab
    subst hab
    rw [List.nil_append] at e2
    subst e2
    exact hQ us o hsub ho
def PlainOk (F : Fn) : Prop := ∀ (most : Nat) (fs : List Fld), most ≤ 1000 → HsOk most fs → Draws F [houseV fs] (fun v => ∃ t : Tst, v = encT t ∧ t.told fs ∧ t.dep = 1)
theorem plain_ok (hd : DipOk (T 6)) (hp : PickOk (T 7)) : PlainOk (run T fu 11 2 false TX.b66) := by
  intro most fs hm hs o rest ho hr
  refine run_sat rfl fun Z hZ => ?_
  have done : ∀ (t : Tst) (o : PO), SpO o → t.told fs → t.dep = 1 → Z (.rt (encT t)) (o :: rest) := fun t o ho h1 h2 => hZ _ _ (endQ_draw0 (lb_mono (Nat.zero_le _) (encT_lb t)) ho hr ⟨t, rfl, h1, h2⟩)
  have hfew := hs.few
  have hpos : 0 < fs.length := List.length_pos_iff.mpr hs.ne
  simp [TX.b66, houseV, fldsV]
  refine hd.at (by omega) (by omega) ho hr fun r o1 hr1 ho1 => ?_
  obtain ⟨f, hf⟩ : ∃ f, fs[r]? = some f := ⟨_, List.getElem?_eq_getElem (by omega)⟩
  have fm : f ∈ fs := List.mem_of_getElem? hf
  have fok := hs.mr f fm
  have f5 := hs.five f fm
  simp [atI_nat, hf, fldV]
  refine hd.at (by omega) (by omega) ho1 hr fun w o2 hw ho2 => ?_
  by_cases hw0 : w = 0
  · subst hw0
    simp
    exact done .any o2 ho2 trivial rfl
  · simp [hw0]
    cases hk : f.mr with
    | flg b =>
      have kk : kdS f.mr.kd = [102, 108, 97, 103] := by rw [hk]; rfl
      have ow : mkV f.mr = .tup (if b then [.bl true] else []) := by rw [hk]; rfl
      rw [hk] at kk ow
      simp [kk, ow]
      cases b with
      | false =>
        simp
        exact done .any o2 ho2 trivial rfl
      | true =>
        simp
        exact done (.isn f.nm (.b (decide (4 < w)))) o2 ho2 ⟨f, fm, rfl, by rw [hk]⟩ rfl
    | wrd ws =>
      have kk : kdS f.mr.kd = [119, 111, 114, 100] := by rw [hk]; rfl
      have ow : mkV f.mr = .tup (ws.map .str) := by rw [hk]; rfl
      rw [hk] at fok f5 kk ow
      simp only [Mk.vs, List.length_map] at f5
      simp [kk, ow]
      generalize PV.lst [PV.tup (List.map fldV fs), PV.lst (List.map (fun f => mkV f.mr) fs)] = HV
      have among : ∀ o, SpO o → (evB T fu (.cons (.ret (.tup (.cons (.cst (.str [97, 109, 111, 110, 103])) (.cons (.var 4) (.cons (.bi .tuple (.cons (.lc (.var 9) (.name 9) [9] (.seq (.var 6)) (.yes (.cmp .Eq (.call 6 (.cons (.var 0) (.cons (.cst (.int 2)) .nil))) (.cst (.int 0))))) .nil)) .nil))))) .nil) [some (.loc 0), some HV, some (.int r), none, some (.str f.nm), some (.str [119, 111, 114, 100]), some (.tup (ws.map .str)), some (.int w), none, none, none] (o :: rest)).wp (fun a st => (nextR T fu .nil a st).wp Z NoX) NoX := fun o ho => by
        simp [e_lc]
        refine coin_comp hd hr ho (by omega) (by simp) rfl fun us o' hu ho' => ?_
        have := hu.length_le
        simp [show us.length ≤ 16777216 by omega]
        exact done (.amo f.nm us) o' ho' ⟨f, fm, rfl, ws, hk, hu⟩ rfl
      by_cases hw1 : ws = []
      · have := among o2 ho2
        simp [hw1] at this ⊢
        simpa using this
      · by_cases hw5 : w < 5
        · simp [hw1, hw5]
          refine hp.tup (by simpa using hw1) (by simp; omega) (lbs_str ws) ho2 hr fun v o3 hv ho3 => ?_
          obtain ⟨u, hu, rfl⟩ := List.mem_map.mp hv
          try simp
          exact done (.isn f.nm (.w u)) o3 ho3 ⟨f, fm, rfl, by rw [hk]; exact hu⟩ rfl
        · have := among o2 ho2
          simp [hw1, hw5] at this ⊢
          simpa using this
    | num ms =>
      have kk : kdS f.mr.kd = [110, 117, 109, 98, 101, 114] := by rw [hk]; rfl
      have ow : mkV f.mr = .tup (ms.map .int) := by rw [hk]; rfl
      rw [hk] at fok f5 kk ow
      simp only [Mk.vs, List.length_map] at f5
      simp [kk, ow]
      generalize PV.lst [PV.tup (List.map fldV fs), PV.lst (List.map (fun f => mkV f.mr) fs)] = HV
      simp [bin_tup, show ms.length + 1 ≤ 16777216 by omega, show 1 + ms.length ≤ 16777216 by omega, e_lc]
      have e8 := compL_filter (f := turnC T (.var 8) (.name 8) [8] (.yes (.and (.cmp .In (.bin .Add (.var 8) (.cst (.int 1))) (.var 6)) (.cmp .LtE (.var 8) (.bin .Pow (.cst (.int 10)) (.cst (.int 18)))))) [some (.loc 0), some HV, some (.int r), none, some (.str f.nm), some (.str [110, 117, 109, 98, 101, 114]), some (.tup (ms.map .int)), some (.int w), none, none, none])
        (st := o2 :: rest) (h := PV.int) (g := PV.int) (p := fun i => decide (i + 1 ∈ ms) && decide (i ≤ 1000000000000000000)) (xs := 0 :: ms) (fun i hi => by
          simp [in_ints]
          by_cases q1 : i + 1 ∈ ms
          · by_cases q2 : i ≤ 1000000000000000000 <;> simp [q1, q2]
          · simp [q1])
      rw [List.map_cons] at e8
      rw [e8]
      have fl : ((0 :: ms).filter fun i => decide (i + 1 ∈ ms) && decide (i ≤ 1000000000000000000)).length ≤ 6 := by
        have := List.length_filter_le (fun i => decide (i + 1 ∈ ms) && decide (i ≤ 1000000000000000000)) (0 :: ms)
        simp at this ⊢
        omega
      have fmem : ∀ i ∈ ((0 :: ms).filter fun i => decide (i + 1 ∈ ms) && decide (i ≤ 1000000000000000000)), 0 ≤ i ∧ i ≤ 1000000000000000000 ∧ (i = 0 ∨ i ∈ ms) ∧ i + 1 ∈ ms := fun i hi => by
        obtain ⟨h1, h2⟩ := List.mem_filter.mp hi
        simp only [Bool.and_eq_true, decide_eq_true_eq] at h2
        rcases List.mem_cons.mp h1 with rfl | h1
        · exact ⟨by omega, h2.2, .inl rfl, h2.1⟩
        · have := (fok.2 i h1).1
          exact ⟨by omega, h2.2, .inr h1, h2.1⟩
      generalize ((0 :: ms).filter fun i => decide (i + 1 ∈ ms) && decide (i ≤ 1000000000000000000)) = vs at fl fmem ⊢
      simp [show vs.length ≤ 16777216 by omega]
      have below : ∀ (x3 : Option PV) (o : PO), SpO o → (evB T fu (.cons (.ret (.tup (.cons (.cst (.str [98, 101, 108, 111, 119])) (.cons (.var 4) (.cons (.call 7 (.cons (.var 0) (.cons (.bin .Add (.lst (.cons (.cst (.int 0)) .nil)) (.bin .Mult (.lc (.var 10) (.name 10) [10] (.seq (.var 6)) (.yes (.cmp .LtE (.var 10) (.bin .Pow (.cst (.int 10)) (.cst (.int 18)))))) (.cst (.int 3)))) .nil))) .nil))))) .nil)
          [some (.loc 0), some HV, some (.int r), x3, some (.str f.nm), some (.str [110, 117, 109, 98, 101, 114]), some (.tup (ms.map .int)), some (.int w), none, none, none] (o :: rest)).wp Z NoX := fun x3 o ho => by
        simp [e_lc]
        rw [compL_filter (g := PV.int) (p := fun i => decide (i ≤ 1000000000000000000)) (fun i hi => by
          simp
          by_cases q2 : i ≤ 1000000000000000000 <;> simp [q2])]
        have l2 : (ms.filter fun i => decide (i ≤ 1000000000000000000)).length ≤ 5 := Nat.le_trans (List.length_filter_le _ _) f5
        have m2 : ∀ i ∈ (ms.filter fun i => decide (i ≤ 1000000000000000000)), 0 ≤ i ∧ i ≤ 1000000000000000000 ∧ (i = 0 ∨ i ∈ ms) := fun i hi => by
          obtain ⟨h1, h2⟩ := List.mem_filter.mp hi
          have := (fok.2 i h1).1
          exact ⟨by omega, by simpa using h2, .inr h1⟩
        generalize (ms.filter fun i => decide (i ≤ 1000000000000000000)) = us at l2 m2 ⊢
        have l3 : (List.replicate 3 (us.map PV.int)).flatten.length ≤ 15 := by simp; omega
        simp only [calm_ok, Res.bnd_ok, List.length_map, if_pos (show us.length ≤ 16777216 by omega), bin_rep (xs := us.map PV.int) (by rw [List.length_map]; omega), optR_some, s_bnd, s_ok]
        rw [bin_lst (by simp only [List.length_cons, List.length_nil]; omega)]
        simp only [optR_some, s_ok]
        have mem : ∀ v ∈ [PV.int 0] ++ (List.replicate 3 (us.map PV.int)).flatten, ∃ i, v = .int i ∧ 0 ≤ i ∧ i ≤ 1000000000000000000 ∧ (i = 0 ∨ i ∈ ms) := fun v hv => by
          rcases List.mem_append.mp hv with z | z
          · exact ⟨0, List.mem_singleton.mp z, by omega, by omega, .inl rfl⟩
          · obtain ⟨l, hl, hv2⟩ := List.mem_flatten.mp z
            rw [(List.mem_replicate.mp hl).2] at hv2
            obtain ⟨i, hi, rfl⟩ := List.mem_map.mp hv2
            exact ⟨i, rfl, m2 i hi⟩
        refine hp.lst (by simp) (by simp only [List.length_append, List.length_cons, List.length_nil]; omega) (lbs_all.mpr fun v hv => by obtain ⟨i, rfl, _⟩ := mem v hv; rfl) ho hr fun v o3 hv ho3 => ?_
        obtain ⟨i, rfl, hi⟩ := mem v hv
        try simp
        exact done (.bel f.nm i) o3 ho3 ⟨f, fm, rfl, ms, hk, hi⟩ rfl
      by_cases hv0 : vs = []
      · have := below (some (.lst (vs.map .int))) o2 ho2
        simp [hv0] at this ⊢
        simpa using this
      · by_cases hw5 : w < 5
        · simp [hv0, hw5]
          refine hp.lst (by simpa using hv0) (by simp; omega) (lbs_int vs) ho2 hr fun v o3 hv ho3 => ?_
          obtain ⟨i, hi, rfl⟩ := List.mem_map.mp hv
          try simp
          exact done (.isn f.nm (.n i)) o3 ho3 ⟨f, fm, rfl, by rw [hk]; exact fmem i hi⟩ rfl
        · have := below (some (.lst (vs.map .int))) o2 ho2
          simp [hv0, hw5] at this ⊢
          simpa using this
end
end MP.PL

/-! PL, part n: nested tests and requests are drawn. -/
namespace MP.PL
open PySem L2
section
variable {T : Tab} {fu : Nat}
def TestAt (F : Fn) (most : Nat) (fs : List Fld) (d : Nat) : Prop := Draws F [houseV fs, .int d] (fun v => ∃ t : Tst, v = encT t ∧ t.told fs ∧ t.dep ≤ d)
theorem test_step {most d : Nat} {fs : List Fld} (hm : most ≤ 1000) (hs : HsOk most fs) (h1 : 1 ≤ d) (hd : DipOk (T 6)) (hpl : PlainOk (T 66)) (ht : 2 ≤ d → TestAt (T 67) most fs (d - 1)) : TestAt (run T fu 5 3 false TX.b67) most fs d := by
  intro o rest ho hr
  refine run_sat rfl fun Z hZ => ?_
  have done : ∀ (t : Tst) (o : PO), SpO o → t.told fs → t.dep ≤ d → Z (.rt (encT t)) (o :: rest) := fun t o ho h1 h2 => hZ _ _ (endQ_draw0 (lb_mono (Nat.zero_le _) (encT_lb t)) ho hr ⟨t, rfl, h1, h2⟩)
  have plain : ∀ o, SpO o → (T 66 [.loc 0, houseV fs] (o :: rest)).wp (fun a st => Z (.rt a) st) NoX := fun o ho =>
    (hpl most fs hm hs).at ho hr fun v o' ⟨t, e, h2, h3⟩ ho' => by subst e; exact done t o' ho' h2 (by omega)
  generalize hHV : houseV fs = HV at plain
  simp [TX.b67]
  by_cases hd1 : 1 < d
  · simp [hd1]
    refine hd.at (by omega) (by omega) ho hr fun w o1 hw ho1 => ?_
    have hsub : ((d : Int) - 1) = ((d - 1 : Nat) : Int) := by omega
    have rec' := ht (by omega)
    unfold TestAt at rec'
    rw [hHV] at rec'
    by_cases h3 : w < 3
    · simp [h3]
      exact plain o1 ho1
    · by_cases h4 : w = 3
      · simp [h4, hsub]
        refine rec'.at ho1 hr fun v o2 ⟨t, e, g1, g2⟩ ho2 => ?_
        subst e
        try simp
        exact done (.nt t) o2 ho2 g1 (by simp [Tst.dep]; omega)
      · simp [h3, h4, hsub]
        refine rec'.at ho1 hr fun v o2 ⟨t, e, g1, g2⟩ ho2 => ?_
        subst e
        have e2 : (w : Int) % 2 = ((w % 2 : Nat) : Int) := by omega
        simp [bin_mod]
        rw [e2, atI_nat]
        have two : w % 2 = 0 ∨ w % 2 = 1 := by omega
        rcases two with q | q
        · simp [q, hsub]
          refine rec'.at ho2 hr fun v o3 ⟨t2, e, g3, g4⟩ ho3 => ?_
          subst e
          try simp
          exact done (.an t t2) o3 ho3 ⟨g1, g3⟩ (by simp [Tst.dep]; omega)
        · simp [q, hsub]
          refine rec'.at ho2 hr fun v o3 ⟨t2, e, g3, g4⟩ ho3 => ?_
          subst e
          try simp
          exact done (.orr t t2) o3 ho3 ⟨g1, g3⟩ (by simp [Tst.dep]; omega)
  · simp [hd1]
    exact plain o ho
/-! ### requests -/
def shortV : Vl → Prop
  | .w s => s.length ≤ 12
  | .n i => i ≤ 1000000000000000000000000000000000000000
  | _ => True
theorem Req.append {fs gs : List Fld} {vs ws : List Vl} (h : Req fs vs) (g : Req gs ws) : Req (fs ++ gs) (vs ++ ws) := by
  induction h with
  | nil => exact g
  | cons a _ ih => exact .cons a ih
theorem reqs_lb (rq : List Vl) : lbs 0 (rq.map vlV) = true := lbs_map fun v _ => vlV_lb v
theorem Req.length {fs : List Fld} {vs : List Vl} (h : Req fs vs) : vs.length = fs.length := by
  induction h with
  | nil => rfl
  | cons _ _ ih => simp [ih]
def RequestOk (F : Fn) : Prop := ∀ (most : Nat) (fs : List Fld), most ≤ 1000 → HsOk most fs → Draws F [houseV fs] (fun v => ∃ rq, v = reqV rq ∧ Req fs rq ∧ ∀ u ∈ rq, shortV u)
theorem request_ok (hd : DipOk (T 6)) (hp : PickOk (T 7)) (hw : WordOk (T 8)) : RequestOk (run T fu 10 2 false TX.b25) := by
  intro most fs hm hs o rest ho hr
  refine run_sat rfl fun Z hZ => ?_
  have hfew := hs.few
  have hpos : 0 < fs.length := List.length_pos_iff.mpr hs.ne
  simp [TX.b25]
  have s0 : subP (houseV fs) (.int 0) (o :: (rest ++ [PO.lst []])) = some (fldsV fs) := by simp [houseV]
  simp [s0, fldsV]
  have gH : ∀ st, subP (houseV fs) (.int 0) st = some (.tup (fs.map fldV)) := fun st => by simp [houseV, fldsV]
  have gM : ∀ st, subP (houseV fs) (.int 1) st = some (.lst (fs.map fun f => mkV f.mr)) := fun st => by simp [houseV]
  generalize houseV fs = HV at gH gM
  simp [rngR_int (n := (fs.length : Int)) (by omega) (by omega)]
  refine forL_sat (fun rem s st => ∃ (i : Nat) (rq : List Vl) (o : PO) (x3 x4 x5 x6 x7 x8 x9 : Option PV), i ≤ fs.length ∧ rem = rngL i (fs.length - i) ∧ Req (fs.take i) rq ∧ (∀ u ∈ rq, shortV u) ∧ s = [some (.loc 0), some HV, some (.loc (rest.length + 1)), x3, x4, x5, x6, x7, x8, x9] ∧ SpO o ∧ st = o :: (rest ++ [.lst (rq.map vlV)]))
    ?_ ?_ _ _ _ ⟨0, [], o, none, none, none, none, none, none, none, Nat.zero_le _, by simp, .nil, by simp, rfl, ho, rfl⟩
  · rintro s st ⟨i, rq, o, x3, x4, x5, x6, x7, x8, x9, hi, e, hq, hsh, rfl, ho, rfl⟩
    have : fs.length - i = 0 := by
      cases q : fs.length - i with
      | zero => rfl
      | succ k => rw [q] at e; cases e
    rw [List.take_of_length_le (by omega)] at hq
    simp
    exact hZ _ _ (endQ_draw (P := fun v => ∃ rq, v = reqV rq ∧ Req fs rq ∧ ∀ u ∈ rq, shortV u) (lb_mono (Nat.zero_le _) (show lb 0 (.tup (rq.map vlV)) = true from reqs_lb rq)) ho hr ⟨rq, rfl, hq, hsh⟩)
  · rintro y rem s st ⟨i, rq, o, x3, x4, x5, x6, x7, x8, x9, hi, e, hq, hsh, rfl, ho, rfl⟩ Y hY
    obtain ⟨k, hk⟩ : ∃ k, fs.length - i = k + 1 := by
      cases q : fs.length - i with
      | zero => rw [q] at e; cases e
      | succ k => exact ⟨k, rfl⟩
    rw [hk] at e
    obtain ⟨rfl, rfl⟩ : y = .int i ∧ rem = rngL ((i : Int) + 1) k := List.cons.inj e
    have hlt : i < fs.length := by omega
    obtain ⟨f, hf⟩ : ∃ f, fs[i]? = some f := ⟨_, List.getElem?_eq_getElem hlt⟩
    have fm : f ∈ fs := List.mem_of_getElem? hf
    have fok := hs.mr f fm
    have f5 := hs.five f fm
    have hr2 := stb_last hr (reqs_lb rq)
    have lq : rq.length < 16777216 := by have := hq.length; simp at this; omega
    have fin : ∀ (u : Vl) (o : PO) (x4 x5 x6 x7 x8 x9 : Option PV), SpO o → u.fits f.mr.kd → shortV u → Y (.nx [some (.loc 0), some HV, some (.loc (rest.length + 1)), some (.int i), x4, x5, x6, x7, x8, x9]) (o :: (rest ++ [.lst (rq.map vlV ++ [vlV u])])) := by
      intro u o x4 x5 x6 x7 x8 x9 ho hu hsu
      refine hY _ _ ⟨i + 1, rq ++ [u], o, _, _, _, _, _, _, _, by omega, ?_, ?_, fun v hv => ?_, rfl, ho, by simp⟩
      · rw [show fs.length - (i + 1) = k by omega]; simp
      · rw [List.take_add_one, hf]; exact hq.append (.cons hu .nil)
      · rcases List.mem_append.mp hv with z | z
        · exact hsh v z
        · rw [List.mem_singleton.mp z]; exact hsu
    simp [gH, gM, atI_nat, hf, fldV]
    refine hd.at (by omega) (by omega) ho hr2 fun w o1 hw1 ho1 => ?_
    cases hkd : f.mr with
    | flg b =>
      have kk : kdS (Mk.flg b).kd = [102, 108, 97, 103] := rfl
      simp [kk, lq]
      have := fin (.b (decide (1 < w))) o1 (some (.int w)) (some (.str [102, 108, 97, 103])) (some (mkV (.flg b))) x7 x8 x9 ho1 (by rw [hkd]; trivial) trivial
      simpa [vlV] using this
    | wrd ws =>
      have kk : kdS (Mk.wrd ws).kd = [119, 111, 114, 100] := rfl
      have ow : mkV (.wrd ws) = .tup (ws.map .str) := rfl
      rw [hkd] at fok f5
      simp only [Mk.vs, List.length_map] at f5
      simp [kk, ow, bin_lst, show ws.length + 2 ≤ 16777216 by omega]
      by_cases h0 : w = 0
      · simp [h0]
        refine (hw 9 (by omega) (by omega)).at ho1 hr2 fun a o3 ⟨v, e, h9, l9⟩ ho3 => ?_
        subst e
        simp [lq]
        have := fin (.w v) o3 (some (.int 0)) (some (.str [119, 111, 114, 100])) (some (.tup (ws.map .str))) (some (.lst (ws.map PV.str ++ [.str [97], .str [122, 122, 122, 122, 122, 122, 122, 122, 122, 122, 122, 122]]))) x8 x9 ho3 (by rw [hkd]; exact h9) (by show v.length ≤ 12; omega)
        simpa [vlV] using this
      · simp [h0]
        have mem : ∀ v ∈ ws.map PV.str ++ [.str [97], .str [122, 122, 122, 122, 122, 122, 122, 122, 122, 122, 122, 122]], ∃ u, v = .str u ∧ isW u ∧ u.length ≤ 12 := fun v hv => by
          rcases List.mem_append.mp hv with z | z
          · obtain ⟨u, hu, rfl⟩ := List.mem_map.mp z
            have := (fok.2 u hu).2
            exact ⟨u, rfl, (fok.2 u hu).1, by omega⟩
          · simp at z
            rcases z with rfl | rfl
            · exact ⟨_, rfl, ⟨by simp, by decide⟩, by simp⟩
            · exact ⟨_, rfl, ⟨by simp, by decide⟩, by simp⟩
        refine hp.lst (by simp) (by simp; omega) (lbs_all.mpr fun v hv => by obtain ⟨u, rfl, _⟩ := mem v hv; rfl) ho1 hr2 fun v o3 hv ho3 => ?_
        obtain ⟨u, rfl, hu, lu⟩ := mem v hv
        simp [lq]
        have := fin (.w u) o3 (some (.int w)) (some (.str [119, 111, 114, 100])) (some (.tup (ws.map .str))) (some (.lst (ws.map PV.str ++ [.str [97], .str [122, 122, 122, 122, 122, 122, 122, 122, 122, 122, 122, 122]]))) x8 x9 ho3 (by rw [hkd]; exact hu) lu
        simpa [vlV] using this
    | num ms =>
      have kk : kdS (Mk.num ms).kd = [110, 117, 109, 98, 101, 114] := rfl
      have ow : mkV (.num ms) = .tup (ms.map .int) := rfl
      rw [hkd] at fok f5
      simp only [Mk.vs, List.length_map] at f5
      simp [kk, ow, e_lc, bin_lst, show ms.length + 1 ≤ 16777216 by omega, show 1 + ms.length ≤ 16777216 by omega]
      rw [compL_one (g := fun m : Int => PV.int (m - 1)) (fun m hm => by simp)]
      simp [bin_lst, show ms.length ≤ 16777216 by omega, show ms.length + 1 + ms.length ≤ 16777216 by omega]
      rw [bin_lst (by simp; omega)]
      simp
      refine hd.at (by omega) (by omega) ho1 hr2 fun far o2 hfar ho2 => ?_
      have mem : ∀ v ∈ PV.int 0 :: (ms.map PV.int ++ (ms.map (fun m => PV.int (m - 1)) ++ [PV.int 1000000000000000000, PV.int 1000000000000000000000000000000000000000])), ∃ j : Int, v = .int j ∧ 0 ≤ j ∧ j ≤ 1000000000000000000000000000000000000000 := fun v hv => by
        simp only [List.mem_cons, List.mem_append, List.mem_map, List.not_mem_nil, or_false] at hv
        rcases hv with rfl | ⟨m, hm2, rfl⟩ | ⟨m, hm2, rfl⟩ | rfl | rfl
        · exact ⟨0, rfl, by omega, by omega⟩
        · have := fok.2 m hm2; exact ⟨m, rfl, by omega, by omega⟩
        · have := fok.2 m hm2; exact ⟨m - 1, rfl, by omega, by omega⟩
        · exact ⟨_, rfl, by omega, by omega⟩
        · exact ⟨_, rfl, by omega, by omega⟩
      have len : (PV.int 0 :: (ms.map PV.int ++ (ms.map (fun m => PV.int (m - 1)) ++ [PV.int 1000000000000000000, PV.int 1000000000000000000000000000000000000000]))).length < 1000 := by simp; omega
      have ne : (PV.int 0 :: (ms.map PV.int ++ (ms.map (fun m => PV.int (m - 1)) ++ [PV.int 1000000000000000000, PV.int 1000000000000000000000000000000000000000]))) ≠ [] := by simp
      generalize (PV.int 0 :: (ms.map PV.int ++ (ms.map (fun m => PV.int (m - 1)) ++ [PV.int 1000000000000000000, PV.int 1000000000000000000000000000000000000000]))) = L at mem len ne ⊢
      by_cases h0 : w = 0
      · simp [h0, lq]
        have := fin (.n far) o2 (some (.int 0)) (some (.str [110, 117, 109, 98, 101, 114])) (some (.tup (ms.map .int))) (some (.lst L)) (some (.int far)) x9 ho2 (by rw [hkd]; show (0 : Int) ≤ far; omega) (by show (far : Int) ≤ _; omega)
        simpa [vlV] using this
      · simp [h0]
        refine hp.lst ne (by omega) (lbs_all.mpr fun v hv => by obtain ⟨u, rfl, _⟩ := mem v hv; rfl) ho2 hr2 fun v o3 hv ho3 => ?_
        obtain ⟨j, rfl, hj, hj2⟩ := mem v hv
        simp [lq]
        have := fin (.n j) o3 (some (.int w)) (some (.str [110, 117, 109, 98, 101, 114])) (some (.tup (ms.map .int))) (some (.lst L)) (some (.int far)) x9 ho3 (by rw [hkd]; exact hj) hj2
        simpa [vlV] using this
end
end MP.PL

/-! PL, part o: another request of the same cell. -/
namespace MP.PL
open PySem L2
/-- two values of one class -/
def Cell : Mk → Vl → Vl → Prop
  | .num ms, .n i, .n j => ∀ m ∈ ms, m ≤ i ↔ m ≤ j
  | .wrd ws, .w s, .w t => s = t ∨ (s ∉ ws ∧ t ∉ ws)
  | .flg m, .b s, .b t => m = true → s = t
  | _, _, _ => False
inductive Cells : List Fld → List Vl → List Vl → Prop
  | nil : Cells [] [] []
  | cons {f fs u v us vs} : Cell f.mr u v → Cells fs us vs → Cells (f :: fs) (u :: us) (v :: vs)
theorem Cells.append {fs gs : List Fld} {a b c d : List Vl} (h : Cells fs a b) (g : Cells gs c d) : Cells (fs ++ gs) (a ++ c) (b ++ d) := by
  induction h with
  | nil => exact g
  | cons q _ ih => exact .cons q ih
theorem cells_get {fs : List Fld} {a b : List Vl} {nm : List Nat} (h : Cells fs a b) {f : Fld} (asc : (fs.map Fld.nm).Pairwise (· < ·)) (hf : f ∈ fs) (e : f.nm = nm) : ∃ u v, valOf fs a nm = some u ∧ valOf fs b nm = some v ∧ Cell f.mr u v := by
  induction h with
  | nil => cases hf
  | @cons g fs u v us vs q _ ih =>
    obtain ⟨h1, h2⟩ := List.pairwise_cons.mp asc
    by_cases eg : g.nm = nm
    · have : f = g := nm_uniq asc hf List.mem_cons_self (by rw [e, eg])
      subst this
      exact ⟨u, v, by simp [valOf, eg], by simp [valOf, eg], q⟩
    · have hf2 : f ∈ fs := by
        rcases List.mem_cons.mp hf with rfl | z
        · exact absurd e eg
        · exact z
      obtain ⟨u2, v2, a1, a2, a3⟩ := ih h2 hf2
      exact ⟨u2, v2, by simp [valOf, eg, a1], by simp [valOf, eg, a2], a3⟩
theorem so_cells {fs : List Fld} {a b : List Vl} (asc : (fs.map Fld.nm).Pairwise (· < ·)) (h : Cells fs a b) (ha : Req fs a) (hb : Req fs b) : ∀ t : Tst, t.told fs → so fs b t = so fs a t
  | .any, _ => rfl
  | .isn nm x, ⟨f, hf, e, ht⟩ => by
    obtain ⟨u, v, h1, h2, h3⟩ := cells_get h asc hf e
    obtain ⟨u', g1, _, g3⟩ := leaf_eval asc ha hf e
    obtain ⟨v', k1, _, k3⟩ := leaf_eval asc hb hf e
    rw [h1] at g1; cases g1
    rw [h2] at k1; cases k1
    simp only [so, h1, h2]
    congr 1
    cases hm : f.mr with
    | num ms =>
      rw [hm] at ht h3 g3 k3
      cases x <;> simp at ht
      rename_i i
      cases u <;> cases v <;> simp [Cell] at h3
      rename_i j l
      simp only [Mk.kd, Vl.fits] at g3 k3
      obtain ⟨t0, t1, t2, t3⟩ := ht
      have q1 := h3 _ t3
      refine propext ?_
      simp only [Option.some.injEq, Vl.n.injEq]
      rcases t2 with rfl | t2
      · omega
      · have q2 := h3 _ t2
        omega
    | wrd ws =>
      rw [hm] at ht h3
      cases x <;> simp at ht
      rename_i s
      cases u <;> cases v <;> simp [Cell] at h3
      rename_i p q
      simp only [Option.some.injEq, Vl.w.injEq]
      refine propext ?_
      rcases h3 with rfl | ⟨h3, h4⟩
      · exact Iff.rfl
      · exact ⟨fun z => absurd (z ▸ ht) h4, fun z => absurd (z ▸ ht) h3⟩
    | flg b' =>
      rw [hm] at ht h3
      cases x <;> simp at ht
      cases u <;> cases v <;> simp [Cell] at h3
      rw [h3 ht]
  | .bel nm n, ⟨f, hf, e, ms, hm, t0, t1, t2⟩ => by
    obtain ⟨u, v, h1, h2, h3⟩ := cells_get h asc hf e
    obtain ⟨u', g1, _, g3⟩ := leaf_eval asc ha hf e
    obtain ⟨v', k1, _, k3⟩ := leaf_eval asc hb hf e
    rw [h1] at g1; cases g1
    rw [h2] at k1; cases k1
    rw [hm] at h3 g3 k3
    cases u <;> cases v <;> simp [Cell] at h3
    rename_i j l
    simp only [Mk.kd, Vl.fits] at g3 k3
    simp only [so, h1, h2]
    refine decide_eq_decide.mpr ?_
    rcases t2 with rfl | t2
    · omega
    · have := h3 _ t2; omega
  | .amo nm us, ⟨f, hf, e, ws, hm, hs⟩ => by
    obtain ⟨u, v, h1, h2, h3⟩ := cells_get h asc hf e
    rw [hm] at h3
    cases u <;> cases v <;> simp [Cell] at h3
    rename_i p q
    simp only [so, h1, h2]
    refine decide_eq_decide.mpr ?_
    rcases h3 with rfl | ⟨h3, h4⟩
    · exact Iff.rfl
    · exact ⟨fun z => absurd (hs.subset z) h4, fun z => absurd (hs.subset z) h3⟩
  | .nt t, ht => by simp only [so, so_cells asc h ha hb t ht]
  | .an x y, ht => by simp only [so, so_cells asc h ha hb x ht.1, so_cells asc h ha hb y ht.2]
  | .orr x y, ht => by simp only [so, so_cells asc h ha hb x ht.1, so_cells asc h ha hb y ht.2]
theorem req_at : ∀ {fs : List Fld} {rq : List Vl} {i : Nat} {f : Fld}, Req fs rq → fs[i]? = some f → ∃ v, rq[i]? = some v ∧ v.fits f.mr.kd
  | _, _, _, _, .nil, e => by simp at e
  | _, _, 0, _, .cons h _, e => by simp at e; subst e; exact ⟨_, rfl, h⟩
  | _, _, i + 1, f, .cons _ t, e => by
    obtain ⟨v, h1, h2⟩ := req_at (i := i) (f := f) t (by simpa using e)
    exact ⟨v, by simpa using h1, h2⟩
section
variable {T : Tab} {fu : Nat}
theorem low_app {s : List Nat} (h : isW s) : isW (s ++ [97, 97, 97, 97, 97, 97, 97, 97, 97]) := by
  refine ⟨by simp, fun c hc => ?_⟩
  rcases List.mem_append.mp hc with z | z
  · exact h.2 c z
  · have : ∀ c ∈ [97, 97, 97, 97, 97, 97, 97, 97, 97], low c = true := by decide
    exact this c z
def MovedOk (F : Fn) : Prop := ∀ (most : Nat) (fs : List Fld) (rq : List Vl), most ≤ 1000 → HsOk most fs → Req fs rq → (∀ u ∈ rq, shortV u) → Draws F [houseV fs, reqV rq] (fun v => ∃ rq', v = reqV rq' ∧ Req fs rq' ∧ Cells fs rq rq')
theorem moved_ok (hd : DipOk (T 6)) (hp : PickOk (T 7)) (hw : WordOk (T 8)) : MovedOk (run T fu 12 3 false TX.b104) := by
  intro most fs rq hm hs hreq hshort o rest ho hr
  refine run_sat rfl fun Z hZ => ?_
  have hfew := hs.few
  have hpos : 0 < fs.length := List.length_pos_iff.mpr hs.ne
  simp [TX.b104]
  have gH : ∀ st, subP (houseV fs) (.int 0) st = some (.tup (fs.map fldV)) := fun st => by simp [houseV, fldsV]
  have gM : ∀ st, subP (houseV fs) (.int 1) st = some (.lst (fs.map fun f => mkV f.mr)) := fun st => by simp [houseV]
  generalize houseV fs = HV at gH gM
  simp [gH, rngR_int (n := (fs.length : Int)) (by omega) (by omega)]
  refine forL_sat (fun rem s st => ∃ (i : Nat) (ra : List Vl) (o : PO) (x4 x5 x6 x7 x8 x9 x10 x11 : Option PV), i ≤ fs.length ∧ rem = rngL i (fs.length - i) ∧ Req (fs.take i) ra ∧ Cells (fs.take i) (rq.take i) ra ∧ s = [some (.loc 0), some HV, some (reqV rq), some (.loc (rest.length + 1)), x4, x5, x6, x7, x8, x9, x10, x11] ∧ SpO o ∧ st = o :: (rest ++ [.lst (ra.map vlV)]))
    ?_ ?_ _ _ _ ⟨0, [], o, none, none, none, none, none, none, none, none, Nat.zero_le _, by simp, .nil, .nil, rfl, ho, rfl⟩
  · rintro s st ⟨i, ra, o, x4, x5, x6, x7, x8, x9, x10, x11, hi, e, hq, hc, rfl, ho, rfl⟩
    have : fs.length - i = 0 := by
      cases q : fs.length - i with
      | zero => rfl
      | succ k => rw [q] at e; cases e
    have lr := hreq.length
    rw [List.take_of_length_le (by omega)] at hq
    rw [List.take_of_length_le (by omega), List.take_of_length_le (by omega)] at hc
    simp
    exact hZ _ _ (endQ_draw (P := fun v => ∃ rq', v = reqV rq' ∧ Req fs rq' ∧ Cells fs rq rq') (lb_mono (Nat.zero_le _) (show lb 0 (.tup (ra.map vlV)) = true from reqs_lb ra)) ho hr ⟨ra, rfl, hq, hc⟩)
  · rintro y rem s st ⟨i, ra, o, x4, x5, x6, x7, x8, x9, x10, x11, hi, e, hq, hc, rfl, ho, rfl⟩ Y hY
    obtain ⟨k, hk⟩ : ∃ k, fs.length - i = k + 1 := by
      cases q : fs.length - i with
      | zero => rw [q] at e; cases e
      | succ k => exact ⟨k, rfl⟩
    rw [hk] at e
    obtain ⟨rfl, rfl⟩ : y = .int i ∧ rem = rngL ((i : Int) + 1) k := List.cons.inj e
    have hlt : i < fs.length := by omega
    obtain ⟨f, hf⟩ : ∃ f, fs[i]? = some f := ⟨_, List.getElem?_eq_getElem hlt⟩
    have fm : f ∈ fs := List.mem_of_getElem? hf
    have fok := hs.mr f fm
    have f5 := hs.five f fm
    have hr2 := stb_last hr (reqs_lb ra)
    have lq : ra.length < 16777216 := by have := hq.length; simp at this; omega
    obtain ⟨u, hu, ufit⟩ := req_at hreq hf
    have ush := hshort u (List.mem_of_getElem? hu)
    have gR : (rq.map vlV)[i]? = some (vlV u) := by rw [List.getElem?_map, hu]; rfl
    have fin : ∀ (v : Vl) (o : PO) (x5 x6 x7 x8 x9 x10 x11 : Option PV), SpO o → v.fits f.mr.kd → Cell f.mr u v → Y (.nx [some (.loc 0), some HV, some (reqV rq), some (.loc (rest.length + 1)), some (.int i), x5, x6, x7, x8, x9, x10, x11]) (o :: (rest ++ [.lst (ra.map vlV ++ [vlV v])])) := by
      intro v o x5 x6 x7 x8 x9 x10 x11 ho hv hcl
      refine hY _ _ ⟨i + 1, ra ++ [v], o, _, _, _, _, _, _, _, _, by omega, ?_, ?_, ?_, rfl, ho, by simp⟩
      · rw [show fs.length - (i + 1) = k by omega]; simp
      · rw [List.take_add_one, hf]; exact hq.append (.cons hv .nil)
      · rw [List.take_add_one, List.take_add_one, hf, hu]; exact hc.append (.cons hcl .nil)
    have rV : ∀ st, subP (reqV rq) (.int i) st = some (vlV u) := fun st => by simp [reqV, atI_nat]; rw [List.getElem?_map] at gR; simpa using gR
    generalize reqV rq = RV at rV fin ⊢
    simp [gH, gM, atI_nat, hf, fldV, rV]
    cases hkd : f.mr with
    | flg b =>
      rw [hkd] at ufit
      cases u <;> simp [Mk.kd, Vl.fits] at ufit
      rename_i t
      have kk : kdS (Mk.flg b).kd = [102, 108, 97, 103] := rfl
      simp [kk, lq]
      have := fin (.b t) o (some (vlV (.b t))) (some (.str [102, 108, 97, 103])) (some (mkV (.flg b))) x8 x9 x10 x11 ho (by rw [hkd]; trivial) (by rw [hkd]; exact fun _ => rfl)
      simpa [vlV] using this
    | wrd ws =>
      rw [hkd] at ufit fok f5
      simp only [Mk.vs, List.length_map] at f5
      cases u <;> simp [Mk.kd, Vl.fits] at ufit
      rename_i t
      have tl : t.length ≤ 12 := ush
      have kk : kdS (Mk.wrd ws).kd = [119, 111, 114, 100] := rfl
      have ow : mkV (.wrd ws) = .tup (ws.map .str) := rfl
      have inw : ∀ st z, isW z → cmpP .In (.str z) (.tup (ws.map .str)) st = some (decide (z ∈ ws)) := fun st z hz => in_strs (isW_okS hz) fun w hw2 => isW_okS (fok.2 w hw2).1
      simp [kk, ow, vlV, inw _ t ufit]
      by_cases ht : t ∈ ws
      · simp [ht, lq]
        have := fin (.w t) o (some (.str t)) (some (.str [119, 111, 114, 100])) (some (.tup (ws.map .str))) x8 x9 x10 x11 ho (by rw [hkd]; exact ufit) (by rw [hkd]; exact .inl rfl)
        simpa [vlV] using this
      · simp [ht]
        refine (hw 9 (by omega) (by omega)).at ho hr2 fun a o3 ⟨v, e, h9, l9⟩ ho3 => ?_
        subst e
        simp [inw _ v h9]
        by_cases hv : v ∈ ws
        · simp [hv, bin_str, show t.length + 9 ≤ 16777216 by omega, lq]
          have nt : t ++ [97, 97, 97, 97, 97, 97, 97, 97, 97] ∉ ws := fun z => by
            have := (fok.2 _ z).2
            simp at this
            try omega
          have := fin (.w (t ++ [97, 97, 97, 97, 97, 97, 97, 97, 97])) o3 (some (.str t)) (some (.str [119, 111, 114, 100])) (some (.tup (ws.map .str))) x8 x9 (some (.str v)) x11 ho3 (by rw [hkd]; exact low_app ufit) (by rw [hkd]; exact .inr ⟨ht, nt⟩)
          simpa [vlV] using this
        · simp [hv, lq]
          have := fin (.w v) o3 (some (.str t)) (some (.str [119, 111, 114, 100])) (some (.tup (ws.map .str))) x8 x9 (some (.str v)) x11 ho3 (by rw [hkd]; exact h9) (by rw [hkd]; exact .inr ⟨ht, hv⟩)
          simpa [vlV] using this
    | num ms =>
      rw [hkd] at ufit fok f5
      simp only [Mk.vs, List.length_map] at f5
      cases u <;> simp [Mk.kd, Vl.fits] at ufit
      rename_i t
      have kk : kdS (Mk.num ms).kd = [110, 117, 109, 98, 101, 114] := rfl
      have ow : mkV (.num ms) = .tup (ms.map .int) := rfl
      simp [kk, ow, vlV, e_lc]
      rw [compL_filter (g := PV.int) (p := fun m => decide (t < m)) (fun m hm2 => by
        simp
        by_cases q : t < m <;> simp [q])]
      have fl : (ms.filter fun m => decide (t < m)).length ≤ 16777216 := Nat.le_trans (List.length_filter_le _ _) (by omega)
      generalize hfl : (ms.filter fun m => decide (t < m)) = L at fl ⊢
      simp [fl]
      refine hp.lst (by simp) (by simp) rfl ho hr2 fun pv o2 hpv ho2 => ?_
      obtain ⟨d, rfl, hd0⟩ : ∃ d : Int, pv = .int d ∧ 0 ≤ d := by
        simp at hpv
        rcases hpv with rfl | rfl | rfl
        · exact ⟨0, rfl, by omega⟩
        · exact ⟨1, rfl, by omega⟩
        · exact ⟨_, rfl, by omega⟩
      simp
      cases L with
      | nil =>
        simp [lq]
        have all : ∀ m ∈ ms, m ≤ t := fun m hm2 => by
          have := List.filter_eq_nil_iff.mp hfl m hm2
          simp at this
          omega
        have := fin (.n (t + d)) o2 (some (.int t)) (some (.str [110, 117, 109, 98, 101, 114])) (some (.tup (ms.map .int))) (some (.lst [])) (some (.int (t + d))) x10 x11 ho2 (by rw [hkd]; show (0 : Int) ≤ t + d; omega) (by
          rw [hkd]
          intro m hm2
          have := all m hm2
          omega)
        simpa [vlV] using this
      | cons a as =>
        simp [lq]
        have ha : a ∈ ms.filter fun m => decide (t < m) := by rw [hfl]; exact List.mem_cons_self
        obtain ⟨ha1, ha2⟩ := List.mem_filter.mp ha
        have ha3 : t < a := by simpa using ha2
        have srt : (ms.filter fun m => decide (t < m)).Pairwise fun x y => ltI x y = true := fok.1.sublist List.filter_sublist
        rw [hfl] at srt
        have least : ∀ m ∈ ms, t < m → a ≤ m := fun m hm2 hlt2 => by
          have : m ∈ a :: as := by rw [← hfl]; exact List.mem_filter.mpr ⟨hm2, by simpa using hlt2⟩
          rcases List.mem_cons.mp this with rfl | z
          · omega
          · have := (List.pairwise_cons.mp srt).1 m z
            simp [ltI] at this
            omega
        have := fin (.n (a - 1)) o2 (some (.int t)) (some (.str [110, 117, 109, 98, 101, 114])) (some (.tup (ms.map .int))) (some (.lst (.int a :: as.map PV.int))) (some (.int (t + d))) x10 x11 ho2 (by rw [hkd]; show (0 : Int) ≤ a - 1; omega) (by
          rw [hkd]
          intro m hm2
          constructor
          · intro q; omega
          · intro q
            refine Classical.byContradiction fun z => ?_
            have := least m hm2 (by omega)
            omega)
        simpa [vlV] using this
end
end MP.PL

/-! PL, part p: tests as strings. -/
namespace MP.PL
open PySem L2
/-- texts put together -/
def jn (a : List Nat) : List (List Nat) → List Nat
  | [] => []
  | [x] => x
  | x :: y :: r => x ++ a ++ jn a (y :: r)
theorem join_jn (a : List Nat) : ∀ ws : List (List Nat), Txt.join ⟨a.toArray⟩ (ws.map fun w => ⟨w.toArray⟩) = ⟨(jn a ws).toArray⟩ := by
  intro ws
  show Builtin.Str.glued ⟨a.toArray⟩ _ = _
  rw [StrLaws.glued_eq_join]
  induction ws with
  | nil => rfl
  | cons x r ih =>
    cases r with
    | nil => rfl
    | cons y r =>
      rw [List.map_cons] at ih ⊢
      rw [List.map_cons, PySem.Str.join, ih]
      · show (⟨x.toArray ++ a.toArray ++ (jn a (y :: r)).toArray⟩ : Str) = _
        simp [jn]
      · intro h; cases h
theorem jn_len (a : List Nat) : ∀ ws : List (List Nat), (jn a ws).length ≤ (ws.map List.length).sum + ws.length * a.length
  | [] => by simp [jn]
  | [x] => by simp [jn]
  | x :: y :: r => by
    have := jn_len a (y :: r)
    simp only [jn, List.length_append, List.map_cons, List.sum_cons, List.length_cons] at this ⊢
    rw [Nat.add_mul (r.length + 1) 1 a.length]
    omega
theorem strs_map : ∀ ws : List (List Nat), strsOf (ws.map .str) = some ws
  | [] => rfl
  | w :: ws => by simp [strsOf, strs_map ws]
section
variable {T : Tab} {fu : Nat} {s : Env} {st : Sto}
@[simp] theorem e_isi2 {e : RE} {t u : TY} : evE T (.isi2 e t u) s st = (evE T e s st).bnd fun x st1 => optR ((isiP t x st1).bind fun a => (isiP u x st1).map fun b => .bl (a || b)) st1 := by rw [evE]
theorem m_joint {a : List Nat} {ws : List (List Nat)} (h : (ws.map List.length).sum + ws.length * a.length ≤ 16777216) : mthP .join (.str a) [.tup (ws.map .str)] st = .ok (.str (jn a ws)) st := by
  simp only [mthP, sq_tup, strs_map, if_pos h, join_jn]
theorem m_joinl {a : List Nat} {ws : List (List Nat)} (h : (ws.map List.length).sum + ws.length * a.length ≤ 16777216) : mthP .join (.str a) [.lst (ws.map .str)] st = .ok (.str (jn a ws)) st := by
  simp only [mthP, sq_lst, strs_map, if_pos h, join_jn]
@[simp] theorem m_ok {a : List Nat} : mOk .join (.str a) st = true := id rfl
theorem m_join1 {a x : List Nat} (h : x.length + a.length ≤ 16777216) : mthP .join (.str a) [.lst [.str x]] st = .ok (.str x) st := m_joinl (ws := [x]) (by simp; omega)
theorem m_join2 {a x y : List Nat} (h : x.length + y.length + 2 * a.length ≤ 16777216) : mthP .join (.str a) [.lst [.str x, .str y]] st = .ok (.str (x ++ a ++ y)) st := m_joinl (ws := [x, y]) (by simp; omega)
@[simp] theorem sum1 {a : Int} : biP .sum [.lst [.int a]] st = some (.int (a + 0)) := id rfl
@[simp] theorem sum2 {a b : Int} : biP .sum [.lst [.int a, .int b]] st = some (.int (a + (b + 0))) := id rfl
end
theorem decP_len {i : Int} (h : 0 ≤ i) (h2 : i ≤ 1000000000000000000) : (decP i).length ≤ 20 := by
  obtain ⟨n, rfl⟩ := Int.eq_ofNat_of_zero_le h
  have e : (decP (n : Int)).length = (Nat.repr n).length := by
    show ((toString (n : Int)).toList.map Char.toNat).length = _
    rw [List.length_map, String.length_toList]; rfl
  rw [e]
  exact (Nat.length_repr_le_iff (by omega)).mpr (by omega)
/-- a value as it is told -/
def vtx : Vl → List Nat
  | .n i => decP i
  | .w s => s
  | .b true => [121, 101, 115]
  | .b false => [110, 111]
/-- a test as it is told -/
def txt : Tst → List Nat
  | .any => [97, 110, 121]
  | .isn nm v => nm ++ [61] ++ vtx v
  | .bel nm n => nm ++ [60] ++ decP n
  | .amo nm ws => nm ++ [58] ++ jn [46] ws
  | .nt t => [110, 111, 116] ++ [40] ++ txt t ++ [41]
  | .an a b => [97, 110, 100] ++ [40] ++ (txt a ++ [32] ++ txt b) ++ [41]
  | .orr a b => [111, 114] ++ [40] ++ (txt a ++ [32] ++ txt b) ++ [41]
/-- words of a mark are few and short -/
theorem sum_le : ∀ {ws : List (List Nat)}, (∀ w ∈ ws, w.length ≤ 8) → (ws.map List.length).sum ≤ 8 * ws.length
  | [], _ => by simp
  | w :: ws, h => by
    have h1 := h w List.mem_cons_self
    have := sum_le (ws := ws) fun x hx => h x (List.mem_cons_of_mem _ hx)
    simp only [List.map_cons, List.sum_cons, List.length_cons]
    omega
/-- what a leaf of a test may hold -/
def Tst.lean : Tst → Prop
  | .any => True
  | .isn nm v => nm.length ≤ 8 ∧ (match v with
    | .n i => 0 ≤ i ∧ i ≤ 1000000000000000000
    | .w s => s.length ≤ 8
    | .b _ => True)
  | .bel nm n => nm.length ≤ 8 ∧ 0 ≤ n ∧ n ≤ 1000000000000000000
  | .amo nm us => nm.length ≤ 8 ∧ us.length ≤ 5 ∧ ∀ w ∈ us, w.length ≤ 8
  | .nt t => t.lean
  | .an a b => a.lean ∧ b.lean
  | .orr a b => a.lean ∧ b.lean
theorem told_lean {most : Nat} {fs : List Fld} (hs : HsOk most fs) : ∀ {t : Tst}, t.told fs → t.lean
  | .any, _ => trivial
  | .isn nm v, ⟨f, hf, e, h⟩ => by
    have h1 := (hs.nm f hf).2
    have h2 := hs.mr f hf
    rw [e] at h1
    refine ⟨h1, ?_⟩
    cases hk : f.mr <;> cases v <;> simp only [hk] at h h2 ⊢
    · exact ⟨h.1, h.2.1⟩
    · exact (h2.2 _ h).2
  | .bel nm n, ⟨f, hf, e, ms, hk, h3, h4, _⟩ => by
    have h1 := (hs.nm f hf).2
    rw [e] at h1
    exact ⟨h1, h3, h4⟩
  | .amo nm us, ⟨f, hf, e, ws, hk, hu⟩ => by
    have h1 := (hs.nm f hf).2
    have h2 := hs.mr f hf
    have h5 := hs.five f hf
    rw [e] at h1
    rw [hk] at h2 h5
    simp only [Mk.vs, List.length_map] at h5
    have := hu.length_le
    exact ⟨h1, by omega, fun w hw => (h2.2 w (hu.subset hw)).2⟩
  | .nt t, h => told_lean hs (t := t) h
  | .an a b, h => ⟨told_lean hs (t := a) h.1, told_lean hs (t := b) h.2⟩
  | .orr a b, h => ⟨told_lean hs (t := a) h.1, told_lean hs (t := b) h.2⟩
theorem txt_len : ∀ {t : Tst}, t.lean → ∀ d, t.dep ≤ d → (txt t).length ≤ 100 * 3 ^ d
  | .any, _, d, hd => by
    have := Nat.pow_pos (n := d) (show 0 < 3 by omega)
    simp [txt]; omega
  | .isn nm v, h, d, hd => by
    have := Nat.pow_pos (n := d) (show 0 < 3 by omega)
    obtain ⟨h1, h2⟩ := h
    cases v with
    | n i => have := decP_len h2.1 h2.2; simp [txt, vtx]; omega
    | w z => simp only at h2; simp [txt, vtx]; omega
    | b k => cases k <;> simp [txt, vtx] <;> omega
  | .bel nm n, h, d, hd => by
    have := Nat.pow_pos (n := d) (show 0 < 3 by omega)
    obtain ⟨h1, h2, h3⟩ := h
    have := decP_len h2 h3; simp [txt]; omega
  | .amo nm us, h, d, hd => by
    have := Nat.pow_pos (n := d) (show 0 < 3 by omega)
    obtain ⟨h1, h2, h3⟩ := h
    have a1 := sum_le h3
    have a2 := jn_len [46] us
    simp at a2
    simp [txt]; omega
  | .nt t, h, 0, hd => by simp [Tst.dep] at hd
  | .an a b, h, 0, hd => by simp [Tst.dep] at hd
  | .orr a b, h, 0, hd => by simp [Tst.dep] at hd
  | .nt t, h, d + 1, hd => by
    have := Nat.pow_pos (n := d) (show 0 < 3 by omega)
    have a := txt_len (t := t) h d (by simp [Tst.dep] at hd; omega)
    rw [Nat.pow_succ]
    simp [txt]; omega
  | .an x y, h, d + 1, hd => by
    have := Nat.pow_pos (n := d) (show 0 < 3 by omega)
    have a := txt_len (t := x) h.1 d (by simp [Tst.dep] at hd; omega)
    have b := txt_len (t := y) h.2 d (by simp [Tst.dep] at hd; omega)
    rw [Nat.pow_succ]
    simp [txt]; omega
  | .orr x y, h, d + 1, hd => by
    have := Nat.pow_pos (n := d) (show 0 < 3 by omega)
    have a := txt_len (t := x) h.1 d (by simp [Tst.dep] at hd; omega)
    have b := txt_len (t := y) h.2 d (by simp [Tst.dep] at hd; omega)
    rw [Nat.pow_succ]
    simp [txt]; omega
theorem txt_small {t : Tst} (h : t.lean) (hd : t.dep ≤ 8) : (txt t).length ≤ 700000 := by
  have := txt_len h 8 hd
  have e : 3 ^ 8 = 6561 := by decide
  omega
end MP.PL

/-! PL, part q: the strings of tests as the program and the law tell them. -/
namespace MP.PL
open PySem L2
section
variable {T : Tab} {fu : Nat} {s : Env} {st : Sto}
@[simp] theorem nb_int {i : Int} : isNonB (.int i) = false := id rfl
@[simp] theorem nb_str {z : List Nat} : isNonB (.str z) = false := id rfl
@[simp] theorem nb_bl {k : Bool} : isNonB (.bl k) = false := id rfl
theorem dec_log {i : Int} (h : 0 ≤ i) (h2 : i ≤ 1000000000000000000) : i.natAbs.log2 < 12900 := log2_small (Nat.lt_of_lt_of_le (show i.natAbs < 1000000000000000001 by omega) (by decide))
def Vl.lean : Vl → Prop
  | .n i => 0 ≤ i ∧ i ≤ 1000000000000000000
  | .w s => s.length ≤ 8
  | .b _ => True
def VtxOk (F : Fn) : Prop := ∀ v : Vl, v.lean → Gives F [vlV v] (.str (vtx v))
theorem value_text_ok : VtxOk (run T fu 1 1 false TX.b710) := by
  intro v hv
  refine gives_of rfl rfl fun st hst Z hZ => ?_
  have hz := hZ []
  rw [List.append_nil] at hz
  clear hZ
  simp [TX.b710]
  cases v with
  | n i => simp [vlV, bi_stri (dec_log hv.1 hv.2)]; exact hz
  | w z => simp [vlV]; exact hz
  | b k => cases k <;> (simp [vlV]; exact hz)
theorem l_value_text_ok : VtxOk (run T fu 1 1 false TX.b712) := by
  intro v hv
  refine gives_of rfl rfl fun st hst Z hZ => ?_
  have hz := hZ []
  rw [List.append_nil] at hz
  clear hZ
  simp [TX.b712]
  cases v with
  | n i => simp [vlV, bi_stri (dec_log hv.1 hv.2)]; exact hz
  | w z => simp [vlV]; exact hz
  | b k => cases k <;> (simp [vlV]; exact hz)
def joinsV : PV := .tup [.str [110, 111, 116], .str [97, 110, 100], .str [111, 114]]
theorem in_joins {s : List Nat} (h : okS s = true) : cmpP .In (.str s) (.tup [.str [110, 111, 116], .str [97, 110, 100], .str [111, 114]]) st = some (decide (s ∈ [[110, 111, 116], [97, 110, 100], [111, 114]])) := by
  have := in_strs (st := st) (s := s) (ws := [[110, 111, 116], [97, 110, 100], [111, 114]]) h (by decide)
  simpa using this
theorem ij_any : cmpP .In (.str [97, 110, 121]) (.tup [.str [110, 111, 116], .str [97, 110, 100], .str [111, 114]]) st = some false := by rw [in_joins rfl]; rfl
theorem ij_is : cmpP .In (.str [105, 115]) (.tup [.str [110, 111, 116], .str [97, 110, 100], .str [111, 114]]) st = some false := by rw [in_joins rfl]; rfl
theorem ij_bel : cmpP .In (.str [98, 101, 108, 111, 119]) (.tup [.str [110, 111, 116], .str [97, 110, 100], .str [111, 114]]) st = some false := by rw [in_joins rfl]; rfl
theorem ij_amo : cmpP .In (.str [97, 109, 111, 110, 103]) (.tup [.str [110, 111, 116], .str [97, 110, 100], .str [111, 114]]) st = some false := by rw [in_joins rfl]; rfl
theorem ij_not : cmpP .In (.str [110, 111, 116]) (.tup [.str [110, 111, 116], .str [97, 110, 100], .str [111, 114]]) st = some true := by rw [in_joins rfl]; rfl
theorem ij_and : cmpP .In (.str [97, 110, 100]) (.tup [.str [110, 111, 116], .str [97, 110, 100], .str [111, 114]]) st = some true := by rw [in_joins rfl]; rfl
theorem ij_or : cmpP .In (.str [111, 114]) (.tup [.str [110, 111, 116], .str [97, 110, 100], .str [111, 114]]) st = some true := by rw [in_joins rfl]; rfl
theorem compL_sole {f : PV → Sto → Res (List PV)} {a x : PV} (h1 : f a st = .ok [x] st) : compL f [a] st = .ok [x] st := by
  simp [compL, h1]
def TxtAt (F : Fn) (pre : List PV) (t : Tst) : Prop := Gives F (pre ++ [encT t]) (.str (txt t))
theorem test_text_step {fv : PV} (h710 : VtxOk (T 710)) (t : Tst) (hl : t.lean) (hd : t.dep ≤ 8)
    (hs : ∀ u : Tst, u.dep < t.dep → u.lean → TxtAt (T 711) [fv] u) : TxtAt (run T fu 4 2 false TX.b711) [fv] t := by
  refine gives_of rfl rfl fun st hst Z hZ => ?_
  have hz := hZ []
  rw [List.append_nil] at hz
  clear hZ
  have sm := txt_small hl hd
  simp [TX.b711]
  cases t with
  | any => simp [encT]; exact hz
  | isn nm v =>
    obtain ⟨h1, h2⟩ := hl
    have hv : v.lean := by cases v <;> exact h2
    simp only [txt, List.length_append, List.length_singleton] at sm
    simp [encT, ij_is, bin_str, show nm.length + 1 ≤ 16777216 by omega]
    refine (h710 v hv).at hst ?_
    simp [bin_str, show nm.length + 1 + (vtx v).length ≤ 16777216 by omega]
    simpa [txt] using hz
  | bel nm n =>
    obtain ⟨h1, h2, h3⟩ := hl
    simp only [txt, List.length_append, List.length_singleton] at sm
    simp [encT, ij_bel, bin_str, show nm.length + 1 ≤ 16777216 by omega, bi_stri (dec_log h2 h3), show nm.length + 1 + (decP n).length ≤ 16777216 by omega]
    simpa [txt] using hz
  | amo nm us =>
    obtain ⟨h1, h2, h3⟩ := hl
    have a1 := sum_le h3
    simp only [txt, List.length_append, List.length_singleton] at sm
    have mj : mthP .join (.str [46]) [.tup (us.map .str)] st = .ok (.str (jn [46] us)) st := m_joint (by simp; omega)
    simp [encT, ij_amo, bin_str, show nm.length + 1 ≤ 16777216 by omega, mj, show nm.length + 1 + (jn [46] us).length ≤ 16777216 by omega]
    simpa [txt] using hz
  | nt t =>
    have ht : T 711 [fv, encT t] st = .ok (.str (txt t)) st := hs t (by simp [Tst.dep]) hl st hst
    simp only [txt, List.length_append, List.length_cons, List.length_nil] at sm
    simp [encT, ij_not, e_lc, bin_str]
    rw [compL_sole (x := .str (txt t)) (by simp [ht])]
    simp [m_join1, show (txt t).length + 1 ≤ 16777216 by omega, bin_str, show (txt t).length + 1 + 1 + 1 + 1 + 1 ≤ 16777216 by omega, show (txt t).length + 1 + 1 + 1 + 1 ≤ 16777216 by omega, show 4 + (txt t).length ≤ 16777216 by omega]
    simpa [txt] using hz
  | an a b =>
    have ha : T 711 [fv, encT a] st = .ok (.str (txt a)) st := hs a (by simp [Tst.dep]; omega) hl.1 st hst
    have hb : T 711 [fv, encT b] st = .ok (.str (txt b)) st := hs b (by simp [Tst.dep]; omega) hl.2 st hst
    simp only [txt, List.length_append, List.length_cons, List.length_nil] at sm
    simp [encT, ij_and, e_lc, bin_str]
    rw [compL_two (x := .str (txt a)) (y := .str (txt b)) (by simp [ha]) (by simp [hb])]
    simp
    rw [m_join2 (by simp; omega)]
    simp
    rw [bin_str (by simp; omega)]
    simp
    rw [bin_str (by simp; omega)]
    simp
    simpa [txt] using hz
  | orr a b =>
    have ha : T 711 [fv, encT a] st = .ok (.str (txt a)) st := hs a (by simp [Tst.dep]; omega) hl.1 st hst
    have hb : T 711 [fv, encT b] st = .ok (.str (txt b)) st := hs b (by simp [Tst.dep]; omega) hl.2 st hst
    simp only [txt, List.length_append, List.length_cons, List.length_nil] at sm
    simp [encT, ij_or, e_lc, bin_str]
    rw [compL_two (x := .str (txt a)) (y := .str (txt b)) (by simp [ha]) (by simp [hb])]
    simp
    rw [m_join2 (by simp; omega)]
    simp
    rw [bin_str (by simp; omega)]
    simp
    rw [bin_str (by simp; omega)]
    simp
    simpa [txt] using hz
theorem l_test_text_step (h712 : VtxOk (T 712)) (t : Tst) (hl : t.lean) (hd : t.dep ≤ 8)
    (hs : ∀ u : Tst, u.dep < t.dep → u.lean → TxtAt (T 713) [] u) : TxtAt (run T fu 2 1 false TX.b713) [] t := by
  refine gives_of rfl rfl fun st hst Z hZ => ?_
  have hz := hZ []
  rw [List.append_nil] at hz
  clear hZ
  have sm := txt_small hl hd
  simp [TX.b713]
  cases t with
  | any => simp [encT]; exact hz
  | isn nm v =>
    obtain ⟨h1, h2⟩ := hl
    have hv : v.lean := by cases v <;> exact h2
    simp only [txt, List.length_append, List.length_singleton] at sm
    simp [encT, bin_str, show nm.length + 1 ≤ 16777216 by omega]
    refine (h712 v hv).at hst ?_
    simp [bin_str, show nm.length + 1 + (vtx v).length ≤ 16777216 by omega]
    simpa [txt] using hz
  | bel nm n =>
    obtain ⟨h1, h2, h3⟩ := hl
    simp only [txt, List.length_append, List.length_singleton] at sm
    simp [encT, bin_str, show nm.length + 1 ≤ 16777216 by omega, bi_stri (dec_log h2 h3), show nm.length + 1 + (decP n).length ≤ 16777216 by omega]
    simpa [txt] using hz
  | amo nm us =>
    obtain ⟨h1, h2, h3⟩ := hl
    have a1 := sum_le h3
    simp only [txt, List.length_append, List.length_singleton] at sm
    have mj : mthP .join (.str [46]) [.tup (us.map .str)] st = .ok (.str (jn [46] us)) st := m_joint (by simp; omega)
    simp [encT, bin_str, show nm.length + 1 ≤ 16777216 by omega, mj, show nm.length + 1 + (jn [46] us).length ≤ 16777216 by omega]
    simpa [txt] using hz
  | nt t =>
    have ht : T 713 [encT t] st = .ok (.str (txt t)) st := hs t (by simp [Tst.dep]) hl st hst
    simp only [txt, List.length_append, List.length_cons, List.length_nil] at sm
    simp [encT, e_lc, bin_str]
    rw [compL_sole (x := .str (txt t)) (by simp [ht])]
    simp
    rw [m_join1 (by simp; omega)]
    simp
    rw [bin_str (by simp; omega)]
    simp
    rw [bin_str (by simp; omega)]
    simp
    simpa [txt] using hz
  | an a b =>
    have ha : T 713 [encT a] st = .ok (.str (txt a)) st := hs a (by simp [Tst.dep]; omega) hl.1 st hst
    have hb : T 713 [encT b] st = .ok (.str (txt b)) st := hs b (by simp [Tst.dep]; omega) hl.2 st hst
    simp only [txt, List.length_append, List.length_cons, List.length_nil] at sm
    simp [encT, e_lc, bin_str]
    rw [compL_two (x := .str (txt a)) (y := .str (txt b)) (by simp [ha]) (by simp [hb])]
    simp
    rw [m_join2 (by simp; omega)]
    simp
    rw [bin_str (by simp; omega)]
    simp
    rw [bin_str (by simp; omega)]
    simp
    simpa [txt] using hz
  | orr a b =>
    have ha : T 713 [encT a] st = .ok (.str (txt a)) st := hs a (by simp [Tst.dep]; omega) hl.1 st hst
    have hb : T 713 [encT b] st = .ok (.str (txt b)) st := hs b (by simp [Tst.dep]; omega) hl.2 st hst
    simp only [txt, List.length_append, List.length_cons, List.length_nil] at sm
    simp [encT, e_lc, bin_str]
    rw [compL_two (x := .str (txt a)) (y := .str (txt b)) (by simp [ha]) (by simp [hb])]
    simp
    rw [m_join2 (by simp; omega)]
    simp
    rw [bin_str (by simp; omega)]
    simp
    rw [bin_str (by simp; omega)]
    simp
    simpa [txt] using hz
/-- how many parts a test has -/
def cnt : Tst → Int
  | .nt t => 1 + (cnt t + 0)
  | .an a b => 1 + (cnt a + (cnt b + 0))
  | .orr a b => 1 + (cnt a + (cnt b + 0))
  | _ => 1
def CntAt (F : Fn) (t : Tst) : Prop := Gives F [encT t] (.int (cnt t))
theorem l_count_step (t : Tst) (hs : ∀ u : Tst, u.dep < t.dep → CntAt (T 714) u) : CntAt (run T fu 2 1 false TX.b714) t := by
  refine gives_of rfl rfl fun st hst Z hZ => ?_
  have hz := hZ []
  rw [List.append_nil] at hz
  clear hZ
  simp [TX.b714]
  cases t with
  | any => simp [encT, ij_any]; exact hz
  | isn nm v => simp [encT, ij_is]; exact hz
  | bel nm n => simp [encT, ij_bel]; exact hz
  | amo nm us => simp [encT, ij_amo]; exact hz
  | nt t =>
    have ht := hs t (by simp [Tst.dep]) st hst
    simp [encT, ij_not, e_lc]
    rw [compL_sole (x := .int (cnt t)) (by simp [ht])]
    simp
    simpa [cnt] using hz
  | an a b =>
    have ha := hs a (by simp [Tst.dep]; omega) st hst
    have hb := hs b (by simp [Tst.dep]; omega) st hst
    simp [encT, ij_and, e_lc]
    rw [compL_two (x := .int (cnt a)) (y := .int (cnt b)) (by simp [ha]) (by simp [hb])]
    simp
    simpa [cnt] using hz
  | orr a b =>
    have ha := hs a (by simp [Tst.dep]; omega) st hst
    have hb := hs b (by simp [Tst.dep]; omega) st hst
    simp [encT, ij_or, e_lc]
    rw [compL_two (x := .int (cnt a)) (y := .int (cnt b)) (by simp [ha]) (by simp [hb])]
    simp
    simpa [cnt] using hz
def AlikeS (F : Fn) : Prop := ∀ s : List Nat, Gives F [.str s, .str s] (.bl true)
theorem alike_str : AlikeS (run T fu 3 2 false TX.b375) := by
  intro s
  refine gives_of rfl rfl fun st hst Z hZ => ?_
  have hz := hZ []
  rw [List.append_nil] at hz
  clear hZ
  simp [TX.b375]
  exact hz
end
end MP.PL

/-! PL, part r: duties, rules and books are drawn. -/
namespace MP.PL
open PySem L2
section
variable {T : Tab} {fu : Nat} {s : Env} {st : Sto}
/-! ### more rules -/
@[simp] theorem e_srtN {e : RE} : evE T (.srtN e) s st = (evE T e s st).bnd fun x st1 => newR (srtP x st1) st1 := by rw [evE]
@[simp] theorem newR_some {ys : List PV} : newR (some (.lst ys)) st = .ok (.loc st.length) (st ++ [.lst ys]) := id rfl
@[simp] theorem c_eqa0 {n : Nat} : cmpP .Eq (.loc n) (.lst []) st = lstK (st[n]?) (fun xs => some xs.isEmpty) none := by
  simp only [cmpP, eqP, seqOf]
  rcases h : st[n]? with _ | ⟨xs⟩ <;> simp only [h, lstK]
  simp [dataAt, deref, h]
@[simp] theorem mok_pop {n : Nat} : mOk .pop (.loc n) st = lstK (st[n]?) (fun _ => true) false := by
  simp only [mOk]
  rcases st[n]? with _ | ⟨xs⟩ <;> rfl
theorem mth_pop {n i : Nat} {xs : List PV} {x : PV} (h : st[n]? = some (.lst xs)) (hi : i < 1000000) (hx : xs[i]? = some x) : mthP .pop (.loc n) [.int (i : Int)] st = .ok x (st.set n (.lst (xs.eraseIdx i))) := by
  simp only [mthP, h]
  rw [if_pos ⟨by omega, by omega⟩]
  simp only [Int.toNat_natCast, hx]
@[simp] theorem mok_ext {n : Nat} : mOk .extend (.loc n) st = lstK (st[n]?) (fun _ => true) false := by
  simp only [mOk]
  rcases st[n]? with _ | ⟨xs⟩ <;> rfl
theorem mth_extl {n : Nat} {xs ys : List PV} (h : st[n]? = some (.lst xs)) (hl : xs.length + ys.length ≤ 16777216) : mthP .extend (.loc n) [.lst ys] st = .ok .non (st.set n (.lst (xs ++ ys))) := by
  simp only [mthP, h, sq_lst, szl]
  rw [if_pos hl]
theorem mth_extt {n : Nat} {xs ys : List PV} (h : st[n]? = some (.lst xs)) (hl : xs.length + ys.length ≤ 16777216) : mthP .extend (.loc n) [.tup ys] st = .ok .non (st.set n (.lst (xs ++ ys))) := by
  simp only [mthP, h, sq_tup, szl]
  rw [if_pos hl]
/-! ### duties -/
def dutV (du : List (List Nat)) : PV := .tup (du.map .str)
def DutOk (n : Nat) (du : List (List Nat)) : Prop := du.length ≤ n ∧ du.Pairwise (· < ·) ∧ ∀ w ∈ du, Nm w
theorem dutV_lb (du : List (List Nat)) : lb 0 (dutV du) = true := lbs_str du
def DutiesOk (F : Fn) : Prop := Draws F [] (fun v => ∃ du, v = dutV du ∧ DutOk 3 du)
theorem duties_ok (hd : DipOk (T 6)) (hp : PickOk (T 7)) (hw : WordOk (T 8)) : DutiesOk (run T fu 5 1 false TX.b130) := by
  intro o rest ho hr
  refine run_sat rfl fun Z hZ => ?_
  simp [TX.b130]
  refine hd.at (by omega) (by omega) ho (stb_last hr rfl) fun r o1 hr1 ho1 => ?_
  simp [rngR_int (n := (r : Int)) (by omega) (by omega)]
  refine forL_sat (fun rem s st => ∃ (ws : List (List Nat)) (o : PO) (x1 x4 : Option PV), s = [some (.loc 0), x1, some (.loc (rest.length + 1)), some (.lst [.str [108, 111, 103], .str [109, 97, 105, 108], .str [97], .str [115, 105, 103, 110]]), x4] ∧ SpO o ∧
      st = o :: (rest ++ [.lst (ws.map .str)]) ∧ (∀ w ∈ ws, Nm w) ∧ ws.length + rem.length = r) ?_ ?_ _ _ _ ⟨[], o1, none, none, rfl, ho1, by simp, by simp, by simp [rngL_length]⟩
  · rintro s st ⟨ws, o, x1, x4, rfl, ho, rfl, hws, hl⟩
    simp at hl
    simp
    rw [srt_strs (ws := ws) (.inr ⟨_, rfl, by simp⟩) (by omega)]
    simp
    refine hZ _ _ (endQ_draw (P := fun v => ∃ du, v = dutV du ∧ DutOk 3 du) (lb_mono (Nat.zero_le _) (dutV_lb (srtS ws))) ho hr ⟨srtS ws, rfl, ?_, srtS_srt ws, fun w hw => hws w (srtS_mem.mp hw)⟩)
    have := srtS_length ws; omega
  · rintro y rem s st ⟨ws, o, x1, x4, rfl, ho, rfl, hws, hl⟩ Y hY
    simp at hl
    have hr2 := stb_last hr (lbs_str ws)
    try simp
    refine hd.at (by omega) (by omega) ho hr2 fun k o2 hk ho2 => ?_
    have fin : ∀ (w : List Nat) (o : PO) (b : PV), SpO o → Nm w → Y (.nx [some (.loc 0), some y, some (.loc (rest.length + 1)), some (.lst [.str [108, 111, 103], .str [109, 97, 105, 108], .str [97], .str [115, 105, 103, 110]]), some b]) (o :: (rest ++ [.lst ((ws ++ [w]).map .str)])) := fun w o b ho hw => by
      refine hY _ _ ⟨ws ++ [w], o, _, _, rfl, ho, rfl, fun v hv => ?_, by simp; omega⟩
      rcases List.mem_append.mp hv with hv | hv
      · exact hws v hv
      · rw [List.mem_singleton.mp hv]; exact hw
    by_cases hk0 : k = 0
    · simp [hk0]
      refine (hw 8 (by omega) (by omega)).at ho2 hr2 fun a o3 ⟨w, e, h8, l8⟩ ho3 => ?_
      subst e
      simp [show ws.length < 16777216 by omega]
      have := fin w o3 (.bl true) ho3 ⟨h8, l8⟩
      simpa using this
    · simp [hk0]
      refine hp.lst (by simp) (by simp) rfl ho2 hr2 fun v o3 hv ho3 => ?_
      simp [show ws.length < 16777216 by omega]
      obtain ⟨w, rfl, hw⟩ : ∃ w, v = .str w ∧ Nm w := by
        simp at hv
        rcases hv with rfl | rfl | rfl | rfl <;> exact ⟨_, rfl, ⟨by simp, by decide⟩, by simp⟩
      have := fin w o3 (.bl false) ho3 hw
      simpa using this
end
/-! ### rules and books -/
inductive Itm where
  | rule (nm eff : List Nat) (t : Tst) (du : List (List Nat))
  | book (nm : List Nat) (t : Tst) (way : List Nat) (its : List Itm)
mutual
def encI : Itm → PV
  | .rule nm eff t du => .tup [.str [114, 117, 108, 101], .str nm, .str eff, encT t, dutV du]
  | .book nm t way its => .tup [.str [98, 111, 111, 107], .str nm, encT t, .str way, .tup (encIs its)]
def encIs : List Itm → List PV
  | [] => []
  | x :: xs => encI x :: encIs xs
end
theorem encIs_map : ∀ l : List Itm, encIs l = l.map encI
  | [] => rfl
  | x :: xs => by rw [encIs, encIs_map xs, List.map_cons]
def wAllow : List Nat := [97, 108, 108, 111, 119]
def wDeny : List Nat := [100, 101, 110, 121]
def wFirst : List Nat := [102, 105, 114, 115, 116]
def wOne : List Nat := [111, 110, 101]
def isEff (w : List Nat) : Prop := w = wAllow ∨ w = wDeny
def isWay (w : List Nat) : Prop := w = wFirst ∨ w = wDeny ∨ w = wAllow ∨ w = wOne
mutual
/-- a rule or book by the fields; d: how many books may be nested -/
def Itm.ok (fs : List Fld) : Nat → Itm → Prop
  | _, .rule nm eff t du => Nm nm ∧ isEff eff ∧ t.told fs ∧ t.dep ≤ 3 ∧ DutOk 3 du
  | 0, .book _ _ _ _ => False
  | d + 1, .book nm t way its => Nm nm ∧ t.told fs ∧ t.dep ≤ 3 ∧ isWay way ∧ Itms.ok fs d its
def Itms.ok (fs : List Fld) : Nat → List Itm → Prop
  | _, [] => True
  | d, x :: xs => Itm.ok fs d x ∧ Itms.ok fs d xs
end
mutual
/-- how many rules and books -/
def Itm.many : Itm → Nat
  | .rule _ _ _ _ => 1
  | .book _ _ _ its => 1 + Itms.many its
def Itms.many : List Itm → Nat
  | [] => 0
  | x :: xs => Itm.many x + Itms.many xs
end
mutual
/-- all names, in order -/
def Itm.nms : Itm → List (List Nat)
  | .rule nm _ _ _ => [nm]
  | .book nm _ _ its => nm :: Itms.nms its
def Itms.nms : List Itm → List (List Nat)
  | [] => []
  | x :: xs => Itm.nms x ++ Itms.nms xs
end
theorem Itms.nms_app : ∀ {l m : List Itm}, Itms.nms (l ++ m) = Itms.nms l ++ Itms.nms m
  | [], m => by simp [Itms.nms]
  | x :: xs, m => by simp [Itms.nms, Itms.nms_app (l := xs)]
theorem Itms.ok_all {fs : List Fld} {d : Nat} : ∀ {l : List Itm}, Itms.ok fs d l ↔ ∀ x ∈ l, Itm.ok fs d x
  | [] => by simp [Itms.ok]
  | x :: xs => by simp [Itms.ok, Itms.ok_all (l := xs)]
theorem Itms.many_app : ∀ {l m : List Itm}, Itms.many (l ++ m) = Itms.many l + Itms.many m
  | [], m => by simp [Itms.many]
  | x :: xs, m => by simp [Itms.many, Itms.many_app (l := xs)]; omega
theorem Itm.many_pos : ∀ x : Itm, 1 ≤ x.many
  | .rule .. => by simp [Itm.many]
  | .book .. => by simp [Itm.many]
theorem Itms.len_many : ∀ l : List Itm, l.length ≤ Itms.many l
  | [] => by simp
  | x :: xs => by have := Itms.len_many xs; have := x.many_pos; simp [Itms.many]; omega
mutual
theorem encI_lb : ∀ x : Itm, lb 0 (encI x) = true
  | .rule nm eff t du => by simp only [encI, lb, lbs, encT_lb, dutV_lb, Bool.and_self]
  | .book nm t way its => by simp only [encI, lb, lbs, encT_lb, encIs_lb its, Bool.and_self]
theorem encIs_lb : ∀ l : List Itm, lbs 0 (encIs l) = true
  | [] => rfl
  | x :: xs => by simp only [encIs, lbs, encI_lb x, encIs_lb xs, Bool.and_self]
end
section
variable {T : Tab} {fu : Nat} {s : Env} {st : Sto}
/-- items are drawn; the names that are taken go out of their list, which is the place m + 1 -/
def ItemsAt (F : Fn) (fs : List Fld) (d : Nat) : Prop := ∀ (many : Nat) (names : List (List Nat)) (m : Nat) (o : PO) (rest : Sto), SpO o → StB (rest.length + 1) rest → rest[m]? = some (.lst (names.map .str)) → (∀ w ∈ names, Nm w) → many ≤ 1000 → names.length ≤ 1000 →
  (F [.loc 0, houseV fs, .loc (m + 1), .int many, .int d] (o :: rest)).wp (fun v st => ∃ (its : List Itm) (names' : List (List Nat)) (o' : PO), v = .tup (encIs its) ∧ Itms.ok fs d its ∧ its.length ≤ many ∧ Itms.many its + names'.length ≤ names.length ∧ (names'.Sublist names ∧ ∀ w, (Itms.nms its).count w + names'.count w ≤ names.count w) ∧ SpO o' ∧ st = o' :: rest.set m (.lst (names'.map .str))) NoX
theorem stb_set {rest : Sto} {m k : Nat} {xs : List PV} (hr : StB k rest) (hx : lbs 0 xs = true) : StB k (rest.set m (.lst xs)) := fun o ho => by
  rcases List.mem_or_eq_of_mem_set ho with h | h
  · exact hr o h
  · subst h; exact lbs_mono (Nat.zero_le _) hx
end
end MP.PL

/-! PL, part r2: items, policies are drawn. -/
namespace MP.PL
open PySem L2
section
variable {T : Tab} {fu : Nat} {s : Env} {st : Sto}
theorem get_mid {o : PO} {R ys : Sto} {m : Nat} (h : m < R.length) : (o :: (R ++ ys))[m + 1]? = R[m]? := by
  rw [List.getElem?_cons_succ, List.getElem?_append_left h]
theorem set_mid {o x : PO} {R ys : Sto} {m : Nat} (h : m < R.length) : (o :: (R ++ ys)).set (m + 1) x = o :: (R.set m x ++ ys) := by
  rw [List.set_cons_succ, List.set_append_left _ _ h]
theorem map_erase {A B : Type} (f : A → B) : ∀ (l : List A) (i : Nat), (l.map f).eraseIdx i = (l.eraseIdx i).map f
  | [], _ => by simp
  | x :: xs, 0 => by simp
  | x :: xs, i + 1 => by simp [map_erase f xs i]
theorem items_step {most d : Nat} {fs : List Fld} (hm : most ≤ 1000) (hs : HsOk most fs) (hd : DipOk (T 6)) (hp : PickOk (T 7)) (h67 : TestAt (T 67) most fs 3) (h130 : DutiesOk (T 130)) (hrec : 0 < d → ItemsAt (T 131) fs (d - 1)) :
    ItemsAt (run T fu 12 5 false TX.b131) fs d := by
  intro many names m o rest ho hr hn hnm hmy hln
  have hml : m < rest.length := (List.getElem?_eq_some_iff.mp hn).1
  refine run_sat rfl fun Z hZ => ?_
  generalize hHV : houseV fs = HV at *
  unfold ItemsAt TestAt at *
  rw [hHV] at h67
  try simp only [hHV] at hrec
  have g0 : ∀ ys, (o :: (rest ++ ys))[m + 1]? = some (.lst (names.map .str)) := fun ys => by rw [get_mid hml]; exact hn
  simp [TX.b131, g0]
  have hmin : (if names.length < many then (names.length : Int) else (many : Int)) = ((min many names.length : Nat) : Int) := by split <;> omega
  try rw [hmin]
  rw [rngR_int (by omega) (by omega)]
  simp
  refine forL_sat (fun rem s st => ∃ (found : List Itm) (nms : List (List Nat)) (o : PO) (x6 x7 x8 x9 x10 x11 : Option PV), s = [some (.loc 0), some HV, some (.loc (m + 1)), some (.int many), some (.int d), some (.loc (rest.length + 1)), x6, x7, x8, x9, x10, x11] ∧ SpO o ∧
      st = o :: (rest.set m (.lst (nms.map .str)) ++ [.lst (encIs found)]) ∧ Itms.ok fs d found ∧ found.length + rem.length ≤ many ∧ Itms.many found + nms.length ≤ names.length ∧ nms.Sublist names ∧ ∀ w, (Itms.nms found).count w + nms.count w ≤ names.count w) ?_ ?_ _ _ _ ⟨[], names, o, none, none, none, none, none, none, rfl, ho, ?_, trivial, by simp [rngL_length]; omega, by simp [Itms.many], List.Sublist.refl _, fun w => by simp [Itms.nms]⟩
  · rintro s st ⟨found, nms, o, x6, x7, x8, x9, x10, x11, rfl, ho, rfl, hok, hl, hmn, hsub, hcn⟩
    have el : rest.length = (rest.set m (.lst (nms.map .str))).length := by simp
    simp
    refine hZ _ _ ?_
    show (dropRes (rest.length + 1) (.ok (.tup (encIs found)) _)).wp _ _
    have e : (o :: (rest.set m (.lst (nms.map .str)) ++ [PO.lst (encIs found)])).take (rest.length + 1) = o :: rest.set m (.lst (nms.map .str)) := by
      rw [el]; simp
    rw [dropRes_ok (lb_mono (Nat.zero_le _) (show lb 0 (.tup (encIs found)) = true from encIs_lb found)) (by rw [e]; exact StB.cons (ho.olb _) (stb_set hr (lbs_str _))), s_ok, e]
    exact ⟨found, nms, o, rfl, hok, by simp at hl; exact hl, hmn, ⟨hsub, hcn⟩, ho, rfl⟩
  · rintro y rem s st ⟨found, nms, o, x6, x7, x8, x9, x10, x11, rfl, ho, rfl, hok, hl, hmn, hsub, hcn⟩ Y hY
    simp at hl
    generalize hR : rest.set m (.lst (nms.map .str)) = R
    have el : rest.length = R.length := by rw [← hR]; simp
    have hmR : m < R.length := by omega
    have hRm : R[m]? = some (.lst (nms.map .str)) := by rw [← hR, List.getElem?_set_self hml]
    have gm : ∀ o ys, (o :: (R ++ ys))[m + 1]? = some (.lst (nms.map .str)) := fun o ys => by rw [get_mid hmR]; exact hRm
    have hrR : StB (R.length + 1) R := by rw [← hR]; simp; exact stb_set hr (lbs_str _)
    have hrX : StB ((R ++ [PO.lst (encIs found)]).length + 1) (R ++ [PO.lst (encIs found)]) := stb_last hrR (encIs_lb found)
    have hlf : found.length ≤ 1000 := by omega
    have hef : (encIs found).length = found.length := by rw [encIs_map]; simp
    simp [gm]
    by_cases h0 : nms = []
    · subst h0
      simp
      exact hY _ _ ⟨found, [], o, _, _, _, _, _, _, rfl, ho, by rw [hR], hok, by omega, hmn, hsub, hcn⟩
    · have hp0 : 0 < nms.length := List.length_pos_iff.mpr h0
      have hl2 := hsub.length_le
      simp [h0, gm]
      refine hd.at (by omega) (by omega) ho hrX fun r o1 hr1 ho1 => ?_
      have hr1' : r < nms.length := by omega
      try simp [gm]
      rw [mth_pop (x := .str nms[r]) (gm _ _) (by omega) (by simp [List.getElem?_eq_getElem hr1'])]
      rw [set_mid hmR, map_erase]
      generalize hR2 : R.set m (.lst ((nms.eraseIdx r).map .str)) = R2
      have er2 : R2 = rest.set m (.lst ((nms.eraseIdx r).map .str)) := by rw [← hR2, ← hR, List.set_set]
      have el2 : rest.length = R2.length := by rw [er2]; simp
      have hmR2 : m < R2.length := by omega
      have hRm2 : R2[m]? = some (.lst ((nms.eraseIdx r).map .str)) := by rw [er2, List.getElem?_set_self hml]
      have hrR2 : StB (R2.length + 1) R2 := by rw [er2]; simp; exact stb_set hr (lbs_str _)
      have hrX2 : StB ((R2 ++ [PO.lst (encIs found)]).length + 1) (R2 ++ [PO.lst (encIs found)]) := stb_last hrR2 (encIs_lb found)
      have hnr : Nm nms[r] := hnm _ (hsub.subset (List.getElem_mem hr1'))
      have hsub2 : (nms.eraseIdx r).Sublist names := (List.eraseIdx_sublist _ _).trans hsub
      have hln2 : (nms.eraseIdx r).length + 1 = nms.length := by rw [List.length_eraseIdx_of_lt hr1']; omega
      have hcn2 : ∀ w, (nms.eraseIdx r).count w + [nms[r]].count w = nms.count w := fun w => by
        have e : nms = nms.take r ++ nms[r] :: nms.drop (r + 1) := by rw [List.getElem_cons_drop, List.take_append_drop]
        conv => rhs; rw [e]
        rw [List.eraseIdx_eq_take_drop_succ, List.count_append, List.count_append, List.count_cons, List.count_cons, List.count_nil]
        omega
      generalize nms[r] = nm at *
      generalize nms.eraseIdx r = nms2 at *
      clear gm hRm hmR hrR hrX
      try simp
      refine h67.at ho1 hrX2 fun tv o2 ⟨t, e, told, dep⟩ ho2 => ?_
      subst e
      have rule : ∀ (o : PO) (x9 x10 : Option PV) (v4 : PV), SpO o → v4 = .int d → (T 7 [PV.loc 0, PV.lst [PV.str [97, 108, 108, 111, 119], PV.str [100, 101, 110, 121]]] (o :: (R2 ++ [PO.lst (encIs found)]))).wp (fun a st =>
          (if lstK st[rest.length + 1]? (fun x => true) false = true then
            (T 130 [PV.loc 0] st).bnd fun a_1 st => lstK st[rest.length + 1]? (fun xs => if xs.length < 16777216 then Res.ok PV.non (List.set st (rest.length + 1) (PO.lst (xs ++ [PV.tup [PV.str [114, 117, 108, 101], PV.str nm, a, encT t, a_1]]))) else Res.bad) Res.bad
          else Res.bad).wp (fun a_1 st => Y (Fl.nx [some (PV.loc 0), some HV, some (PV.loc (m + 1)), some (PV.int many), some v4, some (PV.loc (rest.length + 1)), some y, some (PV.str nm), some (encT t), x9, x10, some a]) st) NoX) NoX := by
        intro o x9 x10 v4 ho hv4
        subst hv4
        refine hp.lst (by simp) (by simp) rfl ho hrX2 fun v o3 hv ho3 => ?_
        obtain ⟨eff, rfl, heff⟩ : ∃ w, v = .str w ∧ isEff w := by
          simp at hv
          rcases hv with rfl | rfl
          · exact ⟨_, rfl, .inl rfl⟩
          · exact ⟨_, rfl, .inr rfl⟩
        rw [el2]
        simp
        refine h130.at ho3 hrX2 fun dv o4 ⟨du, e, hdu⟩ ho4 => ?_
        subst e
        simp [hef, show found.length < 16777216 by omega]
        refine hY _ _ ⟨found ++ [.rule nm eff t du], nms2, o4, _, _, _, _, _, _, by rw [el2], ho4, ?_, ?_, by simp; omega, ?_, hsub2, ?_⟩
        · rw [er2]; simp [encIs_map, encI]
        · refine Itms.ok_all.mpr fun x hx => ?_
          rcases List.mem_append.mp hx with hx | hx
          · exact Itms.ok_all.mp hok x hx
          · rw [List.mem_singleton.mp hx]; cases d <;> exact ⟨hnr, heff, told, dep, hdu⟩
        · rw [Itms.many_app]; simp [Itms.many, Itm.many]; omega
        · intro w
          have a1 := hcn w
          have a2 := hcn2 w
          rw [Itms.nms_app, List.count_append]
          simp only [Itms.nms, Itm.nms, List.append_nil]
          omega
      by_cases hd0 : d = 0
      · subst hd0
        simp
        exact rule o2 x9 x10 (.int 0) ho2 rfl
      · simp [hd0, show 0 < d by omega]
        refine hd.at (by omega) (by omega) ho2 hrX2 fun k o3 hk ho3 => ?_
        by_cases hk0 : k = 0
        · simp [hk0]
          refine hp.lst (by simp) (by simp) rfl ho3 hrX2 fun v o4 hv ho4 => ?_
          obtain ⟨way, rfl, hway⟩ : ∃ w, v = .str w ∧ isWay w := by
            simp at hv
            rcases hv with rfl | rfl | rfl | rfl
            · exact ⟨_, rfl, .inl rfl⟩
            · exact ⟨_, rfl, .inr (.inl rfl)⟩
            · exact ⟨_, rfl, .inr (.inr (.inl rfl))⟩
            · exact ⟨_, rfl, .inr (.inr (.inr rfl))⟩
          try simp
          refine hd.at (by omega) (by omega) ho4 hrX2 fun k2 o5 hk2 ho5 => ?_
          have hsd : ((d : Int) - 1) = ((d - 1 : Nat) : Int) := by omega
          rw [hsd]
          have hlX : (R2 ++ [PO.lst (encIs found)])[m]? = some (.lst (nms2.map .str)) := by rw [List.getElem?_append_left hmR2]; exact hRm2
          try simp
          refine wp_imp (hrec (by omega) k2 nms2 m o5 _ ho5 hrX2 hlX (fun w hw => hnm w (hsub2.subset hw)) (by omega) (by have := hsub2.length_le; omega)) ?_
          rintro v st ⟨its, nms3, o6, rfl, hiok, hil, him, his, ho6, rfl⟩
          rw [List.set_append_left _ _ hmR2]
          generalize hR3 : R2.set m (.lst (nms3.map .str)) = R3
          have er3 : R3 = rest.set m (.lst (nms3.map .str)) := by rw [← hR3, er2, List.set_set]
          have el3 : rest.length = R3.length := by rw [er3]; simp
          rw [el3]
          simp [hef, show found.length < 16777216 by omega]
          refine hY _ _ ⟨found ++ [.book nm t way its], nms3, o6, _, _, _, _, _, _, by rw [el3], ho6, ?_, ?_, by simp; omega, ?_, his.1.trans hsub2, ?_⟩
          · rw [er3]; simp [encIs_map, encI]
          · refine Itms.ok_all.mpr fun x hx => ?_
            rcases List.mem_append.mp hx with hx | hx
            · exact Itms.ok_all.mp hok x hx
            · rw [List.mem_singleton.mp hx]
              obtain ⟨d', rfl⟩ : ∃ d', d = d' + 1 := ⟨d - 1, by omega⟩
              exact ⟨hnr, told, dep, hway, hiok⟩
          · rw [Itms.many_app]; simp [Itms.many, Itm.many]; omega
          · intro w
            have a1 := hcn w
            have a2 := hcn2 w
            have a3 := his.2 w
            rw [Itms.nms_app, List.count_append]
            simp only [Itms.nms, Itm.nms, List.append_nil]
            rw [show nm :: Itms.nms its = [nm] ++ Itms.nms its from rfl, List.count_append]
            omega
        · simp [hk0]
          exact rule o3 x9 x10 (.int d) ho3 rfl
  · have e : rest.set m (.lst (names.map .str)) = rest := by
      obtain ⟨h1, h2⟩ := List.getElem?_eq_some_iff.mp hn
      rw [← h2]; exact List.set_getElem_self h1
    rw [e]; rfl
end
end MP.PL

/-! PL, part r3: policies are drawn. -/
namespace MP.PL
open PySem L2
/-- a while's turn -/
def whlQ (f : Env → Sto → Res Fl) (Q : Fl → Sto → Prop) (E : PX → Sto → Prop) (I : Nat → Env → Sto → Prop) (n : Nat) (s : Env) (st1 : Sto) : Prop := ∀ Z : Fl → Sto → Prop, (∀ r st, turnQ (fun s st => ∃ n', n' < n ∧ I n' s st) Q r st → Z r st) → (f s st1).wp Z E
theorem whl_sat {c : Env → Sto → Res Bool} {f : Env → Sto → Res Fl} {Q : Fl → Sto → Prop} {E : PX → Sto → Prop} (I : Nat → Env → Sto → Prop)
    (hstep : ∀ n s st, I n s st → (c s st).wp (fun b st1 => if b = true then whlQ f Q E I n s st1 else Q (.nx s) st1) E) :
    ∀ (k n : Nat) (s : Env) (st : Sto), n < k → I n s st → (whlL c f k s st).wp Q E
  | 0, n, s, st, h, _ => by omega
  | k + 1, n, s, st, h, hi => by
    rw [show whlL c f (k + 1) s st = (c s st).bnd fun b st1 => if b then (f s st1).bnd fun r st2 => match r with
      | .nx s1 => whlL c f k s1 st2
      | .ct s1 => whlL c f k s1 st2
      | .bk s1 => .ok (.nx s1) st2
      | .rt v => .ok (.rt v) st2
    else .ok (.nx s) st1 from rfl, s_bnd]
    refine wp_imp (hstep n s st hi) fun b st1 hb => ?_
    cases b with
    | false => simp at hb ⊢; exact hb
    | true =>
      simp only [if_true] at hb ⊢
      rw [s_bnd]
      refine hb _ fun r st2 hr => ?_
      cases r with
      | nx s1 => obtain ⟨n', h1, h2⟩ := hr; exact whl_sat I hstep k n' s1 st2 (by omega) h2
      | ct s1 => obtain ⟨n', h1, h2⟩ := hr; exact whl_sat I hstep k n' s1 st2 (by omega) h2
      | bk s1 => show (Res.ok _ _).wp _ _; rw [s_ok]; exact hr
      | rt v => show (Res.ok _ _).wp _ _; rw [s_ok]; exact hr
def polV (way : List Nat) (its : List Itm) : PV := .tup [.str [112, 111, 108, 105, 99, 121], .str way, .tup (encIs its)]
/-- the names that a policy may draw: ten fixed ones, a word, a word of two letters at most -/
def polNms : List (List Nat) := [[97], [98], [98, 105, 103], [107, 101, 121], [108, 111, 103], [110, 105, 103, 104, 116], [115, 116, 97, 102, 102], [119, 104, 111], [120], [122, 122]]
def NmsOk (its : List Itm) : Prop := (Itms.nms its).Nodup ∧ ∃ w1 w2 : List Nat, w2.length ≤ 2 ∧ ∀ w ∈ Itms.nms its, w ∈ polNms ++ [w1, w2]
theorem nodup_count {A : Type} [BEq A] [LawfulBEq A] : ∀ {l : List A}, (∀ w, l.count w ≤ 1) → l.Nodup
  | [], _ => List.nodup_nil
  | x :: l, h => by
    rw [List.nodup_cons]
    refine ⟨fun hx => ?_, nodup_count fun w => ?_⟩
    · have := h x
      rw [List.count_cons] at this
      have h2 := List.count_pos_iff.mpr hx
      simp at this
      omega
    · have := h w
      rw [List.count_cons] at this
      omega
theorem count_nodup {A : Type} [BEq A] [LawfulBEq A] {l : List A} (h : l.Nodup) (w : A) : l.count w ≤ 1 := by
  induction l with
  | nil => simp
  | cons x l ih =>
    rw [List.nodup_cons] at h
    rw [List.count_cons]
    by_cases q : (x == w) = true
    · have : x = w := by simpa using q
      subst this
      rw [List.count_eq_zero.mpr h.1]; simp
    · simp only [q]
      have := ih h.2
      simp; omega
section
variable {T : Tab} {fu : Nat} {s : Env} {st : Sto}
def PolicyAt (F : Fn) (fs : List Fld) : Prop := ∀ most : Nat, 0 < most → most ≤ 1000 → Draws F [houseV fs, .int most] (fun v => ∃ way its, v = polV way its ∧ isWay way ∧ Itms.ok fs 3 its ∧ Itms.many its ≤ most ∧ NmsOk its)
theorem policy_ok {fs : List Fld} (hfu : 20 ≤ fu) (hd : DipOk (T 6)) (hp : PickOk (T 7)) (hw : WordOk (T 8)) (h131 : ItemsAt (T 131) fs 3) : PolicyAt (run T fu 5 3 false TX.b132) fs := by
  intro most h0 h1 o rest ho hr
  refine run_sat rfl fun Z hZ => ?_
  generalize hHV : houseV fs = HV at *
  unfold ItemsAt at h131
  rw [hHV] at h131
  simp [TX.b132]
  have base : ∀ w ∈ ([[97], [98], [98, 105, 103], [107, 101, 121], [108, 111, 103], [110, 105, 103, 104, 116], [115, 116, 97, 102, 102], [119, 104, 111], [120], [122, 122]] : List (List Nat)), Nm w := by
    intro w hw
    simp at hw
    rcases hw with rfl | rfl | rfl | rfl | rfl | rfl | rfl | rfl | rfl | rfl <;> exact ⟨⟨by simp, by decide⟩, by simp⟩
  have eb : ([.str [97], .str [98], .str [98, 105, 103], .str [107, 101, 121], .str [108, 111, 103], .str [110, 105, 103, 104, 116], .str [115, 116, 97, 102, 102], .str [119, 104, 111], .str [120], .str [122, 122]] : List PV) = ([[97], [98], [98, 105, 103], [107, 101, 121], [108, 111, 103], [110, 105, 103, 104, 116], [115, 116, 97, 102, 102], [119, 104, 111], [120], [122, 122]] : List (List Nat)).map .str := rfl
  rw [eb]
  have bl : ([[97], [98], [98, 105, 103], [107, 101, 121], [108, 111, 103], [110, 105, 103, 104, 116], [115, 116, 97, 102, 102], [119, 104, 111], [120], [122, 122]] : List (List Nat)).length = 10 := rfl
  generalize hB : ([[97], [98], [98, 105, 103], [107, 101, 121], [108, 111, 103], [110, 105, 103, 104, 116], [115, 116, 97, 102, 102], [119, 104, 111], [120], [122, 122]] : List (List Nat)) = B at *
  have hrB := stb_last hr (lbs_str B)
  refine (hw 8 (by omega) (by omega)).at ho hrB fun a o1 ⟨w1, e, g1, l1⟩ ho1 => ?_
  subst e
  try simp
  refine (hw 2 (by omega) (by omega)).at ho1 hrB fun a o2 ⟨w2, e, g2, l2⟩ ho2 => ?_
  subst e
  have ba : binP .Add (.loc (rest.length + 1)) (.lst [.str w1, .str w2]) (o2 :: (rest ++ [PO.lst (B.map .str)])) = some (.lst ((B ++ [w1, w2]).map .str)) := by
    have q : seqOf (o2 :: (rest ++ [PO.lst (B.map .str)])) (.loc (rest.length + 1)) = some (true, B.map .str) := by simp
    simp only [binP, asInt, q, sq_lst]
    rw [if_pos (by rw [szl]; simp; omega)]
    simp
  simp [ba]
  have sr : ∀ st, srtP (.lst (B.map .str ++ [.str w1, .str w2])) st = some (.lst ((srtS (B ++ [w1, w2])).map .str)) := fun st => srt_strs (ws := B ++ [w1, w2]) (.inl (by simp)) (by simp; omega)
  rw [sr]
  have hnm : ∀ w ∈ srtS (B ++ [w1, w2]), Nm w := fun w hw => by
    rcases List.mem_append.mp (srtS_mem.mp hw) with h | h
    · exact base w h
    · simp at h
      rcases h with rfl | rfl
      · exact ⟨g1, l1⟩
      · exact ⟨g2, by omega⟩
  have hln := srtS_length (B ++ [w1, w2])
  simp [bl] at hln
  have hsr : (srtS (B ++ [w1, w2])).Nodup := (srtS_srt _).imp fun h e => absurd h (by rw [e]; exact List.lt_irrefl _)
  have hmem : ∀ w ∈ srtS (B ++ [w1, w2]), w ∈ B ++ [w1, w2] := fun w hw => srtS_mem.mp hw
  generalize srtS (B ++ [w1, w2]) = N at *
  simp
  obtain ⟨I, hI⟩ : ∃ I : Nat → Env → Sto → Prop, I = fun n s st => ∃ (nms : List (List Nat)) (o : PO), s = [some (.loc 0), some HV, some (.int most), some (.loc (rest.length + 2)), none] ∧ SpO o ∧ st = o :: (rest ++ [.lst (B.map .str), .lst (nms.map .str)]) ∧ (∀ w ∈ nms, Nm w) ∧ nms.length = n ∧ n ≤ 12 ∧ nms.Nodup ∧ ∀ w ∈ nms, w ∈ B ++ [w1, w2] := ⟨_, rfl⟩
  refine whl_sat I ?_ fu N.length _ _ (by omega) (by rw [hI]; exact ⟨N, o2, rfl, ho2, rfl, hnm, rfl, hln, hsr, hmem⟩)
  intro n s st hi
  rw [hI] at hi
  obtain ⟨nms, o, rfl, ho, rfl, hnm, rfl, hn12, hnd, hmm⟩ := hi
  have hr2 := stb_last2 hr (lbs_str B) (lbs_str nms)
  simp
  by_cases c : most < nms.length
  · simp [c]
    intro Y hY
    try simp
    refine hd.at (by omega) (by omega) ho hr2 fun r o3 hr3 ho3 => ?_
    have hlt : r < nms.length := by omega
    rw [mth_pop (n := rest.length + 2) (xs := nms.map .str) (x := .str nms[r]) (by simp) (by omega) (by simp [List.getElem?_eq_getElem hlt])]
    simp [map_erase]
    refine hY _ _ ⟨nms.length - 1, by omega, by rw [hI]; exact ⟨nms.eraseIdx r, o3, rfl, ho3, rfl, fun w hw => hnm w ((List.eraseIdx_sublist _ _).subset hw), List.length_eraseIdx_of_lt hlt, by omega, hnd.sublist (List.eraseIdx_sublist _ _), fun w hw => hmm w ((List.eraseIdx_sublist _ _).subset hw)⟩⟩
  · simp [c]
    refine hp.lst (by simp) (by simp) rfl ho hr2 fun v o3 hv ho3 => ?_
    obtain ⟨way, rfl, hway⟩ : ∃ w, v = .str w ∧ isWay w := by
      simp at hv
      rcases hv with rfl | rfl | rfl | rfl
      · exact ⟨_, rfl, .inl rfl⟩
      · exact ⟨_, rfl, .inr (.inl rfl)⟩
      · exact ⟨_, rfl, .inr (.inr (.inl rfl))⟩
      · exact ⟨_, rfl, .inr (.inr (.inr rfl))⟩
    try simp
    refine hd.at (by omega) (by omega) ho3 hr2 fun k o4 hk ho4 => ?_
    have ek : (1 : Int) + (k : Int) = ((1 + k : Nat) : Int) := by omega
    try simp
    rw [ek]
    refine wp_imp (h131 (1 + k) nms (rest.length + 1) o4 _ ho4 hr2 (by rw [List.getElem?_append_right (by omega)]; simp) hnm (by omega) (by omega)) ?_
    rintro v st ⟨its, nms3, o6, rfl, hiok, hil, him, his, ho6, rfl⟩
    rw [List.set_append_right _ _ (by omega)]
    simp
    refine hZ _ _ (endQ_draw (lb_mono (Nat.zero_le _) (show lb 0 (polV way its) = true by simp [polV, lb, lbs, encIs_lb])) ho6 hr ⟨way, its, rfl, hway, hiok, by omega, nodup_count fun w => ?_, w1, w2, l2, fun w hw => ?_⟩)
    · have a1 := his.2 w
      have a2 := count_nodup hnd w
      omega
    · have a1 := his.2 w
      have a2 := List.count_pos_iff.mpr hw
      have a3 : 0 < nms.count w := by omega
      show w ∈ ([[97], [98], [98, 105, 103], [107, 101, 121], [108, 111, 103], [110, 105, 103, 104, 116], [115, 116, 97, 102, 102], [119, 104, 111], [120], [122, 122]] : List (List Nat)) ++ [w1, w2]
      rw [hB]
      exact hmm w (List.count_pos_iff.mp a3)
end
end MP.PL

/-! PL, part t: partial requests; strings of rules, partial requests, outcomes. -/
namespace MP.PL
open PySem L2
/-- a value or none -/
def pvV : Option Vl → PV
  | none => .non
  | some v => vlV v
theorem pvV_lb (v : Option Vl) : lb 0 (pvV v) = true := by
  cases v with
  | none => rfl
  | some v => exact vlV_lb v
theorem lbs_pv (l : List (Option Vl)) : lbs 0 (l.map pvV) = true := lbs_map fun v _ => pvV_lb v
inductive Par : List Fld → List (Option Vl) → Prop
  | nil : Par [] []
  | cons {f fs p ps} : (∀ v, p = some v → v.fits f.mr.kd) → Par fs ps → Par (f :: fs) (p :: ps)
theorem Par.length {fs ps} (h : Par fs ps) : ps.length = fs.length := by
  induction h with
  | nil => rfl
  | cons _ _ ih => simp [ih]
theorem Par.append {fs gs ps qs} (h : Par fs ps) (g : Par gs qs) : Par (fs ++ gs) (ps ++ qs) := by
  induction h with
  | nil => exact g
  | cons a _ ih => exact .cons a ih
section
variable {T : Tab} {fu : Nat} {s : Env} {st : Sto}
def PartialOk (F : Fn) : Prop := ∀ (most : Nat) (fs : List Fld), most ≤ 1000 → HsOk most fs → Draws F [houseV fs] (fun v => ∃ ps : List (Option Vl), v = .tup (ps.map pvV) ∧ Par fs ps ∧ ∀ u, some u ∈ ps → shortV u)
theorem partial_ok (hd : DipOk (T 6)) (h25 : RequestOk (T 25)) : PartialOk (run T fu 4 2 false TX.b26) := by
  intro most fs hm hs o rest ho hr
  refine run_sat rfl fun Z hZ => ?_
  have hfew := hs.few
  generalize hHV : houseV fs = HV at *
  simp [TX.b26]
  have h25 := h25 most fs hm hs
  rw [hHV] at h25
  refine h25.at ho hr fun v o1 ⟨rq, e, hq, hsh⟩ ho1 => ?_
  subst e
  have hl := hq.length
  simp [e_lc, reqV]
  refine calm_sat ?_
  obtain ⟨I, hI⟩ : ∃ I : List PV → List PV → Sto → Prop, I = fun rem ys st => ∃ (r1 : List Vl) (fs1 fs2 : List Fld) (ps : List (Option Vl)) (o : PO), rem = r1.map vlV ∧ ys = ps.map pvV ∧ fs = fs1 ++ fs2 ∧ Req fs2 r1 ∧ (∀ u ∈ r1, shortV u) ∧ Par fs1 ps ∧ (∀ u, some u ∈ ps → shortV u) ∧ SpO o ∧ st = o :: rest := ⟨_, rfl⟩
  refine compL_sat I ?_ _ [] _ _ (by rw [hI]; exact ⟨rq, [], fs, [], o1, rfl, rfl, rfl, hq, hsh, .nil, by simp, ho1, rfl⟩) fun r st hr' => ?_
  · intro x xs ys st hi
    rw [hI] at hi
    obtain ⟨r1, fs1, fs2, ps, o, e1, rfl, rfl, hq, hsh, hp, hps, ho, rfl⟩ := hi
    cases r1 with
    | nil => cases e1
    | cons u r1 =>
      obtain ⟨rfl, rfl⟩ := List.cons.inj (by simpa using e1)
      cases hq with
      | @cons f _ fs2 _ hu hq =>
        simp
        refine hd.at (by omega) (by omega) ho hr fun k o2 hk ho2 => ?_
        have fin : ∀ p : Option Vl, (p = none ∨ p = some u) → I (r1.map vlV) (ps.map pvV ++ [pvV p]) (o2 :: rest) := fun p hp' => by
          rw [hI]
          refine ⟨r1, fs1 ++ [f], _, ps ++ [p], o2, rfl, by simp, by simp, hq, fun z hz => hsh z (List.mem_cons_of_mem _ hz), hp.append (.cons (fun v e => ?_) .nil), fun z hz => ?_, ho2, rfl⟩
          · rcases hp' with rfl | rfl
            · cases e
            · cases e; exact hu
          · rcases List.mem_append.mp hz with h | h
            · exact hps z h
            · rcases hp' with rfl | rfl
              · simp at h
              · simp at h; subst h; exact hsh z List.mem_cons_self
        by_cases hk0 : k = 0
        · simp [hk0]
          exact fin none (.inl rfl)
        · simp [hk0]
          exact fin (some u) (.inr rfl)
  · rw [hI] at hr'
    obtain ⟨r1, fs1, fs2, ps, o, e1, e2, rfl, hq, hsh, hp, hps, ho, rfl⟩ := hr'
    cases r1 with
    | cons u r1 => cases e1
    | nil =>
      cases hq
      simp at e2
      subst e2
      have := hp.length
      simp at hfew
      simp [show ps.length ≤ 16777216 by omega]
      exact hZ _ _ (endQ_draw0 (lb_mono (Nat.zero_le _) (show lb 0 (.tup (ps.map pvV)) = true from lbs_pv ps)) ho hr ⟨ps, rfl, by simpa using hp, hps⟩)
/-! ### strings -/
def VtxW (F : Fn) : Prop := ∀ v : Vl, (∀ i, v = .n i → i.natAbs.log2 < 12900) → Gives F [vlV v] (.str (vtx v))
theorem VtxW.ok {F : Fn} (h : VtxW F) : VtxOk F := fun v hv => h v fun i e => by subst e; exact dec_log hv.1 hv.2
theorem value_text_w : VtxW (run T fu 1 1 false TX.b710) := by
  intro v hv
  refine gives_of rfl rfl fun st hst Z hZ => ?_
  have hz := hZ []
  rw [List.append_nil] at hz
  clear hZ
  simp [TX.b710]
  cases v with
  | n i => simp [vlV, bi_stri (hv i rfl)]; exact hz
  | w z => simp [vlV]; exact hz
  | b k => cases k <;> (simp [vlV]; exact hz)
theorem l_value_text_w : VtxW (run T fu 1 1 false TX.b712) := by
  intro v hv
  refine gives_of rfl rfl fun st hst Z hZ => ?_
  have hz := hZ []
  rw [List.append_nil] at hz
  clear hZ
  simp [TX.b712]
  cases v with
  | n i => simp [vlV, bi_stri (hv i rfl)]; exact hz
  | w z => simp [vlV]; exact hz
  | b k => cases k <;> (simp [vlV]; exact hz)
theorem l_value_text_non : Gives (run T fu 1 1 false TX.b712) [.non] (.str [63]) := by
  refine gives_of rfl rfl fun st hst Z hZ => ?_
  have hz := hZ []
  rw [List.append_nil] at hz
  clear hZ
  simp [TX.b712, show isNonB .non = true from rfl]
  exact hz
/-- duties as they are told -/
def dtx (du : List (List Nat)) : List Nat := if du = [] then [45] else jn [46] du
theorem dtx_len {n : Nat} {du : List (List Nat)} (h : DutOk n du) : (dtx du).length ≤ 9 * n + 1 ∧ (du.map List.length).sum + du.length ≤ 9 * n := by
  have a1 := sum_le (ws := du) fun w hw => (h.2.2 w hw).2
  have a2 := jn_len [46] du
  have a3 := h.1
  simp at a2
  unfold dtx
  split
  · simp; omega
  · omega
def DtxOk (F : Fn) : Prop := ∀ (n : Nat) (du : List (List Nat)), n ≤ 1000 → DutOk n du → Gives F [dutV du] (.str (dtx du))
theorem duties_text_ok : DtxOk (run T fu 1 1 false TX.b716) := by
  intro n du hn hd
  refine gives_of rfl rfl fun st hst Z hZ => ?_
  have hz := hZ []
  rw [List.append_nil] at hz
  clear hZ
  have hl := dtx_len hd
  simp [TX.b716, dutV]
  by_cases c : du = []
  · subst c; simp; exact hz
  · simp [c]
    rw [m_joint (by simp; omega)]
    simp
    simpa [dtx, c] using hz
theorem l_duties_text_ok : DtxOk (run T fu 1 1 false TX.b720) := by
  intro n du hn hd
  refine gives_of rfl rfl fun st hst Z hZ => ?_
  have hz := hZ []
  rw [List.append_nil] at hz
  clear hZ
  have hl := dtx_len hd
  simp [TX.b720, dutV]
  by_cases c : du = []
  · subst c; simp; exact hz
  · simp [c]
    rw [m_joint (by simp; omega)]
    simp
    simpa [dtx, c] using hz
/-- a rule as it is told -/
def rtx (nm eff : List Nat) (t : Tst) (du : List (List Nat)) : List Nat := jn [32] [nm, eff, txt t, dtx du]
theorem rule_text_ok {fv : PV} (h711 : ∀ t : Tst, t.lean → t.dep ≤ 8 → TxtAt (T 711) [fv] t) (h716 : DtxOk (T 716)) {nm eff : List Nat} {t : Tst} {du : List (List Nat)} (h1 : nm.length ≤ 8) (h2 : eff.length ≤ 8) (h3 : t.lean) (h4 : t.dep ≤ 8) (h5 : DutOk 3 du) :
    Gives (run T fu 2 2 false TX.b717) [fv, encI (.rule nm eff t du)] (.str (rtx nm eff t du)) := by
  refine gives_of rfl rfl fun st hst Z hZ => ?_
  have hz := hZ []
  rw [List.append_nil] at hz
  clear hZ
  have sm := txt_small h3 h4
  have hl := dtx_len h5
  simp [TX.b717, encI]
  refine (h711 t h3 h4).at hst ?_
  try simp
  refine (h716 3 du (by omega) h5).at hst ?_
  try simp
  have := m_joinl (st := st) (a := [32]) (ws := [nm, eff, txt t, dtx du]) (by simp; omega)
  simp only [List.map_cons, List.map_nil] at this
  rw [this]
  simp
  exact hz
def ptx : Option Vl → List Nat
  | none => [63]
  | some v => vtx v
/-- no number is too long -/
def wideV (v : Vl) : Prop := (∀ i, v = .n i → i.natAbs.log2 < 12900) ∧ (vtx v).length ≤ 20000
theorem ptx_sum : ∀ {ps : List (Option Vl)}, (∀ u, some u ∈ ps → wideV u) → ((ps.map ptx).map List.length).sum ≤ 20000 * ps.length
  | [], _ => by simp
  | p :: ps, h => by
    have := ptx_sum (ps := ps) fun u hu => h u (List.mem_cons_of_mem _ hu)
    have : (ptx p).length ≤ 20000 := by
      cases p with
      | none => simp [ptx]
      | some u => exact (h u List.mem_cons_self).2
    simp only [List.map_cons, List.sum_cons, List.length_cons] at *
    omega
def PtxOk (F : Fn) (pre : List PV) : Prop := ∀ ps : List (Option Vl), ps.length ≤ 100 → (∀ u, some u ∈ ps → wideV u) → Gives F (pre ++ [.tup (ps.map pvV)]) (.str (jn [32] (ps.map ptx)))
theorem nb_vl (v : Vl) : isNonB (vlV v) = false := by cases v <;> rfl
theorem request_text_ok {fv : PV} (h710 : VtxW (T 710)) : PtxOk (run T fu 3 2 false TX.b718) [fv] := by
  intro ps hl hw
  refine gives_of rfl rfl fun st hst Z hZ => ?_
  have hz := hZ []
  rw [List.append_nil] at hz
  clear hZ
  have sm := ptx_sum hw
  simp [TX.b718, e_lc]
  rw [compL_one (g := fun p => PV.str (ptx p)) (fun p hp => by
    cases p with
    | none => simp [pvV, ptx, show isNonB .non = true from rfl]
    | some u => simp [pvV, ptx, nb_vl, h710 u (hw u hp).1 st hst])]
  simp [show ps.length ≤ 16777216 by omega]
  have := m_joinl (st := st) (a := [32]) (ws := ps.map ptx) (by simp at sm ⊢; omega)
  rw [List.map_map] at this
  rw [show (ps.map fun p => PV.str (ptx p)) = ps.map (PV.str ∘ ptx) from rfl, this]
  simp
  exact hz
theorem l_request_text_ok (h712 : VtxW (T 712)) (h712n : Gives (T 712) [.non] (.str [63])) : PtxOk (run T fu 2 1 false TX.b723) [] := by
  intro ps hl hw
  refine gives_of rfl rfl fun st hst Z hZ => ?_
  have hz := hZ []
  rw [List.append_nil] at hz
  clear hZ
  have sm := ptx_sum hw
  simp [TX.b723, e_lc]
  rw [compL_one (g := fun p => PV.str (ptx p)) (fun p hp => by
    cases p with
    | none => simp [pvV, ptx, h712n st hst]
    | some u => simp [pvV, ptx, h712 u (hw u hp).1 st hst])]
  simp [show ps.length ≤ 16777216 by omega]
  have := m_joinl (st := st) (a := [32]) (ws := ps.map ptx) (by simp at sm ⊢; omega)
  rw [List.map_map] at this
  rw [show (ps.map fun p => PV.str (ptx p)) = ps.map (PV.str ∘ ptx) from rfl, this]
  simp
  exact hz
def wNone : List Nat := [110, 111, 110, 101]
def wClash : List Nat := [99, 108, 97, 115, 104]
def isDec (w : List Nat) : Prop := w = wAllow ∨ w = wDeny ∨ w = wNone ∨ w = wClash
def otx (dec : List Nat) (du : List (List Nat)) : List Nat := if dec = wNone ∨ dec = wClash then dec else dec ++ [32] ++ dtx du
theorem in_nc {s : List Nat} (h : okS s = true) : cmpP .In (.str s) (.tup [.str [110, 111, 110, 101], .str [99, 108, 97, 115, 104]]) st = some (decide (s ∈ [[110, 111, 110, 101], [99, 108, 97, 115, 104]])) := by
  have := in_strs (st := st) (s := s) (ws := [[110, 111, 110, 101], [99, 108, 97, 115, 104]]) h (by decide)
  simpa using this
def OtxOk (F : Fn) : Prop := ∀ (dec : List Nat) (du : List (List Nat)), isDec dec → DutOk 8 du → Gives F [.tup [.str dec, dutV du]] (.str (otx dec du))
theorem outcome_text_ok (h716 : DtxOk (T 716)) : OtxOk (run T fu 1 1 false TX.b719) := by
  intro dec du hdec hdu
  refine gives_of rfl rfl fun st hst Z hZ => ?_
  have hz := hZ []
  rw [List.append_nil] at hz
  clear hZ
  have hl := dtx_len hdu
  simp [TX.b719]
  rcases hdec with rfl | rfl | rfl | rfl
  · rw [in_nc rfl]
    simp [wAllow, bin_str]
    refine (h716 8 du (by omega) hdu).at hst ?_
    simp [bin_str, show 6 + (dtx du).length ≤ 16777216 by omega]
    simpa [otx, wAllow, wNone, wClash] using hz
  · rw [in_nc rfl]
    simp [wDeny, bin_str]
    refine (h716 8 du (by omega) hdu).at hst ?_
    simp [bin_str, show 5 + (dtx du).length ≤ 16777216 by omega]
    simpa [otx, wDeny, wNone, wClash] using hz
  · rw [in_nc rfl]
    simp [wNone]
    simpa [otx, wNone, wClash] using hz
  · rw [in_nc rfl]
    simp [wClash]
    simpa [otx, wNone, wClash] using hz
theorem l_outcome_text_ok (h720 : DtxOk (T 720)) : OtxOk (run T fu 1 1 false TX.b721) := by
  intro dec du hdec hdu
  refine gives_of rfl rfl fun st hst Z hZ => ?_
  have hz := hZ []
  rw [List.append_nil] at hz
  clear hZ
  have hl := dtx_len hdu
  simp [TX.b721]
  rcases hdec with rfl | rfl | rfl | rfl
  · rw [in_nc rfl]
    simp [wAllow, bin_str]
    refine (h720 8 du (by omega) hdu).at hst ?_
    simp [bin_str, show 6 + (dtx du).length ≤ 16777216 by omega]
    simpa [otx, wAllow, wNone, wClash] using hz
  · rw [in_nc rfl]
    simp [wDeny, bin_str]
    refine (h720 8 du (by omega) hdu).at hst ?_
    simp [bin_str, show 5 + (dtx du).length ≤ 16777216 by omega]
    simpa [otx, wDeny, wNone, wClash] using hz
  · rw [in_nc rfl]
    simp [wNone]
    simpa [otx, wNone, wClash] using hz
  · rw [in_nc rfl]
    simp [wClash]
    simpa [otx, wNone, wClash] using hz
/-! ### the rules in a policy -/
mutual
def rulesI : Itm → List Itm
  | .rule a b c d => [.rule a b c d]
  | .book _ _ _ its => rulesIs its
def rulesIs : List Itm → List Itm
  | [] => []
  | x :: xs => rulesI x ++ rulesIs xs
end
theorem rulesIs_app : ∀ {l m : List Itm}, rulesIs (l ++ m) = rulesIs l ++ rulesIs m
  | [], m => by simp [rulesIs]
  | x :: xs, m => by simp [rulesIs, rulesIs_app (l := xs)]
mutual
theorem rulesI_len : ∀ x : Itm, (rulesI x).length ≤ x.many
  | .rule a b c d => by simp [rulesI, Itm.many]
  | .book _ _ _ its => by have := rulesIs_len its; simp [rulesI, Itm.many]; omega
theorem rulesIs_len : ∀ l : List Itm, (rulesIs l).length ≤ Itms.many l
  | [] => by simp [rulesIs]
  | x :: xs => by have := rulesI_len x; have := rulesIs_len xs; simp [rulesIs, Itms.many]; omega
end
theorem gives_new {n p : Nat} {b : RB} {vs xs : List PV} (hp : vs.length = p) (hl : lbs 0 xs = true)
    (h : ∀ st, StB st.length st → ∀ Z : Fl → Sto → Prop, (∀ more, Z (.rt (.loc st.length)) (st ++ (.lst xs :: more))) → (evB T fu b (vs.map some ++ List.replicate (n - vs.length) none) st).wp Z NoX) : Gives (run T fu n p false b) vs (.lst xs) := by
  intro st hs
  obtain ⟨f, st1, e, e1, more, e2⟩ := wp_eq (h st hs (fun f st1 => f = .rt (.loc st.length) ∧ ∃ more, st1 = st ++ (.lst xs :: more)) fun more => ⟨rfl, more, rfl⟩)
  subst e1 e2
  rw [run_eq hp e (.inl rfl)]
  have ht : (st ++ (PO.lst xs :: more)).take st.length = st := by simp
  rw [dropRes_new (Nat.le_refl _) (xs := xs) (by simp) (lbs_mono (Nat.zero_le _) hl) (by rw [ht]; exact hs), ht]
@[simp] theorem set_at {st ys : Sto} {x y : PO} : (st ++ (x :: ys)).set st.length y = st ++ (y :: ys) := by
  rw [List.set_append_right _ _ (Nat.le_refl _), Nat.sub_self]; rfl
theorem stb_new {st : Sto} {xs : List PV} (hs : StB st.length st) (hx : lbs 0 xs = true) : StB (st ++ [PO.lst xs]).length (st ++ [PO.lst xs]) := by
  refine StB.append (hs.mono (by simp)) fun o ho => ?_
  rw [List.mem_singleton.mp ho]
  exact lbs_mono (Nat.zero_le _) hx
def RulesAt (F : Fn) (its : List Itm) : Prop := Gives F [.tup (encIs its)] (.lst (encIs (rulesIs its)))
theorem rules_step {fs : List Fld} {d : Nat} (its : List Itm) (hok : Itms.ok fs d its) (hmy : Itms.many its ≤ 1000) (hrec : ∀ (d' : Nat) (l : List Itm), d = d' + 1 → Itms.ok fs d' l → Itms.many l ≤ 1000 → RulesAt (T 180) l) : RulesAt (run T fu 3 1 false TX.b180) its := by
  refine gives_new rfl (encIs_lb _) fun st hst Z hZ => ?_
  have hz := hZ []
  simp [TX.b180]
  refine forL_sat (fun rem s st1 => ∃ (x2 : Option PV) (don l : List Itm), its = don ++ l ∧ rem = encIs l ∧ s = [some (.tup (encIs its)), some (.loc st.length), x2] ∧ st1 = st ++ [.lst (encIs (rulesIs don))]) ?_ ?_ _ _ _ ⟨none, [], its, rfl, rfl, rfl, rfl⟩
  · rintro s st1 ⟨x2, don, l, e, e2, rfl, rfl⟩
    cases l with
    | cons x xs => cases e2
    | nil =>
      simp at e
      subst e
      simp
      exact hz
  · rintro y rem s st1 ⟨x2, don, l, e, e2, rfl, rfl⟩ Y hY
    cases l with
    | nil => cases e2
    | cons x xs =>
      obtain ⟨rfl, rfl⟩ := List.cons.inj e2
      have xok : Itm.ok fs d x := Itms.ok_all.mp hok x (by rw [e]; simp)
      have e3 : its = (don ++ [x]) ++ xs := by rw [e]; simp
      have xm : Itms.many don + x.many + Itms.many xs ≤ 1000 := by rw [e3, Itms.many_app, Itms.many_app] at hmy; simpa [Itms.many] using hmy
      have ld := rulesIs_len don
      have lx := rulesI_len x
      have el : ∀ l : List Itm, (encIs l).length = l.length := fun l => by rw [encIs_map]; simp
      have hs2 : StB (st ++ [PO.lst (encIs (rulesIs don))]).length (st ++ [PO.lst (encIs (rulesIs don))]) := stb_new hst (encIs_lb _)
      have fin : Y (.nx [some (.tup (encIs its)), some (.loc st.length), some (encI x)]) (st ++ [.lst (encIs (rulesIs don) ++ encIs (rulesI x))]) := by
        refine hY _ _ ⟨_, don ++ [x], xs, e3, rfl, rfl, ?_⟩
        rw [rulesIs_app, encIs_map, encIs_map, encIs_map]; simp [rulesIs]
      cases x with
      | rule a b c du =>
        simp [encI]
        rw [mth_extl (xs := encIs (rulesIs don)) (by simp) (by simp [el]; omega)]
        simp
        simpa [rulesI, encIs, encI] using fin
      | book a b c l =>
        cases d with
        | zero => exact xok.elim
        | succ d =>
          have hr := hrec d l rfl xok.2.2.2.2 (by simp [Itm.many] at xm; omega)
          simp [encI]
          refine Gives.at hr hs2 ?_
          rw [mth_extl (xs := encIs (rulesIs don)) (by simp) (by simp [el]; simp [rulesI] at lx; omega)]
          simp
          simpa [rulesI, encI] using fin
end
end MP.PL

/-! PL, part u: long numbers, many duties. -/
namespace MP.PL
open PySem L2
section
variable {T : Tab} {fu : Nat} {s : Env} {st : Sto}
def ManyDutiesOk (F : Fn) : Prop := Draws F [] (fun v => ∃ du, v = dutV du ∧ DutOk 8 du)
theorem many_duties_ok (hd : DipOk (T 6)) (hw : WordOk (T 8)) : ManyDutiesOk (run T fu 3 1 false TX.b726) := by
  intro o rest ho hr
  refine run_sat rfl fun Z hZ => ?_
  simp [TX.b726]
  refine hd.at (by omega) (by omega) ho (stb_last hr rfl) fun r o1 hr1 ho1 => ?_
  simp [rngR_int (n := (r : Int)) (by omega) (by omega)]
  refine forL_sat (fun rem s st => ∃ (ws : List (List Nat)) (o : PO) (x2 : Option PV), s = [some (.loc 0), some (.loc (rest.length + 1)), x2] ∧ SpO o ∧
      st = o :: (rest ++ [.lst (ws.map .str)]) ∧ (∀ w ∈ ws, Nm w) ∧ ws.length + rem.length = r) ?_ ?_ _ _ _ ⟨[], o1, none, rfl, ho1, by simp, by simp, by simp [rngL_length]⟩
  · rintro s st ⟨ws, o, x2, rfl, ho, rfl, hws, hl⟩
    simp at hl
    simp
    rw [srt_strs (ws := ws) (.inr ⟨_, rfl, by simp⟩) (by omega)]
    simp
    refine hZ _ _ (endQ_draw (P := fun v => ∃ du, v = dutV du ∧ DutOk 8 du) (lb_mono (Nat.zero_le _) (dutV_lb (srtS ws))) ho hr ⟨srtS ws, rfl, ?_, srtS_srt ws, fun w hw => hws w (srtS_mem.mp hw)⟩)
    have := srtS_length ws; omega
  · rintro y rem s st ⟨ws, o, x2, rfl, ho, rfl, hws, hl⟩ Y hY
    simp at hl
    have hr2 := stb_last hr (lbs_str ws)
    try simp
    refine (hw 8 (by omega) (by omega)).at ho hr2 fun a o3 ⟨w, e, h8, l8⟩ ho3 => ?_
    subst e
    simp [show ws.length < 16777216 by omega]
    refine hY _ _ ⟨ws ++ [w], o3, _, rfl, ho3, by simp, fun v hv => ?_, by simp; omega⟩
    rcases List.mem_append.mp hv with hv | hv
    · exact hws v hv
    · rw [List.mem_singleton.mp hv]; exact ⟨h8, l8⟩
theorem log2_of {n k : Nat} (h : n < 2 ^ k) (hk : 0 < k) : n.log2 < k := by
  by_cases z : n = 0
  · rw [z]; exact hk
  · exact (Nat.log2_lt z).mpr h
theorem p978 : 10 ^ 978 ≤ 2 ^ 12900 := by decide +kernel
theorem long_log {i : Nat} (h : i < 10 ^ 978) : i.log2 < 12900 := log2_of (Nat.lt_of_lt_of_le h p978) (by omega)
def LongOk (F : Fn) : Prop := Draws F [.int 16] (fun v => ∃ i : Nat, v = .int i ∧ i < 10 ^ 978)
theorem long_ok (hd : DipOk (T 6)) : LongOk (run T fu 4 2 false TX.b724) := by
  intro o rest ho hr
  refine run_sat rfl fun Z hZ => ?_
  simp [TX.b724]
  refine hd.at (by omega) (by omega) ho hr fun r o1 hr1 ho1 => ?_
  try simp
  refine hd.at (by omega) (by omega) ho1 hr fun n o2 hn ho2 => ?_
  simp [rngR_int (n := (n : Int)) (by omega) (by omega)]
  refine forL_sat (fun rem s st => ∃ (i k : Nat) (o : PO) (x3 : Option PV), s = [some (.loc 0), some (.int 16), some (.int i), x3] ∧ SpO o ∧ st = o :: rest ∧ i < 10 ^ (18 + 60 * k) ∧ k + rem.length ≤ 16) ?_ ?_ _ _ _ ⟨r, 0, o2, none, rfl, ho2, rfl, by
    have : r < 1000000000000000000 := by omega
    simpa using this, by rw [rngL_length]; omega⟩
  · rintro s st ⟨i, k, o, x3, rfl, ho, rfl, hi, hk⟩
    simp
    exact hZ _ _ (endQ_draw0 rfl ho hr ⟨i, rfl, Nat.lt_of_lt_of_le hi (Nat.pow_le_pow_right (by omega) (by simp at hk; omega))⟩)
  · rintro y rem s st ⟨i, k, o, x3, rfl, ho, rfl, hi, hk⟩ Y hY
    simp at hk
    have hl := long_log (Nat.lt_of_lt_of_le hi (Nat.pow_le_pow_right (by omega) (show 18 + 60 * k ≤ 978 by omega)))
    have hb : (1000000000000000000000000000000000000000000000000000000000000 : Nat).log2 < 100000 := by decide +kernel
    try simp
    rw [bin_mulw (by simp; omega) (by exact hb)]
    simp
    refine hd.at (by omega) (by omega) ho hr fun d o3 hd3 ho3 => ?_
    have e : (i : Int) * 1000000000000000000000000000000000000000000000000000000000000 + (d : Int) = ((i * 1000000000000000000000000000000000000000000000000000000000000 + d : Nat) : Int) := by omega
    simp
    rw [e]
    refine hY _ _ ⟨_, k + 1, o3, _, rfl, ho3, rfl, ?_, by omega⟩
    have e2 : 18 + 60 * (k + 1) = (18 + 60 * k) + 60 := by omega
    rw [e2, Nat.pow_add]
    generalize 10 ^ (18 + 60 * k) = P at *
    have e3 : (10 : Nat) ^ 60 = 1000000000000000000000000000000000000000000000000000000000000 := by decide
    rw [e3]
    omega
/-- a partial request's numbers made long -/
theorem short_wide {u : Vl} (h : shortV u) (hf : ∀ i, u = .n i → 0 ≤ i) : wideV u := by
  cases u with
  | n i =>
    have h0 := hf i rfl
    have h1 : i ≤ 1000000000000000000000000000000000000000 := h
    have hl : i.natAbs.log2 < 12900 := log2_of (Nat.lt_of_lt_of_le (show i.natAbs < 1000000000000000000000000000000000000001 by omega) (by decide +kernel)) (by omega)
    exact ⟨fun j e => by cases e; exact hl, by have := (toStr_ok (by omega) hl).1; show (decP i).length ≤ 20000; omega⟩
  | w s =>
    have h1 : s.length ≤ 12 := h
    exact ⟨(fun j e => nomatch e), by show s.length ≤ 20000; omega⟩
  | b k => exact ⟨(fun j e => nomatch e), by cases k <;> simp [vtx]⟩
theorem par_get {fs ps} (h : Par fs ps) : ∀ {i : Nat} {f : Fld}, fs[i]? = some f → ∃ p, ps[i]? = some p ∧ ∀ v, p = some v → v.fits f.mr.kd := by
  induction h with
  | nil => intro i f e; simp at e
  | @cons f fs p ps a _ ih =>
    intro i g e
    cases i with
    | zero => simp at e; subst e; exact ⟨p, rfl, a⟩
    | succ i => exact ih (by simpa using e)
def LengthOk (F : Fn) : Prop := ∀ (most : Nat) (fs : List Fld) (ps : List (Option Vl)), most ≤ 1000 → HsOk most fs → Par fs ps → (∀ u, some u ∈ ps → shortV u) →
  Draws F [fldsV fs, .tup (ps.map pvV)] (fun v => ∃ qs : List (Option Vl), v = .tup (qs.map pvV) ∧ qs.length = fs.length ∧ ∀ u, some u ∈ qs → wideV u)
theorem length_ok (hd : DipOk (T 6)) (h724 : LongOk (T 724)) : LengthOk (run T fu 6 3 false TX.b725) := by
  intro most fs ps hm hs hp hsh o rest ho hr
  refine run_sat rfl fun Z hZ => ?_
  have hfew := hs.few
  simp [TX.b725]
  have lF : ∀ st, biP .len [fldsV fs] st = some (.int fs.length) := fun st => by simp [fldsV]
  have gF : ∀ st (i : Nat), subP (fldsV fs) (.int i) st = (fs[i]?).map fldV := fun st i => by simp [fldsV, atI_nat]
  generalize hFV : fldsV fs = FV at lF gF
  simp [lF, rngR_int (n := (fs.length : Int)) (by omega) (by omega)]
  refine forL_sat (fun rem s st => ∃ (i : Nat) (qs : List (Option Vl)) (o : PO) (x4 x5 : Option PV), i ≤ fs.length ∧ rem = rngL i (fs.length - i) ∧ qs.length = i ∧ (∀ u, some u ∈ qs → wideV u) ∧ s = [some (.loc 0), some FV, some (.tup (ps.map pvV)), some (.loc (rest.length + 1)), x4, x5] ∧ SpO o ∧ st = o :: (rest ++ [.lst (qs.map pvV)]))
    ?_ ?_ _ _ _ ⟨0, [], o, none, none, Nat.zero_le _, by simp, rfl, by simp, rfl, ho, rfl⟩
  · rintro s st ⟨i, qs, o, x4, x5, hi, e, hq, hsh, rfl, ho, rfl⟩
    have : fs.length - i = 0 := by
      cases q : fs.length - i with
      | zero => rfl
      | succ k => rw [q] at e; cases e
    simp
    exact hZ _ _ (endQ_draw (P := fun v => ∃ qs : List (Option Vl), v = .tup (qs.map pvV) ∧ qs.length = fs.length ∧ ∀ u, some u ∈ qs → wideV u) (lb_mono (Nat.zero_le _) (show lb 0 (.tup (qs.map pvV)) = true from lbs_pv qs)) ho hr ⟨qs, rfl, by omega, hsh⟩)
  · rintro y rem s st ⟨i, qs, o, x4, x5, hi, e, hq, hwd, rfl, ho, rfl⟩ Y hY
    obtain ⟨k, hk⟩ : ∃ k, fs.length - i = k + 1 := by
      cases q : fs.length - i with
      | zero => rw [q] at e; cases e
      | succ k => exact ⟨k, rfl⟩
    rw [hk] at e
    obtain ⟨rfl, rfl⟩ : y = .int i ∧ rem = rngL ((i : Int) + 1) k := List.cons.inj e
    have hlt : i < fs.length := by omega
    obtain ⟨f, hf⟩ : ∃ f, fs[i]? = some f := ⟨_, List.getElem?_eq_getElem hlt⟩
    obtain ⟨p, hpi, hpf⟩ := par_get hp hf
    have hr2 := stb_last hr (lbs_pv qs)
    have lq : qs.length < 16777216 := by omega
    have wp0 : ∀ u, p = some u → wideV u := fun u e => short_wide (hsh u (by rw [← e]; exact List.mem_of_getElem? hpi)) fun j ej => by
      have := hpf u e
      subst ej
      cases hk : f.mr <;> rw [hk] at this <;> first | exact this | exact this.elim
    have fin : ∀ (q : Option Vl) (o : PO), SpO o → (∀ u, q = some u → wideV u) → Y (.nx [some (.loc 0), some FV, some (.tup (ps.map pvV)), some (.loc (rest.length + 1)), some (.int i), some (pvV q)]) (o :: (rest ++ [.lst (qs.map pvV ++ [pvV q])])) := by
      intro q o ho hu
      refine hY _ _ ⟨i + 1, qs ++ [q], o, _, _, by omega, ?_, by simp; omega, fun u hv => ?_, rfl, ho, by simp⟩
      · rw [show fs.length - (i + 1) = k by omega]; simp
      · rcases List.mem_append.mp hv with z | z
        · exact hwd u z
        · exact hu u (List.mem_singleton.mp z).symm
    simp [atI_nat, hpi, gF, hf, fldV]
    by_cases c : kdS f.mr.kd = [110, 117, 109, 98, 101, 114]
    · simp [c]
      cases p with
      | none =>
        simp [pvV, show isNonB .non = true from rfl, lq]
        have := fin none o ho fun u e => by cases e
        simpa [pvV] using this
      | some u =>
        simp [pvV, nb_vl]
        refine hd.at (by omega) (by omega) ho hr2 fun d o1 hd1 ho1 => ?_
        by_cases hd0 : d = 0
        · simp [hd0]
          refine h724.at ho1 hr2 fun v o2 ⟨z, e, hz⟩ ho2 => ?_
          subst e
          have hl := long_log hz
          simp [lq]
          have := fin (some (.n z)) o2 ho2 fun u e => by
            cases e
            exact ⟨fun j e => by cases e; simpa using hl, by have := (toStr_ok (i := (z : Int)) (k := 12900) (by omega) (by simpa using hl)).1; show (decP (z : Int)).length ≤ 20000; omega⟩
          simpa [pvV, vlV] using this
        · simp [hd0, lq]
          have := fin (some u) o1 ho1 wp0
          simpa [pvV] using this
    · simp [c, lq]
      have := fin p o ho wp0
      simpa using this
end
end MP.PL

/-! PL, part v: comprehensions of two fors, sorted sets, dicts of the module, repr of data. -/
namespace MP.PL
open PySem L2
section
variable {T : Tab} {fu : Nat} {s : Env} {st : Sto}
def turnD (T : Tab) (e : RE) (t1 : RT) (own1 : List Nat) (s1 : Env) (y : PV) (st4 : Sto) : Res (List PV) := match bindT st4 t1 y (wipeE s1 own1) with
  | some s2 => (evE T e s2 st4).bnd fun v st5 => .ok [v] st5
  | none => .bad
/-- one outer turn of a comprehension of two fors -/
def turn2 (T : Tab) (e : RE) (t t1 : RT) (own own1 : List Nat) (it1 : RI) (s : Env) (x : PV) (st2 : Sto) : Res (List PV) := match bindT st2 t x (wipeE s own) with
  | some s1 => (evI T it1 s1 st2).bnd fun src1 st3 => comp (turnD T e t1 own1 s1) src1 st3
  | none => .bad
theorem e_lc2 {e : RE} {t t1 : RT} {own own1 : List Nat} {it it1 : RI} : evE T (.lc2 e t t1 own own1 it it1) s st = (evI T it s st).bnd fun src st1 => (calmR (comp (turn2 T e t t1 own own1 it1 s) src st1)).bnd fun ys st2 => if ys.length ≤ 16777216 then .ok (.lst ys) st2 else .bad := by
  rw [evE, szl]; rfl
theorem e_ssc2 {e : RE} {t t1 : RT} {own own1 : List Nat} {it it1 : RI} : evE T (.ssc2 e t t1 own own1 it it1) s st = (evI T it s st).bnd fun src st1 => (calmR (comp (turn2 T e t t1 own own1 it1 s) src st1)).bnd fun ys st2 => optR (srtP (.lst ys) st2) st2 := by
  rw [evE]; rfl
theorem e_ssc {e : RE} {t : RT} {own : List Nat} {it : RI} {c : RO} : evE T (.ssc e t own it c) s st = (evI T it s st).bnd fun src st1 => (calmR (comp (turnC T e t own c s) src st1)).bnd fun ys st2 => optR (srtP (.lst ys) st2) st2 := by
  rw [evE]; rfl
@[simp] theorem turnD_name {e : RE} {i : Nat} {own1 : List Nat} {y : PV} : turnD T e (.name i) own1 s y st = (evE T e ((wipeE s own1).set i (some y)) st).bnd fun v st5 => .ok [v] st5 := id rfl
@[simp] theorem turn2_name {e : RE} {i : Nat} {t1 : RT} {own own1 : List Nat} {it1 : RI} {x : PV} : turn2 T e (.name i) t1 own own1 it1 s x st = (evI T it1 ((wipeE s own).set i (some x)) st).bnd fun src1 st3 => comp (turnD T e t1 own1 ((wipeE s own).set i (some x))) src1 st3 := id rfl
@[simp] theorem turn2_pair {e : RE} {i j : Nat} {t1 : RT} {own own1 : List Nat} {it1 : RI} {x y : PV} : turn2 T e (.pair (.name i) (.name j)) t1 own own1 it1 s (.tup [x, y]) st = (evI T it1 (((wipeE s own).set i (some x)).set j (some y)) st).bnd fun src1 st3 => comp (turnD T e t1 own1 (((wipeE s own).set i (some x)).set j (some y))) src1 st3 := id rfl
@[simp] theorem turnC_pair {e : RE} {i j : Nat} {own : List Nat} {x y : PV} : turnC T e (.pair (.name i) (.name j)) own .no s (.tup [x, y]) st = (evE T e (((wipeE s own).set i (some x)).set j (some y)) st).bnd fun y st4 => .ok [y] st4 := by
  unfold turnC
  simp only [bindT, Option.bind_some, o_no, Res.bnd_ok]
def dsubR (kvs : List (List Nat × PV)) (x : PV) (st : Sto) : Res PV := match x with
  | .str z => optR (kvs.lookup z) st
  | _ => .bad
@[simp] theorem dsubR_str {kvs : List (List Nat × PV)} {z : List Nat} : dsubR kvs (.str z) st = optR (kvs.lookup z) st := id rfl
@[simp] theorem e_dsub {x : String} {kvs : List (List Nat × PV)} {a : RE} : evE T (.dsub x kvs a) s st = (evE T a s st).bnd fun x st1 => dsubR kvs x st1 := by rw [evE]; rfl
def dinR (neg : Bool) (kvs : List (List Nat × PV)) (x : PV) (st : Sto) : Res PV := match x with
  | .str z => .ok (.bl (neg != (kvs.lookup z).isSome)) st
  | _ => .bad
@[simp] theorem dinR_str {neg : Bool} {kvs : List (List Nat × PV)} {z : List Nat} : dinR neg kvs (.str z) st = .ok (.bl (neg != (kvs.lookup z).isSome)) st := id rfl
@[simp] theorem e_din {neg : Bool} {x : String} {kvs : List (List Nat × PV)} {a : RE} : evE T (.din neg x kvs a) s st = (evE T a s st).bnd fun x st1 => dinR neg kvs x st1 := by rw [evE]; rfl
/-- a comprehension of two fors over data -/
theorem compL_flat {A : Type} {f : PV → Sto → Res (List PV)} {h : A → PV} {g : A → List PV} {xs : List A} (q : ∀ x ∈ xs, f (h x) st = .ok (g x) st) : compL f (xs.map h) st = .ok (xs.flatMap g) st := compL_map q
/-! ### repr -/
mutual
def rwt : PV → Nat
  | .str z => z.length
  | .int i => i.natAbs.log2 + 1
  | .tup xs => rwts xs
  | .lst xs => rwts xs
  | _ => 0
def rwts : List PV → Nat
  | [] => 0
  | x :: xs => rwt x + 1 + rwts xs
end
mutual
/-- data that repr shows, at most n deep -/
def shw : Nat → PV → Bool
  | _, .non => true
  | _, .bl _ => true
  | _, .int i => decide (i.natAbs < 10 ^ 500)
  | _, .str z => okS z
  | n + 1, .tup xs => shws n xs
  | n + 1, .lst xs => shws n xs
  | _, _ => false
def shws : Nat → List PV → Bool
  | _, [] => true
  | n, x :: xs => shw n x && shws n xs
end
theorem p500 : (10 : Nat) ^ 500 ≤ 2 ^ 1920 := by decide +kernel
mutual
theorem shw_data : ∀ {n : Nat} {v : PV}, shw n v = true → ∃ d, PV.data v = some d ∧ d.showable = true ∧ d.depth ≤ n ∧ d.leavesShort 501 = true ∧ d.weight ≤ rwt v
  | n, .non, _ => ⟨.none, by simp [PV.data], rfl, Nat.zero_le _, rfl, Nat.zero_le _⟩
  | n, .bl b, _ => ⟨.bool b, by simp [PV.data], rfl, Nat.zero_le _, rfl, Nat.zero_le _⟩
  | n, .int i, h => by
    simp only [shw, decide_eq_true_eq] at h
    refine ⟨.int i, by simp [PV.data], ?_, Nat.zero_le _, ?_, ?_⟩
    · simp only [PyData.showable, decide_eq_true_eq]
      exact log2_of (Nat.lt_of_lt_of_le h p500) (by omega)
    · simp only [PyData.leavesShort, PyData.shown]
      refine decide_eq_true ?_
      show (Str.ofString (toString i)).length ≤ 501
      rw [ofString_length]
      exact int_text_length_le10 (k := 500) (by decide) h
    · simp only [PyData.weight, rwt]
      split <;> omega
  | n, .str z, h => by
    simp only [shw, okS, List.all_eq_true, decide_eq_true_eq] at h
    refine ⟨.str ⟨z.toArray⟩, by simp [PV.data], rfl, Nat.zero_le _, ?_, ?_⟩
    · simp only [PyData.leavesShort, List.all_eq_true, decide_eq_true_eq]
      intro c hc
      have := h c (by simpa using hc)
      have e : (16 : Nat) ^ 8 = 4294967296 := by decide
      omega
    · simp [PyData.weight, rwt]
  | n + 1, .tup xs, h => by
    simp only [shw] at h
    obtain ⟨ds, e, h1, h2, h3, h4⟩ := shws_data h
    exact ⟨.tuple ds, by simp [PV.data, e], by simpa [PyData.showable] using h1, by simp only [PyData.depth]; omega, by simpa [PyData.leavesShort] using h3, by simpa [PyData.weight, rwt] using h4⟩
  | n + 1, .lst xs, h => by
    simp only [shw] at h
    obtain ⟨ds, e, h1, h2, h3, h4⟩ := shws_data h
    exact ⟨.list ds, by simp [PV.data, e], by simpa [PyData.showable] using h1, by simp only [PyData.depth]; omega, by simpa [PyData.leavesShort] using h3, by simpa [PyData.weight, rwt] using h4⟩
  | 0, .tup xs, h => by simp [shw] at h
  | 0, .lst xs, h => by simp [shw] at h
  | n, .dct xs, h => by cases n <;> simp [shw] at h
  | n, .loc xs, h => by cases n <;> simp [shw] at h
theorem shws_data : ∀ {n : Nat} {vs : List PV}, shws n vs = true → ∃ ds, PV.datas vs = some ds ∧ PyData.showableAll ds = true ∧ PyData.depthAll ds ≤ n ∧ PyData.leavesShortAll 501 ds = true ∧ PyData.weightAll ds ≤ rwts vs
  | n, [], _ => ⟨[], by simp [PV.datas], rfl, Nat.zero_le _, rfl, Nat.zero_le _⟩
  | n, v :: vs, h => by
    simp only [shws, Bool.and_eq_true] at h
    obtain ⟨d, e, h1, h2, h3, h4⟩ := shw_data h.1
    obtain ⟨ds, e', g1, g2, g3, g4⟩ := shws_data h.2
    refine ⟨d :: ds, by simp [PV.datas, e, e'], by simp [PyData.showableAll, h1, g1], ?_, by simp [PyData.leavesShortAll, h3, g3], ?_⟩
    · simp only [PyData.depthAll]; omega
    · simp only [PyData.weightAll, rwts]; omega
end
theorem shw_repr {v : PV} {n : Nat} (h : shw n v = true) (hn : n ≤ 64) (hw : rwt v ≤ 30000) : ∃ t, ∀ st, biP .repr [v] st = some (.str t) := by
  obtain ⟨d, e, h1, h2, h3, h4⟩ := shw_data h
  have hl := PyData.shown_le 501 (by omega) d h3
  have e2 : ∀ st, dataAt st v = some d := fun st => by
    have e3 : deref st v = some v := by
      cases v <;> first | rfl | (cases n <;> simp [shw] at h)
    simp only [dataAt, e3, Option.bind_some, e]
  refine ⟨d.shown.cps.toList, fun st => ?_⟩
  have hz : d.shown.length ≤ sizeLine := by
    rw [szl]
    have : 503 * d.weight ≤ 503 * 30000 := Nat.mul_le_mul_left _ (by omega)
    omega
  simp only [biP, e2, Option.bind_some, h1, Bool.true_and]
  rw [if_pos (by simp [hz]; omega)]
theorem shws_append {n : Nat} {a b : List PV} : shws n (a ++ b) = (shws n a && shws n b) := by
  induction a with
  | nil => simp [shws]
  | cons x a ih => simp [shws, ih, Bool.and_assoc]
theorem shws_all {n : Nat} : ∀ {xs : List PV}, shws n xs = true ↔ ∀ x ∈ xs, shw n x = true
  | [] => by simp [shws]
  | x :: xs => by simp [shws, shws_all (xs := xs)]
theorem shws_strs {n : Nat} {ws : List (List Nat)} (h : ∀ w ∈ ws, okS w = true) : shws n (ws.map .str) = true := shws_all.mpr fun x hx => by
  obtain ⟨w, hw, rfl⟩ := List.mem_map.mp hx
  cases n <;> exact h w hw
theorem rwts_strs {k : Nat} : ∀ {ws : List (List Nat)}, (∀ w ∈ ws, w.length ≤ k) → rwts (ws.map .str) ≤ (k + 1) * ws.length
  | [], _ => by simp [rwts]
  | w :: ws, h => by
    have h1 := h w List.mem_cons_self
    have h2 := rwts_strs (ws := ws) fun x hx => h x (List.mem_cons_of_mem _ hx)
    simp only [List.map_cons, rwts, rwt, List.length_cons, Nat.mul_add, Nat.mul_one]
    omega
theorem Nm.okS {w : List Nat} (h : Nm w) : PL.okS w = true := isW_okS h.1
end
end MP.PL

/-! PL, part w: what rules and books give: plain. -/
namespace MP.PL
open PySem L2
/-- what an item gives: decision, duties, who gave it -/
structure Rs where
  dec : List Nat
  du : List (List Nat)
  who : List (List Nat)
def rs0 : Rs := ⟨wNone, [], []⟩
def rsO (r : Rs) : PV := .tup [.str r.dec, dutV r.du]
def rsP (r : Rs) : PV := .tup [rsO r, .tup (r.who.map .str)]
def rsL (r : Rs) : PV := .lst [.str r.dec, dutV r.du, .tup (r.who.map .str)]
def othr (way : List Nat) : List Nat := if way = wDeny then wAllow else wDeny
def ranks (way : List Nat) : List (List Nat) := [way, wClash, othr way]
def picked (d : List Nat) (rs : List Rs) : List Rs := rs.filter fun r => decide (r.dec = d)
def merged (d : List Nat) (rs : List Rs) : Rs := ⟨d, if d = wClash then [] else srtS (rs.flatMap Rs.du), rs.flatMap Rs.who⟩
def byRank (rs : List Rs) : List (List Nat) → Rs
  | [] => rs0
  | d :: ds => if picked d rs = [] then byRank rs ds else merged d (picked d rs)
def byWay (way : List Nat) (rs : List Rs) : Rs :=
  if way = wDeny ∨ way = wAllow then byRank rs (ranks way)
  else match rs with
    | [] => rs0
    | r :: more => if way = wFirst ∨ more = [] then r else ⟨wClash, [], rs.flatMap Rs.who⟩
def live (rs : List Rs) : List Rs := rs.filter fun r => !decide (r.dec = wNone)
mutual
def resI (fs : List Fld) (rq : List Vl) : Itm → Rs
  | .rule nm eff t du => if so fs rq t then ⟨eff, du, [nm]⟩ else rs0
  | .book nm t way its => if so fs rq t then byWay way (live (resIs fs rq its)) else rs0
def resIs (fs : List Fld) (rq : List Vl) : List Itm → List Rs
  | [] => []
  | x :: xs => resI fs rq x :: resIs fs rq xs
end
theorem resIs_map (fs : List Fld) (rq : List Vl) : ∀ l : List Itm, resIs fs rq l = l.map (resI fs rq)
  | [] => rfl
  | x :: xs => by rw [resIs, resIs_map fs rq xs, List.map_cons]
/-- what n items may give -/
structure RsOk (n : Nat) (r : Rs) : Prop where
  dec : isDec r.dec
  du : r.du.length ≤ 3 * n
  who : r.who.length ≤ n
  duN : ∀ w ∈ r.du, Nm w
  whoN : ∀ w ∈ r.who, Nm w
/-- .. together -/
structure RssOk (n : Nat) (rs : List Rs) : Prop where
  dec : ∀ r ∈ rs, isDec r.dec
  du : (rs.flatMap Rs.du).length ≤ 3 * n
  who : (rs.flatMap Rs.who).length ≤ n
  duN : ∀ w ∈ rs.flatMap Rs.du, Nm w
  whoN : ∀ w ∈ rs.flatMap Rs.who, Nm w
theorem rs0_ok (n : Nat) : RsOk n rs0 := ⟨.inr (.inr (.inl rfl)), Nat.zero_le _, Nat.zero_le _, by simp [rs0], by simp [rs0]⟩
theorem RsOk.mono {m n : Nat} {r : Rs} (h : RsOk m r) (hm : m ≤ n) : RsOk n r := ⟨h.dec, by have := h.du; omega, by have := h.who; omega, h.duN, h.whoN⟩
theorem flat_filter {A : Type} (g : Rs → List A) (p : Rs → Bool) : ∀ rs : List Rs, ((rs.filter p).flatMap g).length ≤ (rs.flatMap g).length
  | [] => by simp
  | r :: rs => by
    have := flat_filter g p rs
    by_cases h : p r
    · simp [h]; simp at this; omega
    · simp [h]; simp at this; omega
theorem flat_sub {A : Type} (g : Rs → List A) (p : Rs → Bool) {rs : List Rs} {a : A} (h : a ∈ (rs.filter p).flatMap g) : a ∈ rs.flatMap g := by
  obtain ⟨r, h1, h2⟩ := List.mem_flatMap.mp h
  exact List.mem_flatMap.mpr ⟨r, (List.mem_filter.mp h1).1, h2⟩
theorem RssOk.filter {n : Nat} {rs : List Rs} (h : RssOk n rs) (p : Rs → Bool) : RssOk n (rs.filter p) :=
  ⟨fun r hr => h.dec r (List.mem_filter.mp hr).1, Nat.le_trans (flat_filter _ _ _) h.du, Nat.le_trans (flat_filter _ _ _) h.who, fun w hw => h.duN w (flat_sub _ _ hw), fun w hw => h.whoN w (flat_sub _ _ hw)⟩
theorem RssOk.one {n : Nat} {r : Rs} {rs : List Rs} (h : RssOk n (r :: rs)) : RsOk n r := by
  obtain ⟨h1, h2, h3, h4, h5⟩ := h
  simp only [List.flatMap_cons, List.length_append] at h2 h3
  exact ⟨h1 r (by simp), by omega, by omega, fun w hw => h4 w (by simp [hw]), fun w hw => h5 w (by simp [hw])⟩
theorem merged_ok {n : Nat} {rs : List Rs} {d : List Nat} (h : RssOk n rs) (hd : isDec d) : RsOk n (merged d rs) := by
  refine ⟨hd, ?_, h.who, ?_, h.whoN⟩
  · simp only [merged]
    split
    · simp
    · exact Nat.le_trans (srtS_length _) h.du
  · simp only [merged]
    split
    · simp
    · exact fun w hw => h.duN w (srtS_mem.mp hw)
theorem byRank_ok {n : Nat} {rs : List Rs} (h : RssOk n rs) : ∀ {ds : List (List Nat)}, (∀ d ∈ ds, isDec d) → RsOk n (byRank rs ds)
  | [], _ => rs0_ok n
  | d :: ds, hd => by
    simp only [byRank]
    split
    · exact byRank_ok h fun x hx => hd x (List.mem_cons_of_mem _ hx)
    · exact merged_ok (h.filter _) (hd d List.mem_cons_self)
theorem ranks_dec {way : List Nat} (h : way = wDeny ∨ way = wAllow) : ∀ d ∈ ranks way, isDec d := by
  rcases h with rfl | rfl <;> simp [ranks, othr, isDec, wDeny, wAllow, wClash, wNone]
theorem byWay_ok {n : Nat} {rs : List Rs} (way : List Nat) (h : RssOk n rs) : RsOk n (byWay way rs) := by
  unfold byWay
  split
  · rename_i hw; exact byRank_ok h (ranks_dec hw)
  · split
    · exact rs0_ok n
    · rename_i r more
      split
      · exact h.one
      · exact ⟨.inr (.inr (.inr rfl)), Nat.zero_le _, h.who, by simp, h.whoN⟩
mutual
theorem resI_ok {fs : List Fld} {rq : List Vl} : ∀ {d : Nat} {x : Itm}, Itm.ok fs d x → RsOk x.many (resI fs rq x)
  | d, .rule nm eff t du, h => by
    have h' : Nm nm ∧ isEff eff ∧ t.told fs ∧ t.dep ≤ 3 ∧ DutOk 3 du := by cases d <;> exact h
    simp only [resI]
    split
    · refine ⟨h'.2.1.elim .inl fun z => .inr (.inl z), by simpa [Itm.many] using h'.2.2.2.2.1, by simp [Itm.many], h'.2.2.2.2.2.2, ?_⟩
      simpa using h'.1
    · exact rs0_ok _
  | 0, .book _ _ _ _, h => h.elim
  | d + 1, .book nm t way its, h => by
    simp only [resI]
    split
    · have := resIs_ok (rq := rq) h.2.2.2.2
      exact (byWay_ok way (this.filter _)).mono (by simp [Itm.many])
    · exact rs0_ok _
theorem resIs_ok {fs : List Fld} {rq : List Vl} : ∀ {d : Nat} {l : List Itm}, Itms.ok fs d l → RssOk (Itms.many l) (resIs fs rq l)
  | d, [], _ => ⟨by simp [resIs], by simp [resIs], by simp [resIs], by simp [resIs], by simp [resIs]⟩
  | d, x :: xs, h => by
    have h' : Itm.ok fs d x ∧ Itms.ok fs d xs := by cases d <;> exact h
    have a := resI_ok (rq := rq) h'.1
    have b := resIs_ok (rq := rq) h'.2
    simp only [resIs]
    refine ⟨?_, ?_, ?_, ?_, ?_⟩
    · intro r hr
      rcases List.mem_cons.mp hr with rfl | hr
      · exact a.dec
      · exact b.dec r hr
    · have := a.du; have := b.du; simp only [List.flatMap_cons, List.length_append, Itms.many]; omega
    · have := a.who; have := b.who; simp only [List.flatMap_cons, List.length_append, Itms.many]; omega
    · intro w hw
      rw [List.flatMap_cons] at hw
      exact (List.mem_append.mp hw).elim (a.duN w) (b.duN w)
    · intro w hw
      rw [List.flatMap_cons] at hw
      exact (List.mem_append.mp hw).elim (a.whoN w) (b.whoN w)
end
theorem rsO_lb (r : Rs) : lb 0 (rsO r) = true := by
  show (true && (lb 0 (dutV r.du) && true)) = true
  rw [dutV_lb]; rfl
theorem rsP_lb (r : Rs) : lb 0 (rsP r) = true := by
  show (lb 0 (rsO r) && (lbs 0 (r.who.map .str) && true)) = true
  rw [rsO_lb, lbs_str]; rfl
theorem rsL_lb (r : Rs) : lb 0 (rsL r) = true := by
  show (true && (lb 0 (dutV r.du) && (lbs 0 (r.who.map .str) && true))) = true
  rw [dutV_lb, lbs_str]; rfl
theorem rsO_repr {n : Nat} {r : Rs} (h : RsOk n r) (hn : n ≤ 500) : ∃ t, ∀ st, biP .repr [rsO r] st = some (.str t) := by
  have hd := h.du
  refine shw_repr (n := 3) ?_ (by omega) ?_
  · have e : okS r.dec = true := by rcases h.dec with e | e | e | e <;> rw [e] <;> rfl
    show (okS r.dec && (shws 1 (r.du.map .str) && true)) = true
    rw [e, shws_strs fun w hw => (h.duN w hw).okS]; rfl
  · have e : r.dec.length ≤ 5 := by rcases h.dec with e | e | e | e <;> rw [e] <;> simp [wAllow, wDeny, wNone, wClash]
    have := rwts_strs (k := 8) (ws := r.du) fun w hw => (h.duN w hw).2
    show r.dec.length + 1 + (rwts (r.du.map .str) + 1 + 0) ≤ 30000
    omega
theorem who_repr {n : Nat} {r : Rs} (h : RsOk n r) (hn : n ≤ 500) : ∃ t, ∀ st, biP .repr [.tup (r.who.map .str)] st = some (.str t) := by
  have hd := h.who
  refine shw_repr (n := 3) ?_ (by omega) ?_
  · show shws 2 (r.who.map .str) = true
    exact shws_strs fun w hw => (h.whoN w hw).okS
  · have := rwts_strs (k := 8) (ws := r.who) fun w hw => (h.whoN w hw).2
    show rwts (r.who.map .str) ≤ 30000
    omega
section
variable {T : Tab} {fu : Nat} {s : Env} {st : Sto}
def JoinDuOk (F : Fn) : Prop := ∀ rs : List Rs, (rs.flatMap Rs.du).length < 4000 → Gives F [.lst (rs.map rsP)] (dutV (srtS (rs.flatMap Rs.du)))
theorem joined_duties_ok : JoinDuOk (run T fu 3 1 false TX.b163) := by
  intro rs hl
  refine gives_of rfl (dutV_lb _) fun st hst Z hZ => ?_
  have hz := hZ []
  rw [List.append_nil] at hz
  clear hZ
  simp [TX.b163, e_ssc2]
  rw [compL_flat (h := rsP) (g := fun r => r.du.map PV.str) fun r _ => by
    simp [rsP, rsO, dutV]
    rw [compL_one (g := PV.str) fun w _ => by simp]]
  simp only [calm_ok, s_ok, s_bnd]
  rw [show (rs.flatMap fun r => r.du.map PV.str) = (rs.flatMap Rs.du).map PV.str by rw [List.map_flatMap], srt_strs (.inl rfl) hl]
  simp
  exact hz
def JoinNmOk (F : Fn) : Prop := ∀ rs : List Rs, (rs.flatMap Rs.who).length < 4000 → Gives F [.lst (rs.map rsP)] (.tup ((rs.flatMap Rs.who).map .str))
theorem joined_names_ok : JoinNmOk (run T fu 3 1 false TX.b164) := by
  intro rs hl
  refine gives_of rfl (lbs_str _) fun st hst Z hZ => ?_
  have hz := hZ []
  rw [List.append_nil] at hz
  clear hZ
  simp [TX.b164, e_lc2]
  rw [compL_flat (h := rsP) (g := fun r => r.who.map PV.str) fun r _ => by
    simp [rsP, rsO, dutV]
    rw [compL_one (g := PV.str) fun w _ => by simp]]
  simp only [calm_ok, s_ok, s_bnd]
  rw [show (rs.flatMap fun r => r.who.map PV.str) = (rs.flatMap Rs.who).map PV.str by rw [List.map_flatMap], if_pos (by simp only [List.length_map]; omega)]
  simp
  exact hz
end
end MP.PL

/-! PL, part w2: outcomes: the program and the law. -/
namespace MP.PL
open PySem L2
theorem picked_nil {d : List Nat} {rs : List Rs} : picked d rs = [] ↔ d ∉ rs.map Rs.dec := by
  unfold picked
  rw [List.filter_eq_nil_iff, List.mem_map]
  constructor
  · rintro h ⟨r, hr, e⟩
    exact h r hr (by simp [e])
  · intro h r hr e
    exact h ⟨r, hr, by simpa using e⟩
theorem byRank_first {rs : List Rs} {d : List Nat} {l : List (List Nat)} : ∀ {ds : List (List Nat)}, (ds.filter fun d => decide (d ∈ rs.map Rs.dec)) = d :: l → byRank rs ds = merged d (picked d rs)
  | [], h => by simp at h
  | x :: ds, h => by
    simp only [byRank]
    by_cases q : x ∈ rs.map Rs.dec
    · rw [List.filter_cons_of_pos (by simpa using q)] at h
      obtain ⟨rfl, _⟩ := List.cons.inj h
      rw [if_neg (fun z => picked_nil.mp z q)]
    · rw [List.filter_cons_of_neg (by simpa using q)] at h
      rw [if_pos (picked_nil.mpr q)]
      exact byRank_first h
theorem ranks_hit {rs : List Rs} {way : List Nat} (hw : way = wDeny ∨ way = wAllow) (h0 : rs ≠ []) (h : ∀ r ∈ rs, isDec r.dec ∧ r.dec ≠ wNone) : ∃ d l, ((ranks way).filter fun d => decide (d ∈ rs.map Rs.dec)) = d :: l := by
  cases q : (ranks way).filter fun d => decide (d ∈ rs.map Rs.dec) with
  | cons d l => exact ⟨d, l, rfl⟩
  | nil =>
    exfalso
    rw [List.filter_eq_nil_iff] at q
    cases rs with
    | nil => exact h0 rfl
    | cons r rs =>
      obtain ⟨h1, h2⟩ := h r (by simp)
      have : r.dec ∈ ranks way := by
        rcases hw with rfl | rfl
        · rcases h1 with e | e | e | e
          · rw [e]; simp [ranks, othr, wDeny, wAllow]
          · rw [e]; simp [ranks]
          · exact absurd e h2
          · rw [e]; simp [ranks]
        · rcases h1 with e | e | e | e
          · rw [e]; simp [ranks]
          · rw [e]; simp [ranks, othr, wDeny, wAllow]
          · exact absurd e h2
          · rw [e]; simp [ranks]
      exact q _ this (by simp)
def ranksD : List (List Nat × PV) := [([100, 101, 110, 121], (.tup [(.str [100, 101, 110, 121]), (.str [99, 108, 97, 115, 104]), (.str [97, 108, 108, 111, 119])])), ([97, 108, 108, 111, 119], (.tup [(.str [97, 108, 108, 111, 119]), (.str [99, 108, 97, 115, 104]), (.str [100, 101, 110, 121])]))]
theorem ranksD_at {way : List Nat} (h : way = wDeny ∨ way = wAllow) : ranksD.lookup way = some (.tup ((ranks way).map .str)) := by
  rcases h with rfl | rfl <;> rfl
theorem ranksD_no {way : List Nat} (h : ¬ (way = wDeny ∨ way = wAllow)) : ranksD.lookup way = none := by
  have h1 : (way == [100, 101, 110, 121]) = false := by simp; exact fun e => h (.inl e)
  have h2 : (way == [97, 108, 108, 111, 119]) = false := by simp; exact fun e => h (.inr e)
  simp [ranksD, List.lookup, h1, h2]
@[simp] theorem turnQ_rt {I : Env → Sto → Prop} {Q : Fl → Sto → Prop} {v : PV} {st : Sto} : turnQ I Q (.rt v) st = Q (.rt v) st := id rfl
section
variable {T : Tab} {fu : Nat} {s : Env} {st : Sto}
def small (n : Nat) (rs : List Rs) : Prop := RssOk n rs ∧ n ≤ 500 ∧ rs.length ≤ 1000
def RankOk (F : Fn) : Prop := ∀ (n : Nat) (rs : List Rs) (way : List Nat), small n rs → (way = wDeny ∨ way = wAllow) → Gives F [.lst (rs.map rsP), .str way] (rsP (byRank rs (ranks way)))
theorem by_rank_ok (h163 : JoinDuOk (T 163)) (h164 : JoinNmOk (T 164)) : RankOk (run T fu 6 2 false TX.b165) := by
  intro n rs way ⟨hrs, hn, hlen⟩ hw
  refine gives_of rfl (rsP_lb _) fun st hst Z hZ => ?_
  have hz := hZ []
  rw [List.append_nil] at hz
  clear hZ
  simp [TX.b165]
  rw [show (List.lookup way [([100, 101, 110, 121], PV.tup [PV.str [100, 101, 110, 121], PV.str [99, 108, 97, 115, 104], PV.str [97, 108, 108, 111, 119]]), ([97, 108, 108, 111, 119], PV.tup [PV.str [97, 108, 108, 111, 119], PV.str [99, 108, 97, 115, 104], PV.str [100, 101, 110, 121]])]) = some (.tup ((ranks way).map .str)) from ranksD_at hw]
  simp
  have hdec := ranks_dec hw
  generalize ranks way = ds at hz hdec ⊢
  refine forL_sat (fun rem s st1 => ∃ (l : List (List Nat)) (x2 x3 x4 x5 : Option PV), rem = l.map .str ∧ byRank rs l = byRank rs ds ∧ s = [some (.lst (rs.map rsP)), some (.str way), x2, x3, x4, x5] ∧ st1 = st) ?_ ?_ _ _ _ ⟨ds, none, none, none, none, rfl, rfl, rfl, rfl⟩
  · rintro s st1 ⟨l, x2, x3, x4, x5, e, hb, rfl, rfl⟩
    cases l with
    | cons x xs => cases e
    | nil =>
      simp
      rw [← hb] at hz
      exact hz
  · rintro y rem s st1 ⟨l, x2, x3, x4, x5, e, hb, rfl, rfl⟩ Y hY
    cases l with
    | nil => cases e
    | cons d l =>
      obtain ⟨rfl, rfl⟩ := List.cons.inj e
      simp [e_lc]
      rw [compL_filter (h := rsP) (g := rsP) (p := fun r => decide (r.dec = d)) fun r _ => by
        simp [rsP, rsO]
        by_cases q : r.dec = d <;> simp [q]]
      have hp := hrs.filter fun r => decide (r.dec = d)
      have hpl : (rs.filter fun r => decide (r.dec = d)).length ≤ rs.length := List.length_filter_le _ _
      simp only [calm_ok, s_ok, s_bnd, List.length_map]
      rw [if_pos (by omega)]
      change byRank rs (d :: l) = _ at hb
      simp only [byRank] at hb
      change (if picked d rs = [] then byRank rs l else merged d (picked d rs)) = _ at hb
      unfold picked at hb
      by_cases q : (rs.filter fun r => decide (r.dec = d)) = []
      · rw [if_pos q] at hb
        rw [q]
        simp
        exact hY _ _ ⟨l, _, _, _, _, rfl, hb, rfl, rfl⟩
      · rw [if_neg q] at hb
        rw [← hb] at hz
        generalize (rs.filter fun r => decide (r.dec = d)) = ps at hp hpl q hz ⊢
        have q2 : ps.map rsP ≠ [] := by simpa using q
        have hdu := hp.du
        have hwho := hp.who
        simp [q]
        by_cases c : d = [99, 108, 97, 115, 104]
        · subst c
          simp
          refine (h164 ps (by omega)).at hst ?_
          try simp
          refine hY _ _ ?_
          simpa [merged, rsP, rsO, dutV, wClash] using hz
        · simp [c]
          refine (h163 ps (by omega)).at hst ?_
          try simp
          refine (h164 ps (by omega)).at hst ?_
          try simp
          refine hY _ _ ?_
          have c2 : d ≠ wClash := c
          simpa [merged, rsP, rsO, dutV, c2] using hz
def WayOk (F : Fn) : Prop := ∀ (n : Nat) (rs : List Rs) (way : List Nat), small n rs → Gives F [.lst (rs.map rsP), .str way] (rsP (byWay way rs))
theorem by_way_ok (h164 : JoinNmOk (T 164)) (h165 : RankOk (T 165)) : WayOk (run T fu 2 2 false TX.b166) := by
  intro n rs way hs
  refine gives_of rfl (rsP_lb _) fun st hst Z hZ => ?_
  have hz := hZ []
  rw [List.append_nil] at hz
  clear hZ
  simp [TX.b166]
  by_cases hw : way = wDeny ∨ way = wAllow
  · rw [if_pos (show way = [100, 101, 110, 121] ∨ way = [97, 108, 108, 111, 119] from hw)]
    simp
    refine (h165 n rs way hs hw).at hst ?_
    try simp
    unfold byWay at hz
    rw [if_pos hw] at hz
    exact hz
  · rw [if_neg (show ¬ (way = [100, 101, 110, 121] ∨ way = [97, 108, 108, 111, 119]) from hw)]
    unfold byWay at hz
    rw [if_neg hw] at hz
    obtain ⟨hrs, hn, hlen⟩ := hs
    have hwho := hrs.who
    cases rs with
    | nil => simp; exact hz
    | cons r more =>
      simp
      by_cases c : way = [102, 105, 114, 115, 116]
      · simp [c]
        have : Z (.rt (rsP r)) st := by simpa [c, wFirst] using hz
        exact this
      · simp [c]
        by_cases c2 : more = []
        · subst c2
          try simp
          simpa [wFirst, c] using hz
        · have c3 : ¬ ((more.length : Int) + 1 = 1) := by
            have : more.length ≠ 0 := by simpa using c2
            omega
          simp [c2, c3]
          have h := h164 (r :: more) (by omega)
          simp only [List.map_cons] at h
          refine h.at hst ?_
          try simp
          simpa [wFirst, c, c2, rsP, rsO, dutV, wClash] using hz
def TestInOk (F : Fn) : Prop := ∀ x : Itm, Gives F [encI x] (encT (match x with | .rule _ _ t _ => t | .book _ t _ _ => t))
theorem test_in_ok : TestInOk (run T fu 1 1 false TX.b127) := by
  intro x
  refine gives_of rfl (encT_lb _) fun st hst Z hZ => ?_
  have hz := hZ []
  rw [List.append_nil] at hz
  cases x with
  | rule a b t d => simp [TX.b127, encI]; exact hz
  | book a t b c => simp [TX.b127, encI]; exact hz
def ItemAt (F : Fn) (fs : List Fld) (rq : List Vl) (x : Itm) : Prop := Gives F [fldsV fs, encI x, reqV rq] (rsP (resI fs rq x))
def ItemsRAt (F : Fn) (fs : List Fld) (rq : List Vl) (its : List Itm) : Prop := ∀ way, Gives F [fldsV fs, .tup (encIs its), .str way, reqV rq] (rsP (byWay way (live (resIs fs rq its))))
theorem item_result_ok {fs : List Fld} {rq : List Vl} {d : Nat} {x : Itm} (hok : Itm.ok fs d x) (h127 : TestInOk (T 127)) (h102 : ∀ t : Tst, t.told fs → t.dep ≤ 3 → SoAt (T 102) fs rq t)
    (hrec : ∀ nm t way its, x = .book nm t way its → ItemsRAt (T 168) fs rq its) : ItemAt (run T fu 3 3 false TX.b167) fs rq x := by
  refine gives_of rfl (rsP_lb _) fun st hst Z hZ => ?_
  have hz := hZ []
  rw [List.append_nil] at hz
  clear hZ
  have h1 := h127 x
  have hsome : ∃ t, (match x with | .rule _ _ t _ => t | .book _ t _ _ => t) = t ∧ t.told fs ∧ t.dep ≤ 3 := by
    cases x with
    | rule a b t c => have h' : Nm a ∧ isEff b ∧ t.told fs ∧ t.dep ≤ 3 ∧ DutOk 3 c := by cases d <;> exact hok
                      exact ⟨t, rfl, h'.2.2.1, h'.2.2.2.1⟩
    | book a t b c =>
      cases d with
      | zero => exact hok.elim
      | succ d => exact ⟨t, rfl, hok.2.1, hok.2.2.1⟩
  obtain ⟨t, et, ht, hd⟩ := hsome
  rw [et] at h1
  simp [TX.b167]
  refine Gives.at h1 hst ?_
  try simp
  refine (h102 t ht hd).at hst ?_
  simp
  cases x with
  | rule a b t' c =>
    obtain rfl : t' = t := et
    simp only [resI] at hz
    by_cases q : so fs rq t'
    · rw [if_pos q] at hz
      simp [q, encI]
      simpa [rsP, rsO] using hz
    · rw [if_neg q] at hz
      simp [q]
      exact hz
  | book a t' b c =>
    obtain rfl : t' = t := et
    simp only [resI] at hz
    by_cases q : so fs rq t'
    · rw [if_pos q] at hz
      simp [q, encI]
      refine (hrec a t' b c rfl b).at hst ?_
      try simp
      exact hz
    · rw [if_neg q] at hz
      simp [q]
      exact hz
theorem small_live {fs : List Fld} {rq : List Vl} {d : Nat} {its : List Itm} (hok : Itms.ok fs d its) (hm : Itms.many its ≤ 500) : small (Itms.many its) (live (resIs fs rq its)) := by
  refine ⟨(resIs_ok hok).filter _, hm, ?_⟩
  have := Itms.len_many its
  have := List.length_filter_le (fun r => !decide (r.dec = wNone)) (resIs fs rq its)
  rw [resIs_map, List.length_map] at this
  rw [resIs_map]
  unfold live
  omega
theorem items_result_ok {fs : List Fld} {rq : List Vl} {d : Nat} {its : List Itm} (hok : Itms.ok fs d its) (hm : Itms.many its ≤ 500) (h166 : WayOk (T 166)) (h167 : ∀ x ∈ its, ItemAt (T 167) fs rq x) : ItemsRAt (run T fu 7 4 false TX.b168) fs rq its := by
  intro way
  refine gives_of rfl (rsP_lb _) fun st hst Z hZ => ?_
  have hz := hZ []
  rw [List.append_nil] at hz
  clear hZ
  have hl : its.length ≤ 500 := Nat.le_trans (Itms.len_many its) hm
  simp [TX.b168, e_lc, encIs_map]
  rw [compL_one (h := encI) (g := fun x => rsP (resI fs rq x)) fun x hx => by
    simp
    rw [h167 x hx st hst]; simp]
  simp [show its.length ≤ 16777216 by omega]
  rw [show (its.map fun x => rsP (resI fs rq x)) = (resIs fs rq its).map rsP by rw [resIs_map, List.map_map]; rfl]
  rw [compL_filter (h := rsP) (g := rsP) (p := fun r => !decide (r.dec = wNone)) fun r _ => by
    simp [rsP, rsO, wNone]
    by_cases q : r.dec = [110, 111, 110, 101] <;> simp [q]]
  have hs := small_live (rq := rq) hok hm
  have hlen := hs.2.2
  rw [show (List.filter (fun r => !decide (r.dec = wNone)) (resIs fs rq its)) = live (resIs fs rq its) from rfl]
  simp [show (live (resIs fs rq its)).length ≤ 16777216 by omega]
  refine (h166 _ _ way hs).at hst ?_
  try simp
  exact hz
def OutcomeAt (F : Fn) (fs : List Fld) (rq : List Vl) (its : List Itm) : Prop := ∀ way, Gives F [fldsV fs, polV way its, reqV rq] (rsO (byWay way (live (resIs fs rq its))))
theorem outcome_ok {fs : List Fld} {rq : List Vl} {its : List Itm} (h168 : ItemsRAt (T 168) fs rq its) : OutcomeAt (run T fu 3 3 false TX.b169) fs rq its := by
  intro way
  refine gives_of rfl (rsO_lb _) fun st hst Z hZ => ?_
  have hz := hZ []
  rw [List.append_nil] at hz
  simp [TX.b169, polV]
  refine (h168 way).at hst ?_
  simp [rsP]
  exact hz
def ToldByAt (F : Fn) (fs : List Fld) (rq : List Vl) (its : List Itm) : Prop := ∀ way, Gives F [fldsV fs, polV way its, reqV rq] (.tup ((byWay way (live (resIs fs rq its))).who.map .str))
theorem told_by_ok {fs : List Fld} {rq : List Vl} {its : List Itm} (h168 : ItemsRAt (T 168) fs rq its) : ToldByAt (run T fu 3 3 false TX.b176) fs rq its := by
  intro way
  refine gives_of rfl (lbs_str _) fun st hst Z hZ => ?_
  have hz := hZ []
  rw [List.append_nil] at hz
  simp [TX.b176, polV]
  refine (h168 way).at hst ?_
  simp [rsP]
  exact hz
/-! ### the law's own -/
def LItemAt (F : Fn) (fs : List Fld) (rq : List Vl) (x : Itm) : Prop := Gives F [fldsV fs, encI x, reqV rq] (rsL (resI fs rq x))
def LItemsAt (F : Fn) (fs : List Fld) (rq : List Vl) (its : List Itm) : Prop := ∀ way, isWay way → Gives F [fldsV fs, .str way, .tup (encIs its), reqV rq] (rsL (byWay way (live (resIs fs rq its))))
theorem l_result_ok {fs : List Fld} {rq : List Vl} {d : Nat} {x : Itm} (hok : Itm.ok fs d x) (h103 : ∀ t : Tst, t.told fs → t.dep ≤ 3 → SoAt (T 103) fs rq t)
    (hrec : ∀ nm t way its, x = .book nm t way its → LItemsAt (T 171) fs rq its) : LItemAt (run T fu 3 3 false TX.b170) fs rq x := by
  refine gives_of rfl (rsL_lb _) fun st hst Z hZ => ?_
  have hz := hZ []
  rw [List.append_nil] at hz
  clear hZ
  cases x with
  | rule a b t c =>
    have h' : Nm a ∧ isEff b ∧ t.told fs ∧ t.dep ≤ 3 ∧ DutOk 3 c := by cases d <;> exact hok
    simp [TX.b170, encI]
    refine (h103 t h'.2.2.1 h'.2.2.2.1).at hst ?_
    simp only [resI] at hz
    by_cases q : so fs rq t
    · rw [if_pos q] at hz
      simp [q]
      simpa [rsL] using hz
    · rw [if_neg q] at hz
      simp [q]
      exact hz
  | book a t b c =>
    cases d with
    | zero => exact hok.elim
    | succ d =>
    simp [TX.b170, encI]
    refine (h103 t hok.2.1 hok.2.2.1).at hst ?_
    simp only [resI] at hz
    by_cases q : so fs rq t
    · rw [if_pos q] at hz
      simp [q]
      refine (hrec a t b c rfl b hok.2.2.2.1).at hst ?_
      try simp
      exact hz
    · rw [if_neg q] at hz
      simp [q]
      exact hz
@[simp] theorem get_at0 {st ys : Sto} {x : PO} : (st ++ (x :: ys))[st.length]? = some x := by
  rw [List.getElem?_append_right (Nat.le_refl _), Nat.sub_self]; rfl
@[simp] theorem get_at1 {st ys : Sto} {x y : PO} : (st ++ (x :: y :: ys))[st.length + 1]? = some y := by
  rw [List.getElem?_append_right (by omega), show st.length + 1 - st.length = 1 by omega]; rfl
@[simp] theorem set_at1 {st ys : Sto} {x y z : PO} : (st ++ (x :: y :: ys)).set (st.length + 1) z = st ++ (x :: z :: ys) := by
  rw [List.set_append_right _ _ (by omega), show st.length + 1 - st.length = 1 by omega]; rfl
theorem in_strsl {st : Sto} {s : List Nat} {ws : List (List Nat)} (h : okS s = true) (hw : ∀ w ∈ ws, okS w = true) : cmpP .In (.str s) (.lst (ws.map .str)) st = some (decide (s ∈ ws)) := in_strs (st := st) h hw
def tail171 : RB := .cons (.par 9 10 (.new .nil) (.new .nil))
    (.cons (.for (.name 7) (.seq (.var 4)) (.cons (.exp (.mth .extend (.var 9) (.cons (.sub (.var 7) (.cst (.int 1))) .nil)))
    (.cons (.exp (.mth .extend (.var 10) (.cons (.sub (.var 7) (.cst (.int 2))) .nil)))
    .nil)))
    (.cons (.ret (.lst (.cons (.var 6) (.cons (.ifx (.cmp .Eq (.var 6) (.cst (.str [99, 108, 97, 115, 104]))) (.tup .nil) (.bi .tuple (.cons (.srt (.var 9)) .nil))) (.cons (.bi .tuple (.cons (.var 10) .nil)) .nil)))))
    .nil))
theorem tail171_ok {n : Nat} {ps : List Rs} {d : List Nat} {x0 x1 x2 x3 x5 x7 x8 x9 x10 x11 x12 : Option PV} {Z : Fl → Sto → Prop} (hs : RssOk n ps) (hn : n ≤ 500) (hZ : ∀ more, Z (.rt (rsL (merged d ps))) (st ++ more)) :
    (evB T fu tail171 [x0, x1, x2, x3, some (.lst (ps.map rsL)), x5, some (.str d), x7, x8, x9, x10, x11, x12] st).wp Z NoX := by
  have hdu := hs.du
  have hwho := hs.who
  simp [tail171]
  refine forL_sat (fun rem s st1 => ∃ (don l : List Rs) (x7 : Option PV), ps = don ++ l ∧ rem = l.map rsL ∧ s = [x0, x1, x2, x3, some (.lst (ps.map rsL)), x5, some (.str d), x7, x8, some (.loc st.length), some (.loc (st.length + 1)), x11, x12] ∧ st1 = st ++ [.lst ((don.flatMap Rs.du).map .str), .lst ((don.flatMap Rs.who).map .str)]) ?_ ?_ _ _ _ ⟨[], ps, x7, rfl, rfl, rfl, by simp⟩
  · rintro s st1 ⟨don, l, x7, e, e2, rfl, rfl⟩
    cases l with
    | cons x xs => cases e2
    | nil =>
      rw [List.append_nil] at e
      subst e
      have hz := hZ [.lst ((ps.flatMap Rs.du).map .str), .lst ((ps.flatMap Rs.who).map .str)]
      simp
      by_cases c : d = [99, 108, 97, 115, 104]
      · subst c
        simp
        simpa [merged, rsL, wClash, dutV] using hz
      · simp [c]
        rw [srt_strs (ws := ps.flatMap Rs.du) (.inr ⟨_, rfl, by simp⟩) (by omega)]
        simp
        have c2 : d ≠ wClash := c
        simpa [merged, rsL, c2, dutV] using hz
  · rintro y rem s st1 ⟨don, l, x7, e, e2, rfl, rfl⟩ Y hY
    cases l with
    | nil => cases e2
    | cons r l =>
      obtain ⟨rfl, rfl⟩ := List.cons.inj e2
      have e3 : ps = (don ++ [r]) ++ l := by rw [e]; simp
      rw [e3] at hdu hwho
      simp only [List.flatMap_append, List.flatMap_cons, List.flatMap_nil, List.append_nil, List.length_append] at hdu hwho
      simp [rsL, dutV]
      rw [mth_extt (xs := (don.flatMap Rs.du).map .str) (by simp) (by simp only [List.length_map]; omega)]
      simp
      rw [mth_extt (xs := (don.flatMap Rs.who).map .str) (by simp) (by simp only [List.length_map]; omega)]
      simp
      exact hY _ _ ⟨don ++ [r], l, _, e3, rfl, rfl, by simp⟩
theorem l_results_ok {fs : List Fld} {rq : List Vl} {d : Nat} {its : List Itm} (hok : Itms.ok fs d its) (hm : Itms.many its ≤ 500) (h170 : ∀ x ∈ its, LItemAt (T 170) fs rq x) : LItemsAt (run T fu 13 4 false TX.b171) fs rq its := by
  intro way hway
  refine gives_of rfl (rsL_lb _) fun st hst Z hZ => ?_
  have hl : its.length ≤ 500 := Nat.le_trans (Itms.len_many its) hm
  simp [TX.b171, e_lc, encIs_map]
  rw [compL_one (h := encI) (g := fun x => rsL (resI fs rq x)) fun x hx => by
    simp
    rw [h170 x hx st hst]; simp]
  simp [show its.length ≤ 16777216 by omega]
  rw [show (its.map fun x => rsL (resI fs rq x)) = (resIs fs rq its).map rsL by rw [resIs_map, List.map_map]; rfl]
  rw [compL_filter (h := rsL) (g := rsL) (p := fun r => !decide (r.dec = wNone)) fun r _ => by
    simp [rsL, wNone]
    by_cases q : r.dec = [110, 111, 110, 101] <;> simp [q]]
  have hs := small_live (rq := rq) hok hm
  rw [show (List.filter (fun r => !decide (r.dec = wNone)) (resIs fs rq its)) = live (resIs fs rq its) from rfl]
  have hno : ∀ r ∈ live (resIs fs rq its), r.dec ≠ wNone := fun r hr => by
    have := (List.mem_filter.mp hr).2
    simpa using this
  generalize live (resIs fs rq its) = rs at hs hno hZ ⊢
  obtain ⟨hrs, hn, hlen⟩ := hs
  simp [show rs.length ≤ 16777216 by omega]
  by_cases h0 : rs = []
  · subst h0
    have hz := hZ []
    rw [List.append_nil] at hz
    have e : byWay way [] = rs0 := by
      unfold byWay
      split
      · simp [ranks, byRank, picked]
      · rfl
    rw [e] at hz
    simp
    exact hz
  · have hz1 := fun (v : Rs) (e : byWay way rs = v) => by
      have := hZ []
      rw [List.append_nil, e] at this
      exact this
    have e5 : compL (turnC T (.sub (.var 7) (.cst (.int 0))) (.name 7) [7] .no [some (fldsV fs), some (.str way), some (.tup (its.map encI)), some (reqV rq), some (.lst (rs.map rsL)), none, none, none, none, none, none, none, none]) (rs.map rsL) st = .ok ((rs.map Rs.dec).map .str) st := by
      rw [compL_one (h := rsL) (g := fun r => PV.str r.dec) fun r _ => by simp [rsL]]
      simp
    have len0 : ¬ rs.length = 0 := by simpa using h0
    have hd0 : ∃ r more, rs = r :: more := by
      cases rs with
      | nil => exact absurd rfl h0
      | cons r more => exact ⟨r, more, rfl⟩
    have at0 : ∀ r more, rs = r :: more → atI (rs.map rsL) 0 = some (rsL r) := fun r more e => by rw [e]; simp
    obtain ⟨r, more, er⟩ := hd0
    simp [h0, at0 r more er]
    by_cases c1 : way = [102, 105, 114, 115, 116]
    · subst c1
      simp
      exact hz1 r (by rw [er]; rfl)
    · simp [c1]
      by_cases c2 : way = [111, 110, 101]
      · subst c2
        simp
        by_cases c3 : rs.length = 1
        · simp [c3]
          refine hz1 r ?_
          have : more = [] := by rw [er] at c3; simpa using c3
          rw [er, this]; rfl
        · simp [c3, e_lc]
          rw [e5]
          simp [show rs.length ≤ 16777216 by omega]
          have : more ≠ [] := by rintro rfl; rw [er] at c3; simp at c3
          have e6 : byWay [111, 110, 101] rs = merged [99, 108, 97, 115, 104] rs := by
            rw [er]
            simp [byWay, wDeny, wAllow, wFirst, this, merged, wClash]
          have tl := tail171_ok (T := T) (fu := fu) (st := st) (x0 := some (fldsV fs)) (x1 := some (.str [111, 110, 101])) (x2 := some (.tup (its.map encI))) (x3 := some (reqV rq)) (x5 := some (.lst (rs.map (PV.str ∘ Rs.dec)))) (x7 := none) (x8 := none) (x9 := none) (x10 := none) (x11 := none) (x12 := none) (ps := rs) (d := [99, 108, 97, 115, 104]) (Z := Z) hrs hn fun m => by rw [← e6]; exact hZ m
          simp [tail171] at tl
          exact tl
      · have hw : way = wDeny ∨ way = wAllow := by
          rcases hway with e | e | e | e
          · exact absurd e c1
          · exact .inl e
          · exact .inr e
          · exact absurd e c2
        obtain ⟨d, l, hf⟩ := ranks_hit hw h0 fun r hr => ⟨hrs.dec r hr, hno r hr⟩
        have e6 : byWay way rs = merged d (picked d rs) := by
          unfold byWay
          rw [if_pos hw, byRank_first hf]
        have eo : (if way = [100, 101, 110, 121] then (Res.ok (PV.str [97, 108, 108, 111, 119]) st : Res PV) else Res.ok (PV.str [100, 101, 110, 121]) st) = .ok (.str (othr way)) st := by
          unfold othr
          by_cases q : way = [100, 101, 110, 121]
          · rw [if_pos q, if_pos (show way = wDeny from q)]; rfl
          · rw [if_neg q, if_neg (show ¬ way = wDeny from q)]; rfl
        have okw : ∀ w, isDec w → okS w = true := fun w hw => by rcases hw with e | e | e | e <;> rw [e] <;> rfl
        have indec : ∀ w, isDec w → cmpP .In (.str w) (.lst (rs.map (PV.str ∘ Rs.dec))) st = some (decide (w ∈ rs.map Rs.dec)) := fun w hw => by
          have := in_strsl (st := st) (s := w) (ws := rs.map Rs.dec) (okw w hw) fun u hu => by
            obtain ⟨r, hr, rfl⟩ := List.mem_map.mp hu
            exact okw _ (hrs.dec r hr)
          rwa [List.map_map] at this
        simp [c2, e_lc]
        rw [e5]
        simp [show rs.length ≤ 16777216 by omega]
        rw [eo]
        simp
        rw [show [PV.str way, PV.str [99, 108, 97, 115, 104], PV.str (othr way)] = (ranks way).map .str from rfl]
        rw [compL_filter (h := PV.str) (g := PV.str) (p := fun d => decide (d ∈ rs.map Rs.dec)) fun w hw2 => by
          have hd := ranks_dec hw w hw2
          simp [indec w hd]
          by_cases q : w ∈ rs.map Rs.dec
          · have q' : ∃ a, a ∈ rs ∧ a.dec = w := by simpa using q
            simp [q']
          · have q' : ¬ ∃ a, a ∈ rs ∧ a.dec = w := by simpa using q
            simp [q']]
        rw [hf]
        have hln : l.length ≤ 3 := by
          have := List.length_filter_le (fun d => decide (d ∈ rs.map Rs.dec)) (ranks way)
          rw [hf] at this
          simp [ranks] at this
          omega
        simp [show l.length + 1 ≤ 16777216 by omega]
        rw [compL_filter (h := rsL) (g := rsL) (p := fun r => decide (r.dec = d)) fun r _ => by
          simp [rsL]
          by_cases q : r.dec = d <;> simp [q]]
        rw [show (List.filter (fun r => decide (r.dec = d)) rs) = picked d rs from rfl]
        have hpl : (picked d rs).length ≤ 1000 := Nat.le_trans (List.length_filter_le _ _) hlen
        simp [show (picked d rs).length ≤ 16777216 by omega]
        have tl := tail171_ok (T := T) (fu := fu) (st := st) (x0 := some (fldsV fs)) (x1 := some (.str way)) (x2 := some (.tup (its.map encI))) (x3 := some (reqV rq)) (x5 := some (.lst (rs.map (PV.str ∘ Rs.dec)))) (x7 := none) (x8 := some (.lst ((ranks way).map .str))) (x9 := none) (x10 := none) (x11 := none) (x12 := none) (ps := picked d rs) (d := d) (Z := Z) (hrs.filter _) hn fun m => by rw [← e6]; exact hZ m
        simp [tail171] at tl
        exact tl
end
end MP.PL

/-! PL, part w3: outcomes in any module that has these defs. -/
namespace MP.PL
open PySem L2
@[simp] theorem cut_to2 {A : Type} {xs : List A} : cutP xs none (some 2) = xs.take 2 := cut_pre (k := 2)
section
variable {T : Tab} {fu : Nat}
def LOutcomeAt (F : Fn) (fs : List Fld) (rq : List Vl) (its : List Itm) : Prop := ∀ way, isWay way → Gives F [fldsV fs, polV way its, reqV rq] (rsO (byWay way (live (resIs fs rq its))))
theorem l_outcome_ok {fs : List Fld} {rq : List Vl} {its : List Itm} (h171 : LItemsAt (T 171) fs rq its) : LOutcomeAt (run T fu 3 3 false TX.b172) fs rq its := by
  intro way hw
  refine gives_of rfl (rsO_lb _) fun st hst Z hZ => ?_
  have hz := hZ []
  rw [List.append_nil] at hz
  simp [TX.b172, polV]
  refine (h171 way hw).at hst ?_
  simp [rsL]
  exact hz
end
section
variable {rows : Rows} {fu : Nat}
theorem so_lvl (l35 : TX.H35 rows) (l102 : TX.H102 rows) {most : Nat} {fs : List Fld} {rq : List Vl} (hm : most ≤ 1000) (hs : HsOk most fs) (hq : Req fs rq) : ∀ d k, d + 2 ≤ k → ∀ t : Tst, t.dep ≤ d → t.wf fs → SoAt (tab rows fu k 102) fs rq t := by
  have D35 := lvlH (rows := rows) (fu := fu) (i := 35) (P := PlaceOk) (d := 0) l35 fun k hk => place_ok
  intro d
  have hl : fs.length ≤ 1000 := by have := hs.few; omega
  induction d with
  | zero => intro k hk t ht; cases t <;> simp [Tst.dep] at ht
  | succ d ih =>
    intro k hk t ht hw
    exact lvlH (rows := rows) (fu := fu) (i := 102) (P := fun F => SoAt F fs rq t) (d := d + 2) l102 (fun k hk => is_so_step hl hq hs.asc (D35 k (by omega)) t hw fun u hu huw => ih k hk u (by omega) huw) k hk
theorem l_so_lvl (l103 : TX.H103 rows) {most : Nat} {fs : List Fld} {rq : List Vl} (hm : most ≤ 1000) (hs : HsOk most fs) (hq : Req fs rq) : ∀ d k, d + 2 ≤ k → ∀ t : Tst, t.dep ≤ d → t.wf fs → SoAt (tab rows fu k 103) fs rq t := by
  intro d
  have hl : fs.length ≤ 1000 := by have := hs.few; omega
  induction d with
  | zero => intro k hk t ht; cases t <;> simp [Tst.dep] at ht
  | succ d ih =>
    intro k hk t ht hw
    exact lvlH (rows := rows) (fu := fu) (i := 103) (P := fun F => SoAt F fs rq t) (d := d + 2) l103 (fun k hk => l_so_step hl hq hs.asc hs.nm t hw fun u hu huw => ih k hk u (by omega) huw) k hk
/-- the program's results, d books deep -/
theorem res_lvl (l35 : TX.H35 rows) (l102 : TX.H102 rows) (l127 : TX.H127 rows) (l163 : TX.H163 rows) (l164 : TX.H164 rows) (l165 : TX.H165 rows)
    (l166 : TX.H166 rows) (l167 : TX.H167 rows) (l168 : TX.H168 rows) {most : Nat} {fs : List Fld} {rq : List Vl} (hm : most ≤ 1000) (hs : HsOk most fs) (hq : Req fs rq) :
    ∀ d k, 2 * d + 8 ≤ k → ∀ its : List Itm, Itms.ok fs d its → Itms.many its ≤ 500 → ItemsRAt (tab rows fu k 168) fs rq its := by
  have D102 := so_lvl (fu := fu) l35 l102 hm hs hq 3
  have D127 := lvlH (rows := rows) (fu := fu) (i := 127) (P := TestInOk) (d := 0) l127 fun k hk => test_in_ok
  have D163 := lvlH (rows := rows) (fu := fu) (i := 163) (P := JoinDuOk) (d := 0) l163 fun k hk => joined_duties_ok
  have D164 := lvlH (rows := rows) (fu := fu) (i := 164) (P := JoinNmOk) (d := 0) l164 fun k hk => joined_names_ok
  have D165 := lvlH (rows := rows) (fu := fu) (i := 165) (P := RankOk) (d := 1) l165 fun k hk => by_rank_ok (D163 k hk) (D164 k hk)
  have D166 := lvlH (rows := rows) (fu := fu) (i := 166) (P := WayOk) (d := 2) l166 fun k hk => by_way_ok (D164 k (by omega)) (D165 k hk)
  intro d
  induction d with
  | zero =>
    intro k hk its hok hmy
    refine lvlH (rows := rows) (fu := fu) (i := 168) (P := fun F => ItemsRAt F fs rq its) (d := 7) l168 (fun k hk => items_result_ok hok hmy (D166 k (by omega)) fun x hx => ?_) k (by omega)
    have xok : Itm.ok fs 0 x := Itms.ok_all.mp hok x hx
    refine lvlH (rows := rows) (fu := fu) (i := 167) (P := fun F => ItemAt F fs rq x) (d := 6) l167 (fun k hk => item_result_ok xok (D127 k (by omega)) (fun t ht hd => D102 k (by omega) t hd (ht.wf hs.mr)) fun nm t way its e => ?_) k (by omega)
    rw [e] at xok
    exact xok.elim
  | succ d ih =>
    intro k hk its hok hmy
    refine lvlH (rows := rows) (fu := fu) (i := 168) (P := fun F => ItemsRAt F fs rq its) (d := 2 * d + 9) l168 (fun k hk => items_result_ok hok hmy (D166 k (by omega)) fun x hx => ?_) k (by omega)
    have xok : Itm.ok fs (d + 1) x := Itms.ok_all.mp hok x hx
    have xm : x.many ≤ Itms.many its := by
      obtain ⟨a, b, rfl⟩ := List.append_of_mem hx
      rw [Itms.many_app]
      simp only [Itms.many]
      omega
    refine lvlH (rows := rows) (fu := fu) (i := 167) (P := fun F => ItemAt F fs rq x) (d := 2 * d + 8) l167 (fun k hk => item_result_ok xok (D127 k (by omega)) (fun t ht hd => D102 k (by omega) t hd (ht.wf hs.mr)) fun nm t way its' e => ?_) k (by omega)
    subst e
    refine ih k hk its' xok.2.2.2.2 ?_
    simp only [Itm.many] at xm
    omega
theorem l_res_lvl (l103 : TX.H103 rows) (l170 : TX.H170 rows) (l171 : TX.H171 rows) {most : Nat} {fs : List Fld} {rq : List Vl} (hm : most ≤ 1000) (hs : HsOk most fs) (hq : Req fs rq) :
    ∀ d k, 2 * d + 8 ≤ k → ∀ its : List Itm, Itms.ok fs d its → Itms.many its ≤ 500 → LItemsAt (tab rows fu k 171) fs rq its := by
  have D103 := l_so_lvl (fu := fu) l103 hm hs hq 3
  intro d
  induction d with
  | zero =>
    intro k hk its hok hmy
    refine lvlH (rows := rows) (fu := fu) (i := 171) (P := fun F => LItemsAt F fs rq its) (d := 7) l171 (fun k hk => l_results_ok hok hmy fun x hx => ?_) k (by omega)
    have xok : Itm.ok fs 0 x := Itms.ok_all.mp hok x hx
    refine lvlH (rows := rows) (fu := fu) (i := 170) (P := fun F => LItemAt F fs rq x) (d := 6) l170 (fun k hk => l_result_ok xok (fun t ht hd => D103 k (by omega) t hd (ht.wf hs.mr)) fun nm t way its e => ?_) k (by omega)
    rw [e] at xok
    exact xok.elim
  | succ d ih =>
    intro k hk its hok hmy
    refine lvlH (rows := rows) (fu := fu) (i := 171) (P := fun F => LItemsAt F fs rq its) (d := 2 * d + 9) l171 (fun k hk => l_results_ok hok hmy fun x hx => ?_) k (by omega)
    have xok : Itm.ok fs (d + 1) x := Itms.ok_all.mp hok x hx
    have xm : x.many ≤ Itms.many its := by
      obtain ⟨a, b, rfl⟩ := List.append_of_mem hx
      rw [Itms.many_app]
      simp only [Itms.many]
      omega
    refine lvlH (rows := rows) (fu := fu) (i := 170) (P := fun F => LItemAt F fs rq x) (d := 2 * d + 8) l170 (fun k hk => l_result_ok xok (fun t ht hd => D103 k (by omega) t hd (ht.wf hs.mr)) fun nm t way its' e => ?_) k (by omega)
    subst e
    refine ih k hk its' xok.2.2.2.2 ?_
    simp only [Itm.many] at xm
    omega
/-! draws in any module -/
structure HasDraws (rows : Rows) : Prop where
  l5 : TX.H5 rows
  l6 : TX.H6 rows
  l7 : TX.H7 rows
  l8 : TX.H8 rows
  l21 : TX.H21 rows
  l22 : TX.H22 rows
  l23 : TX.H23 rows
  l24 : TX.H24 rows
theorem HasDraws.dip (h : HasDraws rows) (fu : Nat) : ∀ k, 1 ≤ k → DipOk (tab rows fu k 6) := lvlH (rows := rows) (fu := fu) (i := 6) (P := DipOk) (d := 0) h.l6 fun k _ n h1 h2 => dip_ok h1 h2
theorem HasDraws.pick (h : HasDraws rows) (fu : Nat) : ∀ k, 2 ≤ k → PickOk (tab rows fu k 7) := lvlH (rows := rows) (fu := fu) (i := 7) (P := PickOk) (d := 1) h.l7 fun k hk => pick_ok (h.dip fu k hk)
theorem HasDraws.word (h : HasDraws rows) (fu : Nat) : ∀ k, 2 ≤ k → WordOk (tab rows fu k 8) := lvlH (rows := rows) (fu := fu) (i := 8) (P := WordOk) (d := 1) h.l8 fun k hk => word_ok (h.dip fu k hk)
theorem HasDraws.house (h : HasDraws rows) (fu : Nat) : ∀ k, 4 ≤ k → HouseOk (tab rows fu k 24) := by
  have D21 := lvlH (rows := rows) (fu := fu) (i := 21) (P := PL.NamesOk) (d := 2) h.l21 fun k hk => names_ok (h.dip fu k (by omega)) (h.pick fu k hk) (h.word fu k hk)
  have D22 := lvlH (rows := rows) (fu := fu) (i := 22) (P := OrderedOk) (d := 0) h.l22 fun k hk => ordered_ok
  have D23 := lvlH (rows := rows) (fu := fu) (i := 23) (P := MarksOk) (d := 2) h.l23 fun k hk => marks_ok (h.dip fu k (by omega)) (h.pick fu k hk) (h.word fu k hk) (D22 k (by omega))
  exact lvlH (rows := rows) (fu := fu) (i := 24) (P := HouseOk) (d := 3) h.l24 fun k hk => house_ok (h.pick fu k (by omega)) (D21 k hk) (D23 k hk)
def SpringOk (F : Fn) : Prop := ∀ zs : List Int, (F [.lst (zs.map .int)] []).wp (fun v st => v = .loc 0 ∧ ∃ o, SpO o ∧ st = [o]) NoX
theorem HasDraws.spring (h : HasDraws rows) (fu : Nat) : ∀ k, 1 ≤ k → SpringOk (tab rows fu k 5) := lvlH (rows := rows) (fu := fu) (i := 5) (P := SpringOk) (d := 0) h.l5 fun k _ zs => spring_ok zs
theorem HasDraws.test (h : HasDraws rows) (fu : Nat) (l66 : TX.H66 rows) (l67 : TX.H67 rows) {most : Nat} {fs : List Fld} (hm : most ≤ 1000) (hs : HsOk most fs) : ∀ d k, d + 4 ≤ k → TestAt (tab rows fu k 67) most fs (d + 1) := by
  have D66 := lvlH (rows := rows) (fu := fu) (i := 66) (P := PlainOk) (d := 2) l66 fun k hk => plain_ok (h.dip fu k (by omega)) (h.pick fu k hk)
  intro d
  induction d with
  | zero => exact lvlH (rows := rows) (fu := fu) (i := 67) (P := fun F => TestAt F most fs 1) (d := 3) l67 fun k hk => test_step hm hs (by omega) (h.dip fu k (by omega)) (D66 k hk) fun z => by omega
  | succ d ih => exact lvlH (rows := rows) (fu := fu) (i := 67) (P := fun F => TestAt F most fs (d + 1 + 1)) (d := d + 4) l67 fun k hk => test_step hm hs (by omega) (h.dip fu k (by omega)) (D66 k (by omega)) fun _ => ih k hk
theorem HasDraws.request (h : HasDraws rows) (fu : Nat) (l25 : TX.H25 rows) : ∀ k, 3 ≤ k → RequestOk (tab rows fu k 25) := lvlH (rows := rows) (fu := fu) (i := 25) (P := RequestOk) (d := 2) l25 fun k hk => request_ok (h.dip fu k (by omega)) (h.pick fu k hk) (h.word fu k hk)
theorem HasDraws.items (h : HasDraws rows) (fu : Nat) (l66 : TX.H66 rows) (l67 : TX.H67 rows) (l130 : TX.H130 rows) (l131 : TX.H131 rows) {most : Nat} {fs : List Fld} (hm : most ≤ 1000) (hs : HsOk most fs) :
    ∀ d k, d + 8 ≤ k → ItemsAt (tab rows fu k 131) fs d := by
  have D130 := lvlH (rows := rows) (fu := fu) (i := 130) (P := DutiesOk) (d := 2) l130 fun k hk => duties_ok (h.dip fu k (by omega)) (h.pick fu k hk) (h.word fu k hk)
  have D67 := h.test fu l66 l67 hm hs 2
  intro d
  induction d with
  | zero => exact lvlH (rows := rows) (fu := fu) (i := 131) (P := fun F => ItemsAt F fs 0) (d := 7) l131 fun k hk => items_step hm hs (h.dip fu k (by omega)) (h.pick fu k (by omega)) (D67 k (by omega)) (D130 k (by omega)) fun z => by omega
  | succ d ih => exact lvlH (rows := rows) (fu := fu) (i := 131) (P := fun F => ItemsAt F fs (d + 1)) (d := d + 8) l131 fun k hk => items_step hm hs (h.dip fu k (by omega)) (h.pick fu k (by omega)) (D67 k (by omega)) (D130 k (by omega)) fun _ => ih k hk
theorem HasDraws.policy (h : HasDraws rows) (fu : Nat) (hfu : 20 ≤ fu) (l66 : TX.H66 rows) (l67 : TX.H67 rows) (l130 : TX.H130 rows) (l131 : TX.H131 rows) (l132 : TX.H132 rows) {most : Nat} {fs : List Fld} (hm : most ≤ 1000) (hs : HsOk most fs) :
    ∀ k, 12 ≤ k → PolicyAt (tab rows fu k 132) fs := lvlH (rows := rows) (fu := fu) (i := 132) (P := fun F => PolicyAt F fs) (d := 11) l132 fun k hk => policy_ok hfu (h.dip fu k (by omega)) (h.pick fu k (by omega)) (h.word fu k (by omega)) (h.items fu l66 l67 l130 l131 hm hs 3 k (by omega))
end
end MP.PL

/-! k13: what results keep: plain. -/
namespace MP.PL
open PySem L2
theorem srt_ext : ∀ {a b : List (List Nat)}, a.Pairwise (· < ·) → b.Pairwise (· < ·) → (∀ w, w ∈ a ↔ w ∈ b) → a = b
  | [], [], _, _, _ => rfl
  | [], y :: b, _, _, h => by have := (h y).mpr (by simp); simp at this
  | x :: a, [], _, _, h => by have := (h x).mp (by simp); simp at this
  | x :: a, y :: b, ha, hb, h => by
    rw [List.pairwise_cons] at ha hb
    have e : x = y := by
      rcases List.mem_cons.mp ((h x).mp (by simp)) with e | e
      · exact e
      · rcases List.mem_cons.mp ((h y).mpr (by simp)) with e2 | e2
        · exact e2.symm
        · exact absurd (List.lt_trans (hb.1 x e) (ha.1 y e2)) (List.lt_irrefl _)
    subst e
    congr 1
    refine srt_ext ha.2 hb.2 fun w => ⟨fun hw => ?_, fun hw => ?_⟩
    · rcases List.mem_cons.mp ((h w).mp (List.mem_cons_of_mem _ hw)) with e | e
      · exact absurd (ha.1 w hw) (by rw [e]; exact List.lt_irrefl _)
      · exact e
    · rcases List.mem_cons.mp ((h w).mpr (List.mem_cons_of_mem _ hw)) with e | e
      · exact absurd (hb.1 w hw) (by rw [e]; exact List.lt_irrefl _)
      · exact e
theorem srtS_ext {a b : List (List Nat)} (h : ∀ w, w ∈ a ↔ w ∈ b) : srtS a = srtS b := srt_ext (srtS_srt a) (srtS_srt b) fun w => by rw [srtS_mem, srtS_mem]; exact h w
theorem srtS_id {a : List (List Nat)} (h : a.Pairwise (· < ·)) : srtS a = a := srt_ext (srtS_srt a) h fun w => srtS_mem
/-! ### results are fine -/
structure Fine (r : Rs) : Prop where
  none : r.dec = wNone → r = rs0
  clash : r.dec = wClash → r.du = []
  asc : r.du.Pairwise (· < ·)
  who : r.dec ≠ wNone → r.who ≠ []
  dec : isDec r.dec
theorem rs0_fine : Fine rs0 := ⟨fun _ => rfl, fun _ => rfl, List.Pairwise.nil, fun h => absurd rfl h, .inr (.inr (.inl rfl))⟩
theorem flat_ne {rs : List Rs} (h0 : rs ≠ []) (h : ∀ r ∈ rs, r.who ≠ []) : rs.flatMap Rs.who ≠ [] := by
  cases rs with
  | nil => exact absurd rfl h0
  | cons r rs =>
    rw [List.flatMap_cons]
    intro e
    exact h r (by simp) (List.append_eq_nil_iff.mp e).1
theorem merged_fine {rs : List Rs} {d : List Nat} (hd : isDec d) (hn : d ≠ wNone) (h0 : rs ≠ []) (h : ∀ r ∈ rs, r.who ≠ []) : Fine (merged d rs) := by
  refine ⟨fun e => absurd e hn, fun e => ?_, ?_, fun _ => flat_ne h0 h, hd⟩
  · change d = wClash at e
    simp [merged, e]
  · simp only [merged]
    split
    · exact List.Pairwise.nil
    · exact srtS_srt _
theorem byRank_fine {rs : List Rs} (h : ∀ r ∈ rs, r.who ≠ []) : ∀ {ds : List (List Nat)}, (∀ d ∈ ds, isDec d ∧ d ≠ wNone) → Fine (byRank rs ds)
  | [], _ => rs0_fine
  | d :: ds, hd => by
    simp only [byRank]
    split
    · exact byRank_fine h fun x hx => hd x (List.mem_cons_of_mem _ hx)
    · rename_i q
      exact merged_fine (hd d (by simp)).1 (hd d (by simp)).2 q fun r hr => h r (List.mem_filter.mp hr).1
theorem ranks_live {way : List Nat} (h : way = wDeny ∨ way = wAllow) : ∀ d ∈ ranks way, isDec d ∧ d ≠ wNone := by
  rcases h with rfl | rfl <;> simp [ranks, othr, isDec, wDeny, wAllow, wClash, wNone]
theorem byWay_fine {way : List Nat} {rs : List Rs} (h : ∀ r ∈ rs, Fine r ∧ r.dec ≠ wNone) : Fine (byWay way rs) := by
  have hw : ∀ r ∈ rs, r.who ≠ [] := fun r hr => (h r hr).1.who (h r hr).2
  unfold byWay
  split
  · rename_i q
    exact byRank_fine hw (ranks_live q)
  · split
    · exact rs0_fine
    · rename_i r more
      split
      · exact (h r (by simp)).1
      · exact ⟨fun e => absurd (show wClash = wNone from e) (by decide), fun _ => rfl, List.Pairwise.nil, fun _ => flat_ne (by simp) hw, .inr (.inr (.inr rfl))⟩
theorem live_fine {rs : List Rs} (h : ∀ r ∈ rs, Fine r) : ∀ r ∈ live rs, Fine r ∧ r.dec ≠ wNone := fun r hr => by
  obtain ⟨h1, h2⟩ := List.mem_filter.mp hr
  exact ⟨h r h1, by simpa using h2⟩
mutual
theorem resI_fine {fs : List Fld} {rq : List Vl} : ∀ {d : Nat} {x : Itm}, Itm.ok fs d x → Fine (resI fs rq x)
  | d, .rule nm eff t du, h => by
    have h' : Nm nm ∧ isEff eff ∧ t.told fs ∧ t.dep ≤ 3 ∧ DutOk 3 du := by cases d <;> exact h
    simp only [resI]
    split
    · refine ⟨fun e => ?_, fun e => ?_, h'.2.2.2.2.2.1, fun _ => by simp, h'.2.1.elim .inl fun z => .inr (.inl z)⟩
      · change eff = wNone at e
        rcases h'.2.1 with z | z <;> rw [z] at e <;> exact absurd e (by decide)
      · change eff = wClash at e
        rcases h'.2.1 with z | z <;> rw [z] at e <;> exact absurd e (by decide)
    · exact rs0_fine
  | 0, .book _ _ _ _, h => h.elim
  | d + 1, .book nm t way its, h => by
    simp only [resI]
    split
    · exact byWay_fine (live_fine (resIs_fine h.2.2.2.2))
    · exact rs0_fine
theorem resIs_fine {fs : List Fld} {rq : List Vl} : ∀ {d : Nat} {l : List Itm}, Itms.ok fs d l → ∀ r ∈ resIs fs rq l, Fine r
  | d, [], _ => by simp [resIs]
  | d, x :: xs, h => by
    have h' : Itm.ok fs d x ∧ Itms.ok fs d xs := by cases d <;> exact h
    have a := resI_fine (rq := rq) h'.1
    have b := resIs_fine (rq := rq) h'.2
    intro r hr
    rw [resIs] at hr
    rcases List.mem_cons.mp hr with rfl | hr
    · exact a
    · exact b r hr
end
/-! ### who gave it -/
def Itm.nm : Itm → List Nat
  | .rule a _ _ _ => a
  | .book a _ _ _ => a
def Itm.eff : Itm → List Nat
  | .rule _ b _ _ => b
  | .book .. => []
def Itm.tst : Itm → Tst
  | .rule _ _ t _ => t
  | .book .. => .any
def Itm.du : Itm → List (List Nat)
  | .rule _ _ _ d => d
  | .book .. => []
def WitL (fs : List Fld) (rq : List Vl) (L : List Itm) (rs : List Rs) : Prop := ∃ S : List Itm, S.Sublist L ∧ rs.flatMap Rs.who = S.map Itm.nm ∧ (∀ x ∈ S, so fs rq x.tst = true) ∧
  ∀ d, isEff d → (∀ r ∈ rs, r.dec = d) → (∀ x ∈ S, x.eff = d) ∧ ∀ w, w ∈ rs.flatMap Rs.du ↔ w ∈ S.flatMap Itm.du
def Wit (fs : List Fld) (rq : List Vl) (L : List Itm) (r : Rs) : Prop := ∃ S : List Itm, S.Sublist L ∧ r.who = S.map Itm.nm ∧ (∀ x ∈ S, so fs rq x.tst = true) ∧
  (isEff r.dec → (∀ x ∈ S, x.eff = r.dec) ∧ ∀ w, w ∈ r.du ↔ w ∈ S.flatMap Itm.du)
theorem wit0 {fs : List Fld} {rq : List Vl} {L : List Itm} : Wit fs rq L rs0 := ⟨[], List.nil_sublist _, rfl, by simp, fun _ => ⟨by simp, by simp [rs0]⟩⟩
theorem wit_subs {fs : List Fld} {rq : List Vl} : ∀ {its : List Itm}, (∀ x ∈ its, Wit fs rq (rulesI x) (resI fs rq x)) → ∀ {rs : List Rs}, rs.Sublist (resIs fs rq its) → WitL fs rq (rulesIs its) rs
  | [], _, rs, h => by
    rw [resIs, List.sublist_nil] at h
    subst h
    exact ⟨[], List.nil_sublist _, rfl, by simp, fun _ _ _ => ⟨by simp, by simp⟩⟩
  | x :: xs, hx, rs, h => by
    rw [resIs] at h
    have ih := fun {rs} => wit_subs (its := xs) (fun y hy => hx y (List.mem_cons_of_mem _ hy)) (rs := rs)
    rw [rulesIs]
    rcases List.sublist_cons_iff.mp h with h' | ⟨rs', e, h'⟩
    · obtain ⟨S, h1, h2⟩ := ih h'
      exact ⟨S, h1.trans (List.sublist_append_right _ _), h2⟩
    · subst e
      obtain ⟨S, h1, h2, h3, h4⟩ := ih h'
      obtain ⟨S', g1, g2, g3, g4⟩ := hx x (by simp)
      refine ⟨S' ++ S, g1.append h1, by rw [List.flatMap_cons, List.map_append, g2, h2], fun y hy => (List.mem_append.mp hy).elim (g3 y) (h3 y), fun d hd hr => ?_⟩
      have e := hr (resI fs rq x) (by simp)
      obtain ⟨a1, a2⟩ := g4 (by rw [e]; exact hd)
      obtain ⟨b1, b2⟩ := h4 d hd fun r hr' => hr r (List.mem_cons_of_mem _ hr')
      refine ⟨fun y hy => (List.mem_append.mp hy).elim (fun z => by rw [a1 y z, e]) (b1 y), fun w => ?_⟩
      rw [List.flatMap_cons, List.flatMap_append, List.mem_append, List.mem_append, a2, b2]
theorem wit_byRank {fs : List Fld} {rq : List Vl} {L : List Itm} {rs : List Rs} (h : ∀ rs' : List Rs, rs'.Sublist rs → WitL fs rq L rs') : ∀ {ds : List (List Nat)}, Wit fs rq L (byRank rs ds)
  | [] => wit0
  | d :: ds => by
    simp only [byRank]
    split
    · exact wit_byRank h
    · obtain ⟨S, h1, h2, h3, h4⟩ := h (picked d rs) List.filter_sublist
      refine ⟨S, h1, h2, h3, fun hd => ?_⟩
      change isEff d at hd
      obtain ⟨a, b⟩ := h4 d hd fun r hr => by simpa using (List.mem_filter.mp hr).2
      refine ⟨a, fun w => ?_⟩
      have e : d ≠ wClash := by rcases hd with e | e <;> rw [e] <;> decide
      simp only [merged, if_neg e, srtS_mem]
      exact b w
theorem wit_byWay {fs : List Fld} {rq : List Vl} {L : List Itm} {rs : List Rs} {way : List Nat} (h : ∀ rs' : List Rs, rs'.Sublist rs → WitL fs rq L rs') : Wit fs rq L (byWay way rs) := by
  unfold byWay
  split
  · exact wit_byRank h
  · split
    · exact wit0
    · rename_i r more
      split
      · obtain ⟨S, h1, h2, h3, h4⟩ := h [r] (by simp)
        refine ⟨S, h1, by simpa using h2, h3, fun hd => ?_⟩
        obtain ⟨a, b⟩ := h4 r.dec hd (by simp)
        exact ⟨a, fun w => by rw [← b w]; simp⟩
      · obtain ⟨S, h1, h2, h3, h4⟩ := h (r :: more) (List.Sublist.refl _)
        exact ⟨S, h1, h2, h3, fun hd => absurd hd (by show ¬ isEff wClash; rintro (e | e) <;> exact absurd e (by decide))⟩
mutual
theorem wit_res {fs : List Fld} {rq : List Vl} : ∀ x : Itm, Wit fs rq (rulesI x) (resI fs rq x)
  | .rule nm eff t du => by
    simp only [resI, rulesI]
    split
    · rename_i q
      refine ⟨[.rule nm eff t du], List.Sublist.refl _, rfl, ?_, fun _ => ⟨?_, ?_⟩⟩
      · intro x hx; rw [List.mem_singleton.mp hx]; exact q
      · intro x hx; rw [List.mem_singleton.mp hx]; rfl
      · intro w; simp [Itm.du]
    · exact wit0
  | .book nm t way its => by
    simp only [resI, rulesI]
    split
    · exact wit_byWay fun rs' h => wit_subs (wit_ress its) (h.trans List.filter_sublist)
    · exact wit0
theorem wit_ress {fs : List Fld} {rq : List Vl} : ∀ its : List Itm, ∀ x ∈ its, Wit fs rq (rulesI x) (resI fs rq x)
  | [] => by simp
  | x :: xs => by
    intro y hy
    rcases List.mem_cons.mp hy with e | hy
    · rw [e]; exact wit_res x
    · exact wit_ress xs y hy
end
theorem wit_all {fs : List Fld} {rq : List Vl} {its : List Itm} {way : List Nat} : Wit fs rq (rulesIs its) (byWay way (live (resIs fs rq its))) :=
  wit_byWay fun rs' h => wit_subs (wit_ress its) (h.trans List.filter_sublist)
theorem sub_by_name {S L : List Itm} (h : S.Sublist L) : (L.map Itm.nm).Nodup → L.filter (fun x => decide (x.nm ∈ S.map Itm.nm)) = S := by
  induction h with
  | slnil => intro _; rfl
  | cons a h ih =>
    intro hn
    rw [List.map_cons, List.nodup_cons] at hn
    rw [List.filter_cons_of_neg, ih hn.2]
    simp only [decide_eq_true_eq]
    exact fun z => hn.1 ((h.map _).subset z)
  | cons_cons a h ih =>
    rename_i l1 l2
    intro hn
    rw [List.map_cons, List.nodup_cons] at hn
    rw [List.filter_cons_of_pos (by simp)]
    congr 1
    rw [← ih hn.2]
    refine List.filter_congr fun x hx => ?_
    have : x.nm ≠ a.nm := fun e => hn.1 (by rw [← e]; exact List.mem_map_of_mem hx)
    rw [ih hn.2]
    simp [this]
mutual
theorem rulesI_nms : ∀ x : Itm, ((rulesI x).map Itm.nm).Sublist x.nms
  | .rule a b c d => by simp [rulesI, Itm.nms, Itm.nm]
  | .book a _ _ its => by
    simp only [rulesI, Itm.nms]
    exact (rulesIs_nms its).trans (List.sublist_cons_self _ _)
theorem rulesIs_nms : ∀ l : List Itm, ((rulesIs l).map Itm.nm).Sublist (Itms.nms l)
  | [] => by simp [rulesIs, Itms.nms]
  | x :: xs => by
    simp only [rulesIs, Itms.nms, List.map_append]
    exact (rulesI_nms x).append (rulesIs_nms xs)
end
/-! ### mirrored -/
def swp (w : List Nat) : List Nat := if w = wAllow then wDeny else if w = wDeny then wAllow else w
theorem swp_swp (w : List Nat) : swp (swp w) = w := by
  by_cases h : w = wAllow
  · subst h; decide
  · by_cases h2 : w = wDeny
    · subst h2; decide
    · simp [swp, h, h2]
theorem swp_inj {a b : List Nat} : swp a = swp b ↔ a = b := ⟨fun h => by rw [← swp_swp a, h, swp_swp], fun h => by rw [h]⟩
theorem swp_fix {a b : List Nat} (h : swp b = b) : swp a = b ↔ a = b := by rw [← swp_inj (a := a) (b := b), h]
def sw (r : Rs) : Rs := ⟨swp r.dec, r.du, r.who⟩
mutual
def mirI : Itm → Itm
  | .rule nm eff t du => .rule nm (swp eff) t du
  | .book nm t way its => .book nm t (swp way) (mirIs its)
def mirIs : List Itm → List Itm
  | [] => []
  | x :: xs => mirI x :: mirIs xs
end
theorem live_sw (rs : List Rs) : live (rs.map sw) = (live rs).map sw := by
  unfold live
  rw [List.filter_map]
  congr 1
  refine List.filter_congr fun r _ => ?_
  have : (swp r.dec = wNone) = (r.dec = wNone) := propext (swp_fix (by decide))
  simp only [Function.comp, sw, this]
theorem picked_sw (d : List Nat) (rs : List Rs) : picked (swp d) (rs.map sw) = (picked d rs).map sw := by
  unfold picked
  rw [List.filter_map]
  congr 1
  refine List.filter_congr fun r _ => ?_
  have : (swp r.dec = swp d) = (r.dec = d) := propext swp_inj
  simp only [Function.comp, sw, this]
theorem merged_sw (d : List Nat) (rs : List Rs) : merged (swp d) (rs.map sw) = sw (merged d rs) := by
  have : (swp d = wClash) = (d = wClash) := propext (swp_fix (by decide))
  simp only [merged, sw, this, List.flatMap_map, Function.comp_def]
theorem byRank_sw (rs : List Rs) : ∀ ds : List (List Nat), byRank (rs.map sw) (ds.map swp) = sw (byRank rs ds)
  | [] => rfl
  | d :: ds => by
    simp only [List.map_cons, byRank, picked_sw, merged_sw, byRank_sw rs ds, List.map_eq_nil_iff]
    split <;> rfl
theorem byWay_sw (way : List Nat) (rs : List Rs) : byWay (swp way) (rs.map sw) = sw (byWay way rs) := by
  unfold byWay
  by_cases h : way = wDeny ∨ way = wAllow
  · have h2 : swp way = wDeny ∨ swp way = wAllow := by rcases h with rfl | rfl <;> decide
    rw [if_pos h, if_pos h2, ← byRank_sw]
    congr 1
    rcases h with rfl | rfl <;> decide
  · have e : swp way = way := by
      unfold swp
      rw [if_neg fun z => h (.inr z), if_neg fun z => h (.inl z)]
    rw [e, if_neg h, if_neg h]
    cases rs with
    | nil => rfl
    | cons r more =>
      simp only [List.map_cons, List.map_eq_nil_iff]
      split
      · rfl
      · simp only [sw]
        congr 1
        simp [List.flatMap_map, sw]
mutual
theorem resI_mir {fs : List Fld} {rq : List Vl} : ∀ x : Itm, resI fs rq (mirI x) = sw (resI fs rq x)
  | .rule nm eff t du => by
    simp only [resI, mirI]
    split <;> rfl
  | .book nm t way its => by
    simp only [resI, mirI, resIs_mir its, live_sw, byWay_sw]
    split <;> rfl
theorem resIs_mir {fs : List Fld} {rq : List Vl} : ∀ l : List Itm, resIs fs rq (mirIs l) = (resIs fs rq l).map sw
  | [] => rfl
  | x :: xs => by simp only [resIs, mirIs, resI_mir x, resIs_mir xs, List.map_cons]
end
theorem swp_eff {w : List Nat} (h : isEff w) : isEff (swp w) := by rcases h with rfl | rfl <;> unfold isEff <;> decide
theorem swp_way {w : List Nat} (h : isWay w) : isWay (swp w) := by rcases h with rfl | rfl | rfl | rfl <;> unfold isWay <;> decide
mutual
theorem mirI_ok {fs : List Fld} : ∀ {d : Nat} {x : Itm}, Itm.ok fs d x → Itm.ok fs d (mirI x)
  | d, .rule nm eff t du, h => by
    have h' : Nm nm ∧ isEff eff ∧ t.told fs ∧ t.dep ≤ 3 ∧ DutOk 3 du := by cases d <;> exact h
    have : Nm nm ∧ isEff (swp eff) ∧ t.told fs ∧ t.dep ≤ 3 ∧ DutOk 3 du := ⟨h'.1, swp_eff h'.2.1, h'.2.2⟩
    cases d <;> exact this
  | 0, .book _ _ _ _, h => h.elim
  | d + 1, .book nm t way its, h => ⟨h.1, h.2.1, h.2.2.1, swp_way h.2.2.2.1, mirIs_ok h.2.2.2.2⟩
theorem mirIs_ok {fs : List Fld} : ∀ {d : Nat} {l : List Itm}, Itms.ok fs d l → Itms.ok fs d (mirIs l)
  | d, [], h => by cases d <;> exact h
  | d, x :: xs, h => by
    have h' : Itm.ok fs d x ∧ Itms.ok fs d xs := by cases d <;> exact h
    have : Itm.ok fs d (mirI x) ∧ Itms.ok fs d (mirIs xs) := ⟨mirI_ok h'.1, mirIs_ok h'.2⟩
    cases d <;> exact this
end
mutual
theorem mirI_many : ∀ x : Itm, (mirI x).many = x.many
  | .rule .. => rfl
  | .book nm t way its => by simp only [mirI, Itm.many, mirIs_many its]
theorem mirIs_many : ∀ l : List Itm, Itms.many (mirIs l) = Itms.many l
  | [] => rfl
  | x :: xs => by simp only [mirIs, Itms.many, mirI_many x, mirIs_many xs]
end
theorem mirIs_app : ∀ {l m : List Itm}, mirIs (l ++ m) = mirIs l ++ mirIs m
  | [], m => by simp [mirIs]
  | x :: xs, m => by simp [mirIs, mirIs_app (l := xs)]
theorem mirIs_len : ∀ l : List Itm, (mirIs l).length = l.length
  | [] => rfl
  | x :: xs => by simp [mirIs, mirIs_len xs]
/-! ### one more, around, and back -/
theorem live_app (a b : List Rs) : live (a ++ b) = live a ++ live b := List.filter_append _ _
theorem resIs_app {fs : List Fld} {rq : List Vl} (a b : List Itm) : resIs fs rq (a ++ b) = resIs fs rq a ++ resIs fs rq b := by rw [resIs_map, resIs_map, resIs_map, List.map_append]
def never : Itm := .rule [110, 101, 118, 101, 114] wDeny (.nt .any) [[122, 122]]
theorem never_res {fs : List Fld} {rq : List Vl} : resI fs rq never = rs0 := rfl
theorem live_more {fs : List Fld} {rq : List Vl} (its : List Itm) (n : Nat) : live (resIs fs rq (its.take n ++ [never] ++ its.drop n)) = live (resIs fs rq its) := by
  have e : live (resIs fs rq [never]) = [] := rfl
  rw [resIs_app, resIs_app, live_app, live_app, e, List.append_nil, ← live_app, ← resIs_app, List.take_append_drop]
theorem fine_one {r : Rs} (h : Fine r) (way : List Nat) : byWay way (live [r]) = r := by
  by_cases hn : r.dec = wNone
  · rw [h.none hn]
    have : live [rs0] = [] := rfl
    rw [this]
    unfold byWay
    split
    · have : ∀ ds, byRank [] ds = rs0 := fun ds => by
        induction ds with
        | nil => rfl
        | cons d ds ih => simp only [byRank, picked, List.filter_nil, if_pos, ih]
      exact this _
    · rfl
  · have : live [r] = [r] := by unfold live; rw [List.filter_cons_of_pos (by simpa using hn)]; rfl
    rw [this]
    unfold byWay
    split
    · rename_i q
      have hit : ∀ ds : List (List Nat), r.dec ∈ ds → byRank [r] ds = r := fun ds => by
        induction ds with
        | nil => intro z; simp at z
        | cons d ds ih =>
          intro hm
          simp only [byRank]
          by_cases e : r.dec = d
          · have : picked d [r] = [r] := by unfold picked; rw [List.filter_cons_of_pos (by simpa using e)]; rfl
            rw [this, if_neg (by simp)]
            simp only [merged]
            rcases r with ⟨dec, du, who⟩
            change dec = d at e
            subst e
            simp only [List.flatMap_cons, List.flatMap_nil, List.append_nil]
            congr 1
            split
            · rename_i z; exact (h.clash z).symm
            · exact srtS_id h.asc
          · have : picked d [r] = [] := by unfold picked; rw [List.filter_cons_of_neg (by simpa using e)]; rfl
            rw [this, if_pos rfl]
            exact ih (by simpa [e] using hm)
      refine hit _ ?_
      rcases h.dec with e | e | e | e
      · rw [e]; rcases q with rfl | rfl <;> decide
      · rw [e]; rcases q with rfl | rfl <;> decide
      · exact absurd e hn
      · rw [e]; rcases q with rfl | rfl <;> decide
    · simp
theorem around {fs : List Fld} {rq : List Vl} {d : Nat} {its : List Itm} (h : Itms.ok fs d its) (way other nm : List Nat) :
    byWay other (live (resIs fs rq [never, .book nm .any way its])) = byWay way (live (resIs fs rq its)) := by
  have e : live (resIs fs rq [never, .book nm .any way its]) = live [byWay way (live (resIs fs rq its))] := rfl
  rw [e, fine_one (byWay_fine (live_fine (resIs_fine h)))]
theorem picked_rev (d : List Nat) (rs : List Rs) : picked d rs.reverse = (picked d rs).reverse := List.filter_reverse ..
structure Same (a b : Rs) : Prop where
  dec : a.dec = b.dec
  du : a.du = b.du
  who : a.who.Perm b.who
theorem merged_rev (d : List Nat) (rs : List Rs) : Same (merged d rs.reverse) (merged d rs) := by
  refine ⟨rfl, ?_, (List.reverse_perm rs).flatMap_right _⟩
  simp only [merged]
  split
  · rfl
  · exact srtS_ext fun w => ((List.reverse_perm rs).flatMap_right _).mem_iff
theorem byRank_rev (rs : List Rs) : ∀ ds, Same (byRank rs.reverse ds) (byRank rs ds)
  | [] => ⟨rfl, rfl, List.Perm.refl _⟩
  | d :: ds => by
    simp only [byRank, picked_rev, List.reverse_eq_nil_iff]
    split
    · exact byRank_rev rs ds
    · exact merged_rev d _
theorem byWay_plain {way : List Nat} (h : way ≠ wFirst) (h2 : ¬ (way = wDeny ∨ way = wAllow)) (l : List Rs) : byWay way l = if l.length ≤ 1 then l.headD rs0 else ⟨wClash, [], l.flatMap Rs.who⟩ := by
  unfold byWay
  rw [if_neg h2]
  cases l with
  | nil => rfl
  | cons r more =>
    cases more with
    | nil => simp
    | cons r2 m => simp [h]
theorem byWay_rev {way : List Nat} (h : way ≠ wFirst) (rs : List Rs) : Same (byWay way rs.reverse) (byWay way rs) := by
  by_cases h2 : way = wDeny ∨ way = wAllow
  · unfold byWay
    rw [if_pos h2, if_pos h2]
    exact byRank_rev rs _
  · rw [byWay_plain h h2, byWay_plain h h2, List.length_reverse]
    split
    · have : rs.reverse = rs := by
        match rs, (by assumption : rs.length ≤ 1) with
        | [], _ => rfl
        | [r], _ => rfl
      rw [this]
      exact ⟨rfl, rfl, List.Perm.refl _⟩
    · exact ⟨rfl, rfl, (List.reverse_perm rs).flatMap_right _⟩
theorem live_rev (rs : List Rs) : live rs.reverse = (live rs).reverse := List.filter_reverse ..
theorem byWay_first (rs : List Rs) : byWay wFirst rs = rs.headD rs0 := by
  unfold byWay
  rw [if_neg (by decide)]
  cases rs <;> simp
end MP.PL

/-! k13: what the law asks of one outcome. -/
namespace MP.PL
open PySem L2
/-! ### the same value is equal -/
mutual
theorem shw_lay : ∀ {n : Nat} {v : PV}, shw n v = true → ∃ d, PV.data v = some d ∧ d.canLay0 = true ∧ d.depth ≤ n
  | n, .non, _ => ⟨.none, by simp [PV.data], rfl, Nat.zero_le _⟩
  | n, .bl b, _ => ⟨.bool b, by simp [PV.data], rfl, Nat.zero_le _⟩
  | n, .int i, h => ⟨.int i, by simp [PV.data], rfl, Nat.zero_le _⟩
  | n, .str z, h => by
    have h' : okS z = true := by cases n <;> exact h
    refine ⟨.str ⟨z.toArray⟩, by simp [PV.data], ?_, Nat.zero_le _⟩
    have := okData_str h'
    simp only [okData, Bool.and_eq_true] at this
    exact this.1
  | n + 1, .tup xs, h => by
    simp only [shw] at h
    obtain ⟨ds, e, h1, h2⟩ := shws_lay h
    exact ⟨.tuple ds, by simp [PV.data, e], by simpa [PyData.canLay0] using h1, by simp only [PyData.depth]; omega⟩
  | n + 1, .lst xs, h => by
    simp only [shw] at h
    obtain ⟨ds, e, h1, h2⟩ := shws_lay h
    exact ⟨.list ds, by simp [PV.data, e], by simpa [PyData.canLay0] using h1, by simp only [PyData.depth]; omega⟩
  | 0, .tup xs, h => by simp [shw] at h
  | 0, .lst xs, h => by simp [shw] at h
  | n, .dct xs, h => by cases n <;> simp [shw] at h
  | n, .loc xs, h => by cases n <;> simp [shw] at h
theorem shws_lay : ∀ {n : Nat} {vs : List PV}, shws n vs = true → ∃ ds, PV.datas vs = some ds ∧ PyData.canLayAll0 ds = true ∧ PyData.depthAll ds ≤ n
  | n, [], _ => ⟨[], by simp [PV.datas], rfl, Nat.zero_le _⟩
  | n, v :: vs, h => by
    simp only [shws, Bool.and_eq_true] at h
    obtain ⟨d, e, h1, h2⟩ := shw_lay h.1
    obtain ⟨ds, e', g1, g2⟩ := shws_lay h.2
    refine ⟨d :: ds, by simp [PV.datas, e, e'], by simp [PyData.canLayAll0, h1, g1], ?_⟩
    simp only [PyData.depthAll]; omega
end
theorem eq_self {n : Nat} {v : PV} {st : Sto} (h : shw n v = true) (hn : n ≤ 64) : cmpP .Eq v v st = some true := by
  obtain ⟨d, e, h1, h2⟩ := shw_lay h
  have e3 : deref st v = some v := by
    cases v <;> first | rfl | (cases n <;> simp [shw] at h)
  have e2 : dataAt st v = some d := by simp only [dataAt, e3, Option.bind_some, e]
  have ok : okData d = true := by simp only [okData, h1, Bool.true_and, decide_eq_true_eq]; omega
  have fin : (match dataAt st v, dataAt st v with
      | some a, some b => if okData a && okData b then some (PyData.eqv a b) else none
      | _, _ => none) = some true := by
    rw [e2]
    simp only [ok, Bool.and_self, if_true, SeqAt.eqv_refl d h1]
  show eqP v v st = some true
  cases v with
  | str z => simp [eqP]
  | tup xs => cases xs with
    | nil => rfl
    | cons x xs => exact fin
  | lst xs => cases xs with
    | nil => rfl
    | cons x xs => exact fin
  | non => exact fin
  | bl b => exact fin
  | int i => exact fin
  | dct xs => cases n <;> simp [shw] at h
  | loc m => cases n <;> simp [shw] at h
theorem strs_self {ws : List (List Nat)} {st : Sto} (h : ∀ w ∈ ws, okS w = true) : cmpP .Eq (.tup (ws.map .str)) (.tup (ws.map .str)) st = some true := eq_self (n := 1) (shws_strs (n := 0) h) (by omega)
theorem strl_self {ws : List (List Nat)} {st : Sto} (h : ∀ w ∈ ws, okS w = true) : cmpP .Eq (.lst (ws.map .str)) (.lst (ws.map .str)) st = some true := eq_self (n := 1) (shws_strs (n := 0) h) (by omega)
theorem rsO_shw {n : Nat} {r : Rs} (h : RsOk n r) : shw 3 (rsO r) = true := by
  have e : okS r.dec = true := by rcases h.dec with e | e | e | e <;> rw [e] <;> rfl
  show (okS r.dec && (shws 1 (r.du.map .str) && true)) = true
  rw [e, shws_strs fun w hw => (h.duN w hw).okS]; rfl
theorem rsO_self {n : Nat} {r : Rs} {st : Sto} (h : RsOk n r) : cmpP .Eq (rsO r) (rsO r) st = some true := eq_self (rsO_shw h) (by omega)
/-! ### rules of a policy -/
def RuleOk (fs : List Fld) (y : Itm) : Prop := ∃ nm eff t du, y = .rule nm eff t du ∧ Nm nm ∧ isEff eff ∧ t.told fs ∧ t.dep ≤ 3 ∧ DutOk 3 du
mutual
theorem rulesI_ok {fs : List Fld} : ∀ {d : Nat} {x : Itm}, Itm.ok fs d x → ∀ y ∈ rulesI x, RuleOk fs y
  | d, .rule nm eff t du, h, y, hy => by
    have h' : Nm nm ∧ isEff eff ∧ t.told fs ∧ t.dep ≤ 3 ∧ DutOk 3 du := by cases d <;> exact h
    simp [rulesI] at hy
    exact ⟨nm, eff, t, du, hy, h'⟩
  | 0, .book _ _ _ _, h, y, hy => h.elim
  | d + 1, .book nm t way its, h, y, hy => rulesIs_ok h.2.2.2.2 y hy
theorem rulesIs_ok {fs : List Fld} : ∀ {d : Nat} {l : List Itm}, Itms.ok fs d l → ∀ y ∈ rulesIs l, RuleOk fs y
  | d, [], h, y, hy => by simp [rulesIs] at hy
  | d, x :: xs, h, y, hy => by
    have h' : Itm.ok fs d x ∧ Itms.ok fs d xs := by cases d <;> exact h
    rw [rulesIs] at hy
    rcases List.mem_append.mp hy with hy | hy
    · exact rulesI_ok h'.1 y hy
    · exact rulesIs_ok h'.2 y hy
end
@[simp] theorem cut_to3 {A : Type} {xs : List A} : cutP xs none (some 3) = xs.take 3 := cut_pre (k := 3)
@[simp] theorem cut_3 {A : Type} {xs : List A} : cutP xs (some 3) none = xs.drop 3 := cut_post (k := 3)
section
variable {T : Tab} {fu : Nat} {s : Env} {st : Sto}
@[simp] theorem e_dlit {kvs : List (List Nat × PV)} : evE T (.dlit kvs) s st = .ok (.dct (kvs.map fun p => .tup [.str p.1, p.2])) st := by rw [evE]
@[simp] theorem mok_get {xs : List PV} : mOk .get (.dct xs) st = true := id rfl
@[simp] theorem mth_get {xs : List PV} {z : List Nat} {y : PV} : mthP .get (.dct xs) [.str z, y] st = .ok ((dlook z xs).getD y) st := id rfl
def SwapOk (F : Fn) : Prop := ∀ w, Gives F [.str w] (.str (swp w))
theorem swapped_ok : SwapOk (run T fu 1 1 false TX.b178) := by
  intro w
  refine gives_of rfl rfl fun st hst Z hZ => ?_
  have hz := hZ []
  rw [List.append_nil] at hz
  simp [TX.b178]
  have e : (dlook w [PV.tup [.str [97, 108, 108, 111, 119], .str [100, 101, 110, 121]], PV.tup [.str [100, 101, 110, 121], .str [97, 108, 108, 111, 119]]]).getD (.str w) = .str (swp w) := by
    by_cases h1 : w = [97, 108, 108, 111, 119]
    · subst h1; rfl
    · by_cases h2 : w = [100, 101, 110, 121]
      · subst h2; rfl
      · have e : swp w = w := by
          unfold swp
          rw [if_neg (show ¬ w = wAllow from h1), if_neg (show ¬ w = wDeny from h2)]
        rw [e]
        simp only [dlook]
        rw [if_neg (Ne.symm h1), if_neg (Ne.symm h2)]; rfl
  rw [e]
  exact hz
def MirAt (F : Fn) (its : List Itm) : Prop := Gives F [.tup (encIs its)] (.tup (encIs (mirIs its)))
theorem mirrored_step {fs : List Fld} {d : Nat} (its : List Itm) (hok : Itms.ok fs d its) (hmy : Itms.many its ≤ 1000) (h178 : SwapOk (T 178)) (hrec : ∀ (d' : Nat) (l : List Itm), d = d' + 1 → Itms.ok fs d' l → Itms.many l ≤ 1000 → MirAt (T 179) l) : MirAt (run T fu 3 1 false TX.b179) its := by
  refine gives_of rfl (encIs_lb _) fun st hst Z hZ => ?_
  simp [TX.b179]
  refine forL_sat (fun rem s st1 => ∃ (x2 : Option PV) (don l : List Itm), its = don ++ l ∧ rem = encIs l ∧ s = [some (.tup (encIs its)), some (.loc st.length), x2] ∧ st1 = st ++ [.lst (encIs (mirIs don))]) ?_ ?_ _ _ _ ⟨none, [], its, rfl, rfl, rfl, rfl⟩
  · rintro s st1 ⟨x2, don, l, e, e2, rfl, rfl⟩
    cases l with
    | cons x xs => cases e2
    | nil =>
      simp at e
      subst e
      simp
      exact hZ _
  · rintro y rem s st1 ⟨x2, don, l, e, e2, rfl, rfl⟩ Y hY
    cases l with
    | nil => cases e2
    | cons x xs =>
      obtain ⟨rfl, rfl⟩ := List.cons.inj e2
      have xok : Itm.ok fs d x := Itms.ok_all.mp hok x (by rw [e]; simp)
      have e3 : its = (don ++ [x]) ++ xs := by rw [e]; simp
      have xm : Itms.many don + x.many + Itms.many xs ≤ 1000 := by rw [e3, Itms.many_app, Itms.many_app] at hmy; simpa [Itms.many] using hmy
      have ld := Itms.len_many don
      have el : ∀ l : List Itm, (encIs l).length = l.length := fun l => by rw [encIs_map]; simp
      have lm : (encIs (mirIs don)).length < 16777216 := by rw [el, mirIs_len]; omega
      have hs2 : StB (st ++ [PO.lst (encIs (mirIs don))]).length (st ++ [PO.lst (encIs (mirIs don))]) := stb_new hst (encIs_lb _)
      have fin : Y (.nx [some (.tup (encIs its)), some (.loc st.length), some (encI x)]) (st ++ [.lst (encIs (mirIs don) ++ [encI (mirI x)])]) := by
        refine hY _ _ ⟨_, don ++ [x], xs, e3, rfl, rfl, ?_⟩
        rw [mirIs_app, encIs_map, encIs_map]; simp [mirIs]
      generalize encIs (mirIs don) = M at lm hs2 fin ⊢
      cases x with
      | rule a b c du =>
        simp [encI]
        refine Gives.at (h178 b) hs2 ?_
        simp [bin_tup, lm]
        simpa [mirI, encI] using fin
      | book a b c l =>
        cases d with
        | zero => exact xok.elim
        | succ d =>
          have hr := hrec d l rfl xok.2.2.2.2 (by simp [Itm.many] at xm; omega)
          simp [encI]
          refine Gives.at (h178 c) hs2 ?_
          try simp
          refine Gives.at hr hs2 ?_
          simp [bin_tup, lm]
          simpa [mirI, encI] using fin
def GivenAt (F : Fn) (fs : List Fld) (rq : List Vl) (its : List Itm) : Prop := ∀ way, isWay way → Gives F [fldsV fs, polV way its, reqV rq] (.bl true)
theorem given_ok {fs : List Fld} {rq : List Vl} {d : Nat} {its : List Itm} (hok : Itms.ok fs d its) (hm : Itms.many its ≤ 500) (hn : (Itms.nms its).Nodup)
    (h169 : OutcomeAt (T 169) fs rq its) (h176 : ToldByAt (T 176) fs rq its) (h180 : RulesAt (T 180) its) (h103 : ∀ t : Tst, t.told fs → t.dep ≤ 3 → SoAt (T 103) fs rq t) : GivenAt (run T fu 9 3 false TX.b181) fs rq its := by
  intro way hway
  refine gives_of rfl rfl fun st hst Z hZ => ?_
  have hz := hZ []
  rw [List.append_nil] at hz
  have rok := byWay_ok way ((resIs_ok (rq := rq) hok).filter fun r => !decide (r.dec = wNone))
  have fine : Fine (byWay way (live (resIs fs rq its))) := byWay_fine (live_fine (resIs_fine hok))
  have wit := wit_all (fs := fs) (rq := rq) (its := its) (way := way)
  change RsOk _ (byWay way (live (resIs fs rq its))) at rok
  have a1 := h169 way
  have a2 := h176 way
  generalize byWay way (live (resIs fs rq its)) = R at a1 a2 rok fine wit
  obtain ⟨S, hS, hwho, hso, heff⟩ := wit
  have hnd : ((rulesIs its).map Itm.nm).Nodup := (rulesIs_nms its).nodup hn
  have hfil := sub_by_name hS hnd
  have hrule : ∀ y ∈ rulesIs its, RuleOk fs y := rulesIs_ok hok
  have hruleS : ∀ y ∈ S, RuleOk fs y := fun y hy => hrule y (hS.subset hy)
  have hlen : (rulesIs its).length ≤ 500 := Nat.le_trans (rulesIs_len its) hm
  have hlS : S.length ≤ 500 := Nat.le_trans hS.length_le hlen
  have p2 : ∀ st, subP (polV way its) (.int 2) st = some (.tup (encIs its)) := fun st => by simp [polV]
  have okw : ∀ w ∈ R.who, okS w = true := fun w hw => (rok.whoN w hw).okS
  generalize polV way its = PP at a1 a2 p2 ⊢
  simp [TX.b181]
  refine Gives.at a1 hst ?_
  simp [rsO]
  refine Gives.at a2 hst ?_
  simp [e_lc, p2]
  refine Gives.at h180 hst ?_
  rw [encIs_map]
  simp
  rw [← hwho] at hfil
  rw [compL_filter (h := encI) (g := encI) (p := fun x => decide (x.nm ∈ R.who)) fun x hx => by
    obtain ⟨nm, eff, t, du, rfl, h1, h2, h3, h4, h5⟩ := hrule x hx
    simp [encI]
    rw [in_strs h1.okS okw]
    by_cases q : nm ∈ R.who <;> simp [q, Itm.nm]]
  rw [hfil]
  simp only [calm_ok, s_ok, s_bnd, List.length_map]
  rw [if_pos (by omega)]
  simp
  rw [compL_one (h := encI) (g := fun x => PV.str x.nm) fun x hx => by
    obtain ⟨nm, eff, t, du, rfl, h1, h2, h3, h4, h5⟩ := hruleS x hx
    simp [encI, Itm.nm]]
  simp only [calm_ok, s_ok, s_bnd, List.length_map]
  rw [if_pos (by omega)]
  have e5 : (S.map fun x => PV.str x.nm) = R.who.map .str := by rw [hwho, List.map_map]; rfl
  rw [e5]
  have e6 : (R.who.isEmpty = decide (R.dec = [110, 111, 110, 101])) := by
    by_cases q : R.dec = wNone
    · have : R.who = [] := by rw [fine.none q]; rfl
      rw [this]
      exact (decide_eq_true (show R.dec = [110, 111, 110, 101] from q)).symm
    · have := fine.who q
      rw [decide_eq_false (show ¬ R.dec = [110, 111, 110, 101] from q)]
      simpa using this
  simp [strl_self okw, e6, e_lc]
  rw [compL_filter (h := encI) (g := encI) (p := fun _ => false) fun x hx => by
    have hx2 := hso x hx
    obtain ⟨nm, eff, t, du, rfl, h1, h2, h3, h4, h5⟩ := hruleS x hx
    simp [encI]
    rw [h103 t h3 h4 st hst]
    have : so fs rq t = true := hx2
    simp [this]]
  have okd : okS R.dec = true := by rcases fine.dec with e | e | e | e <;> rw [e] <;> rfl
  have e7 : ∀ st, cmpP .In (.str R.dec) (.tup [.str [97, 108, 108, 111, 119], .str [100, 101, 110, 121]]) st = some (decide (R.dec ∈ [wAllow, wDeny])) := fun st => in_strs (ws := [wAllow, wDeny]) okd (by decide)
  have ff : ∀ l : List Itm, l.filter (fun _ => false) = [] := fun l => by simp
  simp only [ff, List.map_nil, calm_ok, s_ok, s_bnd]
  simp [e7]
  by_cases hE : isEff R.dec
  · obtain ⟨he, hdu⟩ := heff hE
    have e8 : R.dec = wAllow ∨ R.dec = wDeny := hE
    rw [if_neg (show ¬ (¬ R.dec = wAllow ∧ ¬ R.dec = wDeny) from fun z => e8.elim z.1 z.2)]
    simp
    have dS : ∀ l : List Itm, (∀ y ∈ l, RuleOk fs y) → (l.flatMap Itm.du).length ≤ 3 * l.length := fun l => by
      induction l with
      | nil => intro _; simp
      | cons x xs ih =>
        intro h
        have := ih fun y hy => h y (List.mem_cons_of_mem _ hy)
        obtain ⟨nm, eff, t, du, rfl, h1, h2, h3, h4, h5⟩ := h x (by simp)
        have := h5.1
        simp only [List.flatMap_cons, List.length_append, List.length_cons, Itm.du] at *
        omega
    refine forL_sat (fun rem s st1 => ∃ (x6 : Option PV) (don l : List Itm), S = don ++ l ∧ rem = l.map encI ∧ s = [some (fldsV fs), some PP, some (reqV rq), some (PV.tup (List.map PV.str R.who)), some (PV.lst (List.map encI S)), some (.loc st.length), x6, some (PV.str R.dec), some (dutV R.du)] ∧ st1 = st ++ [.lst ((don.flatMap Itm.du).map .str)]) ?_ ?_ _ _ _ ⟨none, [], S, rfl, rfl, rfl, rfl⟩
    · rintro s st1 ⟨x6, don, l, e, e2, rfl, rfl⟩
      cases l with
      | cons x xs => cases e2
      | nil =>
        simp at e
        subst e
        simp [e_lc]
        rw [compL_filter (h := encI) (g := encI) (p := fun _ => false) fun x hx => by
          have hx2 := he x hx
          obtain ⟨nm, eff, t, du, rfl, h1, h2, h3, h4, h5⟩ := hruleS x hx
          simp [encI]
          have : eff = R.dec := hx2
          simp [this]]
        simp only [ff, List.map_nil, calm_ok, s_ok, s_bnd]
        have hl2 := dS S hruleS
        have e9 : srtS (S.flatMap Itm.du) = R.du := srt_ext (srtS_srt _) fine.asc fun w => by rw [srtS_mem, hdu w]
        simp
        rw [srt_strs (ws := S.flatMap Itm.du) (.inr ⟨_, rfl, by simp⟩) (by omega), e9]
        have okd2 : ∀ w ∈ R.du, okS w = true := fun w hw => (rok.duN w hw).okS
        simp [dutV, strs_self okd2]
        exact hZ _
    · rintro y rem s st1 ⟨x6, don, l, e, e2, rfl, rfl⟩ Y hY
      cases l with
      | nil => cases e2
      | cons x xs =>
        obtain ⟨rfl, rfl⟩ := List.cons.inj e2
        have e3 : S = (don ++ [x]) ++ xs := by rw [e]; simp
        have hl2 := dS don fun y hy => hruleS y (by rw [e]; simp [hy])
        have hl3 : don.length ≤ S.length := by rw [e]; simp
        have hx2 : RuleOk fs x := hruleS x (by rw [e]; simp)
        have fin : Y (.nx [some (fldsV fs), some PP, some (reqV rq), some (PV.tup (List.map PV.str R.who)), some (PV.lst (List.map encI S)), some (.loc st.length), some (encI x), some (PV.str R.dec), some (dutV R.du)]) (st ++ [.lst ((don.flatMap Itm.du).map .str ++ x.du.map .str)]) :=
          hY _ _ ⟨_, don ++ [x], xs, e3, rfl, rfl, by simp⟩
        obtain ⟨nm, eff, t, du, rfl, h1, h2, h3, h4, h5⟩ := hx2
        have h51 := h5.1
        simp [encI, dutV]
        rw [mth_extt (xs := (don.flatMap Itm.du).map .str) (by simp) (by simp only [List.length_map]; omega)]
        simp
        simpa [encI, Itm.du, dutV] using fin
  · have e8 : ¬ (R.dec = wAllow ∨ R.dec = wDeny) := hE
    have e9 : R.du = [] := by
      rcases fine.dec with e | e | e | e
      · exact absurd (.inl e) hE
      · exact absurd (.inr e) hE
      · rw [fine.none e]; rfl
      · exact fine.clash e
    rw [if_pos (show ¬ R.dec = wAllow ∧ ¬ R.dec = wDeny from ⟨fun z => e8 (.inl z), fun z => e8 (.inr z)⟩)]
    simp [dutV, e9]
    exact hz
end
end MP.PL

/-! k13: what outcomes keep. -/
namespace MP.PL
open PySem L2
theorem never_ok {fs : List Fld} : ∀ d, Itm.ok fs d never := by
  have : Nm [110, 101, 118, 101, 114] ∧ isEff wDeny ∧ Tst.told fs (.nt .any) ∧ (Tst.nt .any).dep ≤ 3 ∧ DutOk 3 [[122, 122]] :=
    ⟨⟨⟨by simp, by decide⟩, by simp⟩, .inr rfl, trivial, by decide, by simp, by simp, by simp [Nm, isW, low]⟩
  intro d
  cases d <;> exact this
mutual
theorem Itm.ok_mono {fs : List Fld} : ∀ {d e : Nat} {x : Itm}, Itm.ok fs d x → d ≤ e → Itm.ok fs e x
  | d, e, .rule nm eff t du, h, he => by
    have h' : Nm nm ∧ isEff eff ∧ t.told fs ∧ t.dep ≤ 3 ∧ DutOk 3 du := by cases d <;> exact h
    cases e <;> exact h'
  | 0, e, .book _ _ _ _, h, he => h.elim
  | d + 1, 0, .book nm t way its, h, he => absurd he (by omega)
  | d + 1, e + 1, .book nm t way its, h, he => ⟨h.1, h.2.1, h.2.2.1, h.2.2.2.1, Itms.ok_mono h.2.2.2.2 (by omega)⟩
theorem Itms.ok_mono {fs : List Fld} : ∀ {d e : Nat} {l : List Itm}, Itms.ok fs d l → d ≤ e → Itms.ok fs e l
  | d, e, [], h, he => by cases e <;> trivial
  | d, e, x :: xs, h, he => by
    have h' : Itm.ok fs d x ∧ Itms.ok fs d xs := by cases d <;> exact h
    have : Itm.ok fs e x ∧ Itms.ok fs e xs := ⟨Itm.ok_mono h'.1 he, Itms.ok_mono h'.2 he⟩
    cases e <;> exact this
end
theorem Itms.many_rev (l : List Itm) : Itms.many l.reverse = Itms.many l := by
  induction l with
  | nil => rfl
  | cons x xs ih => rw [List.reverse_cons, Itms.many_app, ih]; simp [Itms.many]; omega
section
variable {T : Tab} {fu : Nat} {s : Env} {st : Sto}
def KeptAt (F : Fn) (fs : List Fld) (rq : List Vl) (its : List Itm) : Prop := ∀ way, isWay way → Draws F [fldsV fs, polV way its, reqV rq] (fun v => v = .bl true)
theorem kept_ok {fs : List Fld} {rq : List Vl} {its : List Itm} (hok : Itms.ok fs 2 its) (hm : Itms.many its ≤ 400) (h6 : DipOk (T 6))
    (h169 : ∀ l, Itms.ok fs 3 l → Itms.many l ≤ 500 → OutcomeAt (T 169) fs rq l) (h176 : ∀ l, Itms.ok fs 3 l → Itms.many l ≤ 500 → ToldByAt (T 176) fs rq l)
    (h178 : SwapOk (T 178)) (h179 : MirAt (T 179) its) : KeptAt (run T fu 20 4 false TX.b182) fs rq its := by
  intro way hway o rest ho hr
  refine run_sat rfl fun Z hZ => ?_
  have hst : ∀ o, SpO o → StB (o :: rest).length (o :: rest) := fun o ho => StB.cons (ho.olb _) hr
  have rok := byWay_ok way ((resIs_ok (rq := rq) hok).filter fun r => !decide (r.dec = wNone))
  have ok3 : Itms.ok fs 3 its := Itms.ok_mono hok (by omega)
  have fines : ∀ r ∈ resIs fs rq its, Fine r := resIs_fine hok
  have hlen := Itms.len_many its
  change RsOk _ (byWay way (live (resIs fs rq its))) at rok
  have a1 := h169 its ok3 (by omega) way
  have a2 := h176 its ok3 (by omega) way
  have el : (encIs its).length = its.length := by rw [encIs_map]; simp
  -- one more
  have okM : ∀ n, Itms.ok fs 3 (its.take n ++ [never] ++ its.drop n) := fun n => Itms.ok_all.mpr fun x hx => by
    rcases List.mem_append.mp hx with hx | hx
    · rcases List.mem_append.mp hx with hx | hx
      · exact Itms.ok_all.mp ok3 x (List.mem_of_mem_take hx)
      · rw [List.mem_singleton.mp hx]; exact never_ok 3
    · exact Itms.ok_all.mp ok3 x (List.mem_of_mem_drop hx)
  have mM : ∀ n, Itms.many (its.take n ++ [never] ++ its.drop n) ≤ 500 := fun n => by
    have : Itms.many (its.take n ++ its.drop n) = Itms.many its := by rw [List.take_append_drop]
    rw [Itms.many_app] at this
    rw [Itms.many_app, Itms.many_app]
    simp only [Itms.many, never, Itm.many]
    omega
  have eM : ∀ n, polV way (its.take n ++ [never] ++ its.drop n) = .tup [.str [112, 111, 108, 105, 99, 121], .str way, .tup ((encIs its).take n ++ encI never :: (encIs its).drop n)] := fun n => by
    simp [polV, encIs_map]
  have b1 := fun n => h169 _ (okM n) (mM n) way
  have b2 := fun n => h176 _ (okM n) (mM n) way
  simp only [live_more, eM] at b1 b2
  -- around
  have okO : Itms.ok fs 3 [never, .book [111, 117, 116, 101, 114] .any way its] := ⟨never_ok 3, ⟨⟨⟨by simp, by decide⟩, by simp⟩, trivial, by decide, hway, hok⟩, trivial⟩
  have mO : Itms.many [never, .book [111, 117, 116, 101, 114] .any way its] ≤ 500 := by simp only [Itms.many, never, Itm.many]; omega
  have eO : ∀ other, polV other [never, .book [111, 117, 116, 101, 114] .any way its] = .tup [.str [112, 111, 108, 105, 99, 121], .str other, .tup [encI never, .tup [.str [98, 111, 111, 107], .str [111, 117, 116, 101, 114], .tup [.str [97, 110, 121]], .str way, .tup (encIs its)]]] := fun other => by
    simp [polV, encIs, encI, encT]
  have c1 := fun other => h169 _ okO mO other
  have c2 := fun other => h176 _ okO mO other
  simp only [around hok, eO] at c1 c2
  -- mirrored
  have d1 := h169 (mirIs its) (mirIs_ok ok3) (by rw [mirIs_many]; omega) (swp way)
  have d2 := h176 (mirIs its) (mirIs_ok ok3) (by rw [mirIs_many]; omega) (swp way)
  rw [resIs_mir, live_sw, byWay_sw] at d1 d2
  unfold polV at d1 d2
  -- back
  have okB : Itms.ok fs 3 its.reverse := Itms.ok_all.mpr fun x hx => Itms.ok_all.mp ok3 x (List.mem_reverse.mp hx)
  have f1 := h169 its.reverse okB (by rw [Itms.many_rev]; omega) way
  have f2 := h176 its.reverse okB (by rw [Itms.many_rev]; omega) way
  have eB : encIs its.reverse = (encIs its).reverse := by rw [encIs_map, encIs_map, List.map_reverse]
  unfold polV at f1 f2
  rw [eB, resIs_map, List.map_reverse, ← resIs_map, live_rev] at f1 f2
  have hrev : way ≠ wFirst → Same (byWay way (live (resIs fs rq its)).reverse) (byWay way (live (resIs fs rq its))) := fun h => byWay_rev h _
  -- first
  have hfst : way = wFirst → byWay way (live (resIs fs rq its)) = (live (resIs fs rq its)).headD rs0 := fun h => by rw [h]; exact byWay_first _
  have g1 : ∀ x ∈ its, Gives (T 169) [fldsV fs, .tup [.str [112, 111, 108, 105, 99, 121], .str [111, 110, 101], .tup [encI x]], reqV rq] (rsO (resI fs rq x)) := fun x hx => by
    have okx : Itm.ok fs 3 x := Itms.ok_all.mp ok3 x hx
    have mx : Itms.many [x] ≤ 500 := by
      obtain ⟨a, b, e⟩ := List.append_of_mem hx
      rw [e, Itms.many_app] at hm
      simp only [Itms.many] at hm ⊢
      omega
    have := h169 [x] ⟨okx, trivial⟩ mx wOne
    have e : live (resIs fs rq [x]) = live [resI fs rq x] := by simp [resIs]
    rw [e, fine_one (resI_fine okx)] at this
    exact this
  have p1 : ∀ st, subP (polV way its) (.int 1) st = some (.str way) := fun st => by simp [polV]
  have p2 : ∀ st, subP (polV way its) (.int 2) st = some (.tup (encIs its)) := fun st => by simp [polV]
  have enc : encIs its = its.map encI := encIs_map its
  generalize polV way its = PP at a1 a2 p1 p2 ⊢
  have e0 : ∀ st, subP (rsO (byWay way (live (resIs fs rq its)))) (.int 0) st = some (.str (byWay way (live (resIs fs rq its))).dec) := fun st => by simp [rsO]
  have e1 : ∀ st, subP (rsO (byWay way (live (resIs fs rq its)))) (.int 1) st = some (dutV (byWay way (live (resIs fs rq its))).du) := fun st => by simp [rsO]
  generalize hR : byWay way (live (resIs fs rq its)) = R at a1 a2 b1 b2 c1 c2 d1 d2 f1 f2 hrev hfst rok e0 e1
  have okw : ∀ w ∈ R.who, okS w = true := fun w hw => (rok.whoN w hw).okS
  have s1 : ∀ st, cmpP .Eq (rsO R) (rsO R) st = some true := fun st => rsO_self rok
  have s2 : ∀ st, cmpP .Eq (PV.tup (R.who.map .str)) (PV.tup (R.who.map .str)) st = some true := fun st => strs_self okw
  have s3 : ∀ st, cmpP .Eq (rsO (sw R)) (PV.tup [.str (swp R.dec), dutV R.du]) st = some true := fun st => by
    have : isDec (swp R.dec) := by rcases rok.dec with e | e | e | e <;> rw [e] <;> unfold isDec <;> decide
    exact rsO_self (r := sw R) (n := Itms.many its) ⟨this, rok.du, rok.who, rok.duN, rok.whoN⟩
  have enev : encI never = .tup [.str [114, 117, 108, 101], .str [110, 101, 118, 101, 114], .str [100, 101, 110, 121], .tup [.str [110, 111, 116], .tup [.str [97, 110, 121]]], .tup [.str [122, 122]]] := by simp [never, encI, encT, dutV, wDeny]
  simp only [enev] at b1 b2 c1 c2
  simp [TX.b182, p1, p2]
  refine Gives.at a1 (hst o ho) ?_
  try simp
  refine Gives.at a2 (hst o ho) ?_
  try simp
  rw [show ((encIs its).length : Int) + 1 = ((its.length + 1 : Nat) : Int) by rw [el]; rfl]
  refine h6.at (by omega) (by omega) ho hr fun r o1 hr1 ho1 => ?_
  simp
  rw [bin_tup (by simp only [List.length_take, List.length_cons, List.length_nil, el]; omega)]
  simp
  rw [bin_tup (by simp only [List.length_append, List.length_take, List.length_drop, List.length_cons, List.length_nil, el]; omega)]
  simp
  refine Gives.at (b1 r) (hst o1 ho1) ?_
  simp [s1]
  refine Gives.at (b2 r) (hst o1 ho1) ?_
  simp [s2]
  generalize List.take r (encIs its) ++ PV.tup [PV.str [114, 117, 108, 101], PV.str [110, 101, 118, 101, 114], PV.str [100, 101, 110, 121], PV.tup [PV.str [110, 111, 116], PV.tup [PV.str [97, 110, 121]]], PV.tup [PV.str [122, 122]]] :: List.drop r (encIs its) = MV
  refine forL_inv (fun s st => ∃ (x7 x14 : Option PV), s = [some (.loc 0), some (fldsV fs), some PP, some (reqV rq), some (.tup [.str [114, 117, 108, 101], .str [110, 101, 118, 101, 114], .str [100, 101, 110, 121], .tup [.str [110, 111, 116], .tup [.str [97, 110, 121]]], .tup [.str [122, 122]]]),
      some (.int r), some (.tup [.str [112, 111, 108, 105, 99, 121], .str way, .tup MV]), x7, none, none, some (.str way), some (.tup (encIs its)), some (rsO R), some (.tup (R.who.map .str)), x14, none, none, none, none, none] ∧ st = o1 :: rest) ⟨_, _, rfl, rfl⟩ ?_ ?_
  · rintro s st ⟨x7, x14, rfl, rfl⟩
    simp
    refine Gives.at (h178 way) (hst o1 ho1) ?_
    try simp
    refine Gives.at h179 (hst o1 ho1) ?_
    try simp
    refine Gives.at d1 (hst o1 ho1) ?_
    simp [e0, e1]
    refine Gives.at (h178 R.dec) (hst o1 ho1) ?_
    simp [s3]
    refine Gives.at d2 (hst o1 ho1) ?_
    have s4 : ∀ st, cmpP .Eq (PV.tup ((sw R).who.map .str)) (PV.tup (R.who.map .str)) st = some true := s2
    simp [s4]
    have fin : Z (.rt (.bl true)) (o1 :: rest) := hZ _ _ (endQ_draw0 (P := fun v => v = .bl true) rfl ho1 hr rfl)
    by_cases hw : way = wFirst
    · have hw2 : way = [102, 105, 114, 115, 116] := hw
      simp [hw2, e_lc]
      rw [enc, compL_one (h := encI) (g := fun x => rsO (resI fs rq x)) fun x hx => by
        simp
        rw [g1 x hx _ (hst o1 ho1)]
        simp]
      simp only [calm_ok, s_ok, s_bnd, List.length_map]
      rw [if_pos (by omega)]
      have e7 : (its.map fun x => rsO (resI fs rq x)) = (resIs fs rq its).map rsO := by rw [resIs_map, List.map_map]; rfl
      rw [e7]
      simp
      rw [compL_filter (h := rsO) (g := rsO) (p := fun r => !decide (r.dec = wNone)) fun x hx => by
        simp [rsO]
        by_cases q : x.dec = [110, 111, 110, 101]
        · have q' : x.dec = wNone := q
          simp [q, wNone]
        · have q' : ¬ x.dec = wNone := q
          simp [q, wNone]]
      change (calmR (Res.ok ((live (resIs fs rq its)).map rsO) (o1 :: rest))).wp _ _
      have hl : (live (resIs fs rq its)).length ≤ its.length := by
        refine Nat.le_trans (List.length_filter_le _ _) ?_
        rw [resIs_map, List.length_map]; exact Nat.le_refl _
      have hh := hfst hw
      simp only [calm_ok, s_ok, s_bnd, List.length_map]
      rw [if_pos (by omega)]
      simp only [s_ok]
      generalize live (resIs fs rq its) = L at hl hh ⊢
      try simp
      rw [bin_lst (by simp only [List.length_map, List.length_cons, List.length_nil]; omega)]
      cases L with
      | nil =>
        have hh2 : R = rs0 := hh
        have s6 : ∀ st, cmpP .Eq (rsO R) (PV.tup [.str [110, 111, 110, 101], .tup []]) st = some true := fun st => by
          have := s1 st
          rw [hh2] at this ⊢
          exact this
        simp [s6]
        exact fin
      | cons x xs =>
        have hh2 : R = x := hh
        rw [← hh2]
        simp [s1]
        exact fin
    · have hw2 : ¬ way = [102, 105, 114, 115, 116] := hw
      obtain ⟨q1, q2, q3⟩ := hrev hw
      simp [hw2]
      refine Gives.at f2 (hst o1 ho1) ?_
      simp
      refine Gives.at f1 (hst o1 ho1) ?_
      generalize byWay way (live (resIs fs rq its)).reverse = B at q1 q2 q3 ⊢
      have s5 : ∀ st, cmpP .Eq (rsO B) (rsO R) st = some true := fun st => by
        have : rsO B = rsO R := by simp only [rsO, q1, q2]
        rw [this]; exact s1 st
      have okb : ∀ w ∈ B.who, okS w = true := fun w hw => okw w (q3.mem_iff.mp hw)
      simp [s5, q3.length_eq, e_lc]
      rw [compL_filter (h := PV.str) (g := PV.str) (p := fun _ => false) fun x hx => by
        simp
        rw [in_strs (okw x hx) okb]
        simp [q3.mem_iff.mpr hx]]
      have ff : R.who.filter (fun _ => false) = [] := by simp
      simp only [ff, List.map_nil, calm_ok, s_ok, s_bnd]
      simp
      exact fin
  · rintro y hy s st ⟨x7, x14, rfl, rfl⟩ Y hY
    obtain ⟨other, rfl⟩ : ∃ w, y = .str w := by
      simp only [List.mem_cons, List.not_mem_nil, or_false] at hy
      rcases hy with rfl | rfl | rfl | rfl <;> exact ⟨_, rfl⟩
    simp
    refine Gives.at (c1 other) (hst o1 ho1) ?_
    simp [s1]
    refine Gives.at (c2 other) (hst o1 ho1) ?_
    simp [s2]
    exact hY _ _ ⟨_, _, rfl, rfl⟩
end
end MP.PL

/-! k13: the law, all together -/
namespace MP.K13
open PySem L2 MP.PL
def names0 : List (List Nat) := [[97], [98], [98, 105, 103], [107, 101, 121], [108, 111, 103], [110, 105, 103, 104, 116], [115, 116, 97, 102, 102], [119, 104, 111]]
theorem names0_nd : names0.Nodup := by decide
theorem names0_nm : ∀ w ∈ names0, Nm w := by
  intro w hw
  simp only [names0, List.mem_cons, List.not_mem_nil, or_false] at hw
  rcases hw with rfl | rfl | rfl | rfl | rfl | rfl | rfl | rfl <;> exact ⟨⟨by simp, by decide⟩, by simp⟩
theorem law_ok {T : Tab} {fu : Nat} (h5 : SpringOk (T 5)) (h6 : DipOk (T 6)) (h7 : PickOk (T 7)) (h24 : HouseOk (T 24)) (h25 : RequestOk (T 25)) (h131 : ∀ fs, HsOk 4 fs → ItemsAt (T 131) fs 2)
    (h181 : ∀ fs rq its, HsOk 4 fs → Req fs rq → Itms.ok fs 2 its → Itms.many its ≤ 400 → (Itms.nms its).Nodup → GivenAt (T 181) fs rq its)
    (h182 : ∀ fs rq its, HsOk 4 fs → Req fs rq → Itms.ok fs 2 its → Itms.many its ≤ 400 → KeptAt (T 182) fs rq its) (zs : List Int) :
    (run T fu 9 1 false TX.b183 [.lst (zs.map .int)] []).wp (fun v _ => v = .bl true) NoX := by
  refine run_sat rfl fun Z hZ => ?_
  simp [TX.b183]
  refine wp_imp (h5 zs) fun v st ⟨e, o, ho, e2⟩ => ?_
  subst e e2
  simp [rngR_int (n := 12) (by omega) (by omega)]
  refine forL_inv (fun s st => ∃ (x0 x2 x3 x4 x5 x6 x7 x8 : Option PV) (o : PO) (rest : Sto), s = [x0, some (.loc 0), x2, x3, x4, x5, x6, x7, x8] ∧ SpO o ∧ StB (rest.length + 1) rest ∧ st = o :: rest) ⟨_, _, _, _, _, _, _, _, o, [], rfl, ho, StB.nil, rfl⟩ ?_ ?_
  · rintro s st ⟨x0, x2, x3, x4, x5, x6, x7, x8, o, rest, rfl, ho, hr, rfl⟩
    simp
    refine hZ _ _ ?_
    show (dropRes 0 (.ok (.bl true) (o :: rest))).wp _ _
    rw [dropRes_ok rfl StB.nil, s_ok]
  · rintro x hx s st ⟨x0, x2, x3, x4, x5, x6, x7, x8, o, rest, rfl, ho, hr, rfl⟩ Y hY
    try simp
    refine (h24 4 40 (by omega) (by omega) (by omega) (by omega)).at ho hr fun hv o1 ⟨fs, e, hs, _⟩ ho1 => ?_
    subst e
    have itm := h131 fs hs
    unfold ItemsAt at itm
    have req := (h25 4 fs (by omega) hs)
    have g0 : ∀ st, subP (houseV fs) (.int 0) st = some (fldsV fs) := fun st => by simp [houseV]
    generalize houseV fs = HV at itm req g0 ⊢
    have en : [PV.str [97], PV.str [98], PV.str [98, 105, 103], PV.str [107, 101, 121], PV.str [108, 111, 103], PV.str [110, 105, 103, 104, 116], PV.str [115, 116, 97, 102, 102], PV.str [119, 104, 111]] = names0.map .str := rfl
    simp
    rw [en]
    have hr2 := stb_last hr (lbs_str names0)
    refine h6.at (by omega) (by omega) ho1 hr2 fun r o2 hr3 ho2 => ?_
    try simp
    have e1 : (1 : Int) + (r : Int) = ((r + 1 : Nat) : Int) := by omega
    rw [e1]
    refine wp_imp (itm (r + 1) names0 rest.length o2 (rest ++ [.lst (names0.map .str)]) ho2 hr2 (by simp) names0_nm (by omega) (by decide)) fun v st ⟨its, names', o3, e2, hok, hl, hmy, ⟨_, hc⟩, ho3, e3⟩ => ?_
    subst e2 e3
    have hm : Itms.many its ≤ 400 := by
      have : names0.length = 8 := rfl
      omega
    have hnd : (Itms.nms its).Nodup := List.nodup_iff_count.mpr fun w => by
      have h1 := hc w
      have h2 := List.nodup_iff_count.mp names0_nd w
      omega
    simp
    have hr4 := stb_last hr (lbs_str names')
    generalize rest ++ [PO.lst (names'.map PV.str)] = rest' at hr4 ⊢
    have e4 : [PV.str [102, 105, 114, 115, 116], PV.str [100, 101, 110, 121], PV.str [97, 108, 108, 111, 119], PV.str [111, 110, 101]] = [wFirst, wDeny, wAllow, wOne].map .str := rfl
    rw [e4]
    refine h7.lst (by simp) (by simp) (lbs_str _) ho3 hr4 fun v o4 hv ho4 => ?_
    obtain ⟨way, hway, rfl⟩ := List.mem_map.mp hv
    have hway : isWay way := by simpa [isWay] using hway
    simp [rngR_int (n := 4) (by omega) (by omega)]
    generalize PV.loc (rest.length + 1) = NL
    refine forL_inv (fun s st => ∃ (x7 x8 : Option PV) (o : PO), s = [x0, some (.loc 0), some x, some HV, some NL, some (.tup (encIs its)), some (polV way its), x7, x8] ∧ SpO o ∧ st = o :: rest') ⟨_, _, o4, rfl, ho4, rfl⟩ ?_ ?_
    · rintro s st ⟨x7, x8, o, rfl, ho, rfl⟩
      try simp
      exact hY _ _ ⟨_, _, _, _, _, _, _, _, o, rest', rfl, ho, hr4, rfl⟩
    · rintro y hy s st ⟨x7, x8, o, rfl, ho, rfl⟩ W hW
      try simp
      refine req.at ho hr4 fun rv o5 ⟨rq, e, hq, hsh⟩ ho5 => ?_
      subst e
      have hst : StB (o5 :: rest').length (o5 :: rest') := StB.cons (ho5.olb _) hr4
      have a1 := h181 fs rq its hs hq hok hm hnd way hway
      have a2 := h182 fs rq its hs hq hok hm way hway
      have hw : ∀ o6, SpO o6 → W (.nx [x0, some (.loc 0), some x, some HV, some NL, some (.tup (encIs its)), some (polV way its), some y, some (reqV rq)]) (o6 :: rest') := fun o6 ho6 => hW _ _ ⟨_, _, o6, rfl, ho6, rfl⟩
      generalize polV way its = PP at a1 a2 hw ⊢
      simp [g0]
      refine Gives.at a1 hst ?_
      simp [g0]
      refine a2.at ho5 hr4 fun v o6 e ho6 => ?_
      subst e
      simp
      exact hw o6 ho6
def q180 : MP.Row := ⟨"_law_rules", ["_law_items_here", "_law_found", "_law_item"], 1, false, TX.b180, []⟩
def rows : MP.Rows := [(35, TX.r35), (102, TX.r102), (127, TX.r127), (163, TX.r163), (164, TX.r164), (165, TX.r165), (166, TX.r166), (167, TX.r167), (168, TX.r168), (169, TX.r169), (176, TX.r176), (5, TX.r5), (6, TX.r6), (7, TX.r7), (8, TX.r8), (21, TX.r21), (22, TX.r22), (23, TX.r23), (24, TX.r24), (66, TX.r66), (67, TX.r67), (130, TX.r130), (131, TX.r131), (103, TX.r103), (25, TX.r25), (178, TX.r178), (179, TX.r179), (180, q180), (181, TX.r181), (182, TX.r182), (183, TX.r183)]
theorem h35 : TX.H35 rows := ⟨_, rfl, rfl, rfl, rfl, rfl⟩
theorem h102 : TX.H102 rows := ⟨_, rfl, rfl, rfl, rfl, rfl⟩
theorem h127 : TX.H127 rows := ⟨_, rfl, rfl, rfl, rfl, rfl⟩
theorem h163 : TX.H163 rows := ⟨_, rfl, rfl, rfl, rfl, rfl⟩
theorem h164 : TX.H164 rows := ⟨_, rfl, rfl, rfl, rfl, rfl⟩
theorem h165 : TX.H165 rows := ⟨_, rfl, rfl, rfl, rfl, rfl⟩
theorem h166 : TX.H166 rows := ⟨_, rfl, rfl, rfl, rfl, rfl⟩
theorem h167 : TX.H167 rows := ⟨_, rfl, rfl, rfl, rfl, rfl⟩
theorem h168 : TX.H168 rows := ⟨_, rfl, rfl, rfl, rfl, rfl⟩
theorem h169 : TX.H169 rows := ⟨_, rfl, rfl, rfl, rfl, rfl⟩
theorem h176 : TX.H176 rows := ⟨_, rfl, rfl, rfl, rfl, rfl⟩
theorem h5 : TX.H5 rows := ⟨_, rfl, rfl, rfl, rfl, rfl⟩
theorem h6 : TX.H6 rows := ⟨_, rfl, rfl, rfl, rfl, rfl⟩
theorem h7 : TX.H7 rows := ⟨_, rfl, rfl, rfl, rfl, rfl⟩
theorem h8 : TX.H8 rows := ⟨_, rfl, rfl, rfl, rfl, rfl⟩
theorem h21 : TX.H21 rows := ⟨_, rfl, rfl, rfl, rfl, rfl⟩
theorem h22 : TX.H22 rows := ⟨_, rfl, rfl, rfl, rfl, rfl⟩
theorem h23 : TX.H23 rows := ⟨_, rfl, rfl, rfl, rfl, rfl⟩
theorem h24 : TX.H24 rows := ⟨_, rfl, rfl, rfl, rfl, rfl⟩
theorem h66 : TX.H66 rows := ⟨_, rfl, rfl, rfl, rfl, rfl⟩
theorem h67 : TX.H67 rows := ⟨_, rfl, rfl, rfl, rfl, rfl⟩
theorem h130 : TX.H130 rows := ⟨_, rfl, rfl, rfl, rfl, rfl⟩
theorem h131 : TX.H131 rows := ⟨_, rfl, rfl, rfl, rfl, rfl⟩
theorem h103 : TX.H103 rows := ⟨_, rfl, rfl, rfl, rfl, rfl⟩
theorem h25 : TX.H25 rows := ⟨_, rfl, rfl, rfl, rfl, rfl⟩
theorem h178 : TX.H178 rows := ⟨_, rfl, rfl, rfl, rfl, rfl⟩
theorem h179 : TX.H179 rows := ⟨_, rfl, rfl, rfl, rfl, rfl⟩
theorem h180 : TX.H180 rows := ⟨_, rfl, rfl, rfl, rfl, rfl⟩
theorem h181 : TX.H181 rows := ⟨_, rfl, rfl, rfl, rfl, rfl⟩
theorem h182 : TX.H182 rows := ⟨_, rfl, rfl, rfl, rfl, rfl⟩
theorem h183 : TX.H183 rows := ⟨_, rfl, rfl, rfl, rfl, rfl⟩
theorem has : HasDraws rows := ⟨h5, h6, h7, h8, h21, h22, h23, h24⟩
theorem law_true (zs : List Int) (_ : zs.length ≤ 63) : ∃ st, tab rows 100 60 183 [.lst (zs.map .int)] [] = .ok (.bl true) st := by
  have D168 : ∀ k, 16 ≤ k → ∀ fs rq its, HsOk 4 fs → Req fs rq → Itms.ok fs 3 its → Itms.many its ≤ 500 → ItemsRAt (tab rows 100 k 168) fs rq its := fun k hk fs rq its hs hq hok hm =>
    res_lvl h35 h102 h127 h163 h164 h165 h166 h167 h168 (by omega) hs hq 3 k (by omega) its hok hm
  have D169 : ∀ k, 20 ≤ k → ∀ fs rq its, HsOk 4 fs → Req fs rq → Itms.ok fs 3 its → Itms.many its ≤ 500 → OutcomeAt (tab rows 100 k 169) fs rq its := fun k hk fs rq its hs hq hok hm =>
    lvlH (rows := rows) (fu := 100) (i := 169) (P := fun F => OutcomeAt F fs rq its) (d := 19) h169 (fun k hk => outcome_ok (D168 k (by omega) fs rq its hs hq hok hm)) k hk
  have D176 : ∀ k, 20 ≤ k → ∀ fs rq its, HsOk 4 fs → Req fs rq → Itms.ok fs 3 its → Itms.many its ≤ 500 → ToldByAt (tab rows 100 k 176) fs rq its := fun k hk fs rq its hs hq hok hm =>
    lvlH (rows := rows) (fu := 100) (i := 176) (P := fun F => ToldByAt F fs rq its) (d := 19) h176 (fun k hk => told_by_ok (D168 k (by omega) fs rq its hs hq hok hm)) k hk
  have D180 : ∀ fs d k, d + 1 ≤ k → ∀ l : List Itm, Itms.ok fs d l → Itms.many l ≤ 1000 → RulesAt (tab rows 100 k 180) l := by
    intro fs d
    induction d with
    | zero =>
      intro k hk l hok hmy
      exact lvlH (rows := rows) (fu := 100) (i := 180) (P := fun F => RulesAt F l) (d := 0) h180 (fun k hk => rules_step l hok hmy fun d' l e => by omega) k hk
    | succ d ih =>
      intro k hk l hok hmy
      exact lvlH (rows := rows) (fu := 100) (i := 180) (P := fun F => RulesAt F l) (d := d + 1) h180 (fun k hk => rules_step l hok hmy fun d' l e h1 h2 => by
        have : d' = d := by omega
        subst this
        exact ih k hk l h1 h2) k hk
  have D178 := lvlH (rows := rows) (fu := 100) (i := 178) (P := SwapOk) (d := 0) h178 fun k hk => swapped_ok
  have D179 : ∀ fs d k, d + 2 ≤ k → ∀ l : List Itm, Itms.ok fs d l → Itms.many l ≤ 1000 → MirAt (tab rows 100 k 179) l := by
    intro fs d
    induction d with
    | zero =>
      intro k hk l hok hmy
      exact lvlH (rows := rows) (fu := 100) (i := 179) (P := fun F => MirAt F l) (d := 1) h179 (fun k hk => mirrored_step l hok hmy (D178 k (by omega)) fun d' l e => by omega) k hk
    | succ d ih =>
      intro k hk l hok hmy
      exact lvlH (rows := rows) (fu := 100) (i := 179) (P := fun F => MirAt F l) (d := d + 2) h179 (fun k hk => mirrored_step l hok hmy (D178 k (by omega)) fun d' l e h1 h2 => by
        have : d' = d := by omega
        subst this
        exact ih k hk l h1 h2) k hk
  have D181 : ∀ k, 30 ≤ k → ∀ fs rq its, HsOk 4 fs → Req fs rq → Itms.ok fs 2 its → Itms.many its ≤ 400 → (Itms.nms its).Nodup → GivenAt (tab rows 100 k 181) fs rq its := fun k hk fs rq its hs hq hok hm hn =>
    lvlH (rows := rows) (fu := 100) (i := 181) (P := fun F => GivenAt F fs rq its) (d := 29) h181 (fun k hk => given_ok hok (by omega) hn (D169 k (by omega) fs rq its hs hq (Itms.ok_mono hok (by omega)) (by omega)) (D176 k (by omega) fs rq its hs hq (Itms.ok_mono hok (by omega)) (by omega))
      (D180 fs 2 k (by omega) its hok (by omega)) fun t ht hd => l_so_lvl (fu := 100) h103 (by omega) hs hq 3 k (by omega) t hd (ht.wf hs.mr)) k hk
  have D182 : ∀ k, 30 ≤ k → ∀ fs rq its, HsOk 4 fs → Req fs rq → Itms.ok fs 2 its → Itms.many its ≤ 400 → KeptAt (tab rows 100 k 182) fs rq its := fun k hk fs rq its hs hq hok hm =>
    lvlH (rows := rows) (fu := 100) (i := 182) (P := fun F => KeptAt F fs rq its) (d := 29) h182 (fun k hk => kept_ok hok (by omega) (has.dip 100 k (by omega)) (fun l h1 h2 => D169 k (by omega) fs rq l hs hq h1 h2) (fun l h1 h2 => D176 k (by omega) fs rq l hs hq h1 h2)
      (D178 k (by omega)) (D179 fs 2 k (by omega) its hok (by omega))) k hk
  have D := lvlH (rows := rows) (fu := 100) (i := 183) (P := fun F => ∀ zs : List Int, (F [.lst (zs.map .int)] []).wp (fun v _ => v = .bl true) NoX) (d := 40) h183 fun k hk zs =>
    law_ok (has.spring 100 k (by omega)) (has.dip 100 k (by omega)) (has.pick 100 k (by omega)) (has.house 100 k (by omega)) (has.request 100 h25 k (by omega)) (fun fs hs => has.items 100 h66 h67 h130 h131 (by omega) hs 2 k (by omega)) (D181 k (by omega)) (D182 k (by omega)) zs
  obtain ⟨v, st, e, hv⟩ := wp_eq (D 60 (by omega) zs)
  exact ⟨st, by rw [e, hv]⟩
end MP.K13
namespace MP.K13
open PySem PyProof.Rows L2 MP
def top (i : Nat) : Stmt := PySem.Challenge.pw_sureallow_k13_whole_outcomes.main.body.getD i (.Pass ⟨0, 0, 0, 0⟩)
def sts : List Stmt := [top 1, top 3, top 7, top 8, top 9, top 10, top 11, top 12, top 13, top 14, top 15, top 17, top 18, top 19, top 20, top 21, top 22, top 23, top 24, top 25, top 26, top 27, top 28, top 29, top 30, top 31, top 32, top 33, top 34, top 35, top 36]
def frees : List String := ["abs", "all", "any", "enumerate", "int", "isinstance", "len", "list", "min", "range", "set", "sorted", "str", "tuple"]
def glos : List (String × PV) := [("NOTHING", (.tup [(.str [110, 111, 110, 101]), (.tup [])]))]
def dcts : List (String × List (List Nat × PV)) := [("RANKS", [([100, 101, 110, 121], (.tup [(.str [100, 101, 110, 121]), (.str [99, 108, 97, 115, 104]), (.str [97, 108, 108, 111, 119])])), ([97, 108, 108, 111, 119], (.tup [(.str [97, 108, 108, 111, 119]), (.str [99, 108, 97, 115, 104]), (.str [100, 101, 110, 121])]))])]
theorem t35 : TextOk rows frees glos dcts TX.r35 (top 1) := ⟨⟨rfl, rfl, rfl, by decide +kernel, by decide +kernel, by decide +kernel, by decide +kernel⟩, fun _ _ _ _ _ _ _ us hl => (match us, hl with | [_, _], _ => rfl), fun h => absurd rfl h, by decide +kernel, by decide +kernel⟩
theorem t102 : TextOk rows frees glos dcts TX.r102 (top 3) := ⟨⟨rfl, rfl, rfl, by decide +kernel, by decide +kernel, by decide +kernel, by decide +kernel⟩, fun _ _ _ _ _ _ _ us hl => (match us, hl with | [_, _, _], _ => rfl), fun h => absurd rfl h, by decide +kernel, by decide +kernel⟩
theorem t127 : TextOk rows frees glos dcts TX.r127 (top 7) := ⟨⟨rfl, rfl, rfl, by decide +kernel, by decide +kernel, by decide +kernel, by decide +kernel⟩, fun _ _ _ _ _ _ _ us hl => (match us, hl with | [_], _ => rfl), fun h => absurd rfl h, by decide +kernel, by decide +kernel⟩
theorem t163 : TextOk rows frees glos dcts TX.r163 (top 8) := ⟨⟨rfl, rfl, rfl, by decide +kernel, by decide +kernel, by decide +kernel, by decide +kernel⟩, fun _ _ _ _ _ _ _ us hl => (match us, hl with | [_], _ => rfl), fun h => absurd rfl h, by decide +kernel, by decide +kernel⟩
theorem t164 : TextOk rows frees glos dcts TX.r164 (top 9) := ⟨⟨rfl, rfl, rfl, by decide +kernel, by decide +kernel, by decide +kernel, by decide +kernel⟩, fun _ _ _ _ _ _ _ us hl => (match us, hl with | [_], _ => rfl), fun h => absurd rfl h, by decide +kernel, by decide +kernel⟩
theorem t165 : TextOk rows frees glos dcts TX.r165 (top 10) := ⟨⟨rfl, rfl, rfl, by decide +kernel, by decide +kernel, by decide +kernel, by decide +kernel⟩, fun _ _ _ _ _ _ _ us hl => (match us, hl with | [_, _], _ => rfl), fun h => absurd rfl h, by decide +kernel, by decide +kernel⟩
theorem t166 : TextOk rows frees glos dcts TX.r166 (top 11) := ⟨⟨rfl, rfl, rfl, by decide +kernel, by decide +kernel, by decide +kernel, by decide +kernel⟩, fun _ _ _ _ _ _ _ us hl => (match us, hl with | [_, _], _ => rfl), fun h => absurd rfl h, by decide +kernel, by decide +kernel⟩
theorem t167 : TextOk rows frees glos dcts TX.r167 (top 12) := ⟨⟨rfl, rfl, rfl, by decide +kernel, by decide +kernel, by decide +kernel, by decide +kernel⟩, fun _ _ _ _ _ _ _ us hl => (match us, hl with | [_, _, _], _ => rfl), fun h => absurd rfl h, by decide +kernel, by decide +kernel⟩
theorem t168 : TextOk rows frees glos dcts TX.r168 (top 13) := ⟨⟨rfl, rfl, rfl, by decide +kernel, by decide +kernel, by decide +kernel, by decide +kernel⟩, fun _ _ _ _ _ _ _ us hl => (match us, hl with | [_, _, _, _], _ => rfl), fun h => absurd rfl h, by decide +kernel, by decide +kernel⟩
theorem t169 : TextOk rows frees glos dcts TX.r169 (top 14) := ⟨⟨rfl, rfl, rfl, by decide +kernel, by decide +kernel, by decide +kernel, by decide +kernel⟩, fun _ _ _ _ _ _ _ us hl => (match us, hl with | [_, _, _], _ => rfl), fun h => absurd rfl h, by decide +kernel, by decide +kernel⟩
theorem t176 : TextOk rows frees glos dcts TX.r176 (top 15) := ⟨⟨rfl, rfl, rfl, by decide +kernel, by decide +kernel, by decide +kernel, by decide +kernel⟩, fun _ _ _ _ _ _ _ us hl => (match us, hl with | [_, _, _], _ => rfl), fun h => absurd rfl h, by decide +kernel, by decide +kernel⟩
theorem t5 : TextOk rows frees glos dcts TX.r5 (top 17) := ⟨⟨rfl, rfl, rfl, by decide +kernel, by decide +kernel, by decide +kernel, by decide +kernel⟩, fun _ _ _ _ _ _ _ us hl => (match us, hl with | [_], _ => rfl), fun h => absurd rfl h, by decide +kernel, by decide +kernel⟩
theorem t6 : TextOk rows frees glos dcts TX.r6 (top 18) := ⟨⟨rfl, rfl, rfl, by decide +kernel, by decide +kernel, by decide +kernel, by decide +kernel⟩, fun _ _ _ _ _ _ _ us hl => (match us, hl with | [_, _], _ => rfl), fun h => absurd rfl h, by decide +kernel, by decide +kernel⟩
theorem t7 : TextOk rows frees glos dcts TX.r7 (top 19) := ⟨⟨rfl, rfl, rfl, by decide +kernel, by decide +kernel, by decide +kernel, by decide +kernel⟩, fun _ _ _ _ _ _ _ us hl => (match us, hl with | [_, _], _ => rfl), fun h => absurd rfl h, by decide +kernel, by decide +kernel⟩
theorem t8 : TextOk rows frees glos dcts TX.r8 (top 20) := ⟨⟨rfl, rfl, rfl, by decide +kernel, by decide +kernel, by decide +kernel, by decide +kernel⟩, fun _ _ _ _ _ _ _ us hl => (match us, hl with | [_, _], _ => rfl), fun h => absurd rfl h, by decide +kernel, by decide +kernel⟩
theorem t21 : TextOk rows frees glos dcts TX.r21 (top 21) := ⟨⟨rfl, rfl, rfl, by decide +kernel, by decide +kernel, by decide +kernel, by decide +kernel⟩, fun _ _ _ _ _ _ _ us hl => (match us, hl with | [_, _], _ => rfl), fun h => absurd rfl h, by decide +kernel, by decide +kernel⟩
theorem t22 : TextOk rows frees glos dcts TX.r22 (top 22) := ⟨⟨rfl, rfl, rfl, by decide +kernel, by decide +kernel, by decide +kernel, by decide +kernel⟩, fun _ _ _ _ _ _ _ us hl => (match us, hl with | [_], _ => rfl), fun h => absurd rfl h, by decide +kernel, by decide +kernel⟩
theorem t23 : TextOk rows frees glos dcts TX.r23 (top 23) := ⟨⟨rfl, rfl, rfl, by decide +kernel, by decide +kernel, by decide +kernel, by decide +kernel⟩, fun _ _ _ _ _ _ _ us hl => (match us, hl with | [_, _, _], _ => rfl), fun h => absurd rfl h, by decide +kernel, by decide +kernel⟩
theorem t24 : TextOk rows frees glos dcts TX.r24 (top 24) := ⟨⟨rfl, rfl, rfl, by decide +kernel, by decide +kernel, by decide +kernel, by decide +kernel⟩, fun _ _ _ _ _ _ _ us hl => (match us, hl with | [_, _, _], _ => rfl), fun h => absurd rfl h, by decide +kernel, by decide +kernel⟩
theorem t66 : TextOk rows frees glos dcts TX.r66 (top 25) := ⟨⟨rfl, rfl, rfl, by decide +kernel, by decide +kernel, by decide +kernel, by decide +kernel⟩, fun _ _ _ _ _ _ _ us hl => (match us, hl with | [_, _], _ => rfl), fun h => absurd rfl h, by decide +kernel, by decide +kernel⟩
theorem t67 : TextOk rows frees glos dcts TX.r67 (top 26) := ⟨⟨rfl, rfl, rfl, by decide +kernel, by decide +kernel, by decide +kernel, by decide +kernel⟩, fun _ _ _ _ _ _ _ us hl => (match us, hl with | [_, _, _], _ => rfl), fun h => absurd rfl h, by decide +kernel, by decide +kernel⟩
theorem t130 : TextOk rows frees glos dcts TX.r130 (top 27) := ⟨⟨rfl, rfl, rfl, by decide +kernel, by decide +kernel, by decide +kernel, by decide +kernel⟩, fun _ _ _ _ _ _ _ us hl => (match us, hl with | [_], _ => rfl), fun h => absurd rfl h, by decide +kernel, by decide +kernel⟩
theorem t131 : TextOk rows frees glos dcts TX.r131 (top 28) := ⟨⟨rfl, rfl, rfl, by decide +kernel, by decide +kernel, by decide +kernel, by decide +kernel⟩, fun _ _ _ _ _ _ _ us hl => (match us, hl with | [_, _, _, _, _], _ => rfl), fun h => absurd rfl h, by decide +kernel, by decide +kernel⟩
theorem t103 : TextOk rows frees glos dcts TX.r103 (top 29) := ⟨⟨rfl, rfl, rfl, by decide +kernel, by decide +kernel, by decide +kernel, by decide +kernel⟩, fun _ _ _ _ _ _ _ us hl => (match us, hl with | [_, _, _], _ => rfl), fun h => absurd rfl h, by decide +kernel, by decide +kernel⟩
theorem t25 : TextOk rows frees glos dcts TX.r25 (top 30) := ⟨⟨rfl, rfl, rfl, by decide +kernel, by decide +kernel, by decide +kernel, by decide +kernel⟩, fun _ _ _ _ _ _ _ us hl => (match us, hl with | [_, _], _ => rfl), fun h => absurd rfl h, by decide +kernel, by decide +kernel⟩
theorem t178 : TextOk rows frees glos dcts TX.r178 (top 31) := ⟨⟨rfl, rfl, rfl, by decide +kernel, by decide +kernel, by decide +kernel, by decide +kernel⟩, fun _ _ _ _ _ _ _ us hl => (match us, hl with | [_], _ => rfl), fun h => absurd rfl h, by decide +kernel, by decide +kernel⟩
theorem t179 : TextOk rows frees glos dcts TX.r179 (top 32) := ⟨⟨rfl, rfl, rfl, by decide +kernel, by decide +kernel, by decide +kernel, by decide +kernel⟩, fun _ _ _ _ _ _ _ us hl => (match us, hl with | [_], _ => rfl), fun h => absurd rfl h, by decide +kernel, by decide +kernel⟩
theorem t180 : TextOk rows frees glos dcts q180 (top 33) := ⟨⟨rfl, rfl, rfl, by decide +kernel, by decide +kernel, by decide +kernel, by decide +kernel⟩, fun _ _ _ _ _ _ _ us hl => (match us, hl with | [_], _ => rfl), fun h => absurd rfl h, by decide +kernel, by decide +kernel⟩
theorem t181 : TextOk rows frees glos dcts TX.r181 (top 34) := ⟨⟨rfl, rfl, rfl, by decide +kernel, by decide +kernel, by decide +kernel, by decide +kernel⟩, fun _ _ _ _ _ _ _ us hl => (match us, hl with | [_, _, _], _ => rfl), fun h => absurd rfl h, by decide +kernel, by decide +kernel⟩
theorem t182 : TextOk rows frees glos dcts TX.r182 (top 35) := ⟨⟨rfl, rfl, rfl, by decide +kernel, by decide +kernel, by decide +kernel, by decide +kernel⟩, fun _ _ _ _ _ _ _ us hl => (match us, hl with | [_, _, _, _], _ => rfl), fun h => absurd rfl h, by decide +kernel, by decide +kernel⟩
theorem t183 : TextOk rows frees glos dcts TX.r183 (top 36) := ⟨⟨rfl, rfl, rfl, by decide +kernel, by decide +kernel, by decide +kernel, by decide +kernel⟩, fun _ _ _ _ _ _ _ us hl => (match us, hl with | [_], _ => rfl), fun h => absurd rfl h, by decide +kernel, by decide +kernel⟩
theorem texts : AllText rows frees glos dcts rows sts := ⟨t35, t102, t127, t163, t164, t165, t166, t167, t168, t169, t176, t5, t6, t7, t8, t21, t22, t23, t24, t66, t67, t130, t131, t103, t25, t178, t179, t180, t181, t182, t183, trivial⟩
end MP.K13
open PySem PySem.W PyProof.Rows
set_option maxRecDepth 100000 in
set_option maxHeartbeats 0 in
theorem PySem.Challenge.cw_sureallow_k13_whole_outcomes_holds : PySem.Challenge.rw_sureallow_k13_whole_outcomes.Holds := by
  w_on; o_law; k_head; (case hw => w_witness2)
  k_fill
  refine MP.law_end (l := PySem.Challenge.rw_sureallow_k13_whole_outcomes) (n := 63) (k := 60) (fu := 100) (i := 183) (rows := MP.K13.rows) (sts := MP.K13.sts) (fr := MP.K13.frees) (gs := MP.K13.glos) (ds := MP.K13.dcts) (row := MP.TX.r183) rfl (by decide) rfl ⟨rfl, by decide, by decide⟩ (fun w h Y => PySem.W.kIn_of Y) rfl rfl ?gN ?gD MP.K13.texts MP.K13.law_true
  case gN =>
    intro p
    refine MP.names_mk ?_ ?_ ?_
    · refine ⟨?_, ?_, ?_, ?_, ?_, ?_, ?_, ?_, ?_, ?_, ?_, ?_, ?_, ?_, trivial⟩
      · k_is
      · k_is
      · k_is
      · k_is
      · k_is
      · k_is
      · k_is
      · k_is
      · k_is
      · k_is
      · k_is
      · k_is
      · k_is
      · k_is
    · refine' ⟨MP.glo_mk ?a0 ?b0, trivial⟩
      (case a0 => k_is); (case b0 => first | rfl | decide +kernel | k_is)
    · refine' ⟨MP.dct_mk ?a0 ?b0 ?c0 ?d0 ?e0, trivial⟩
      (case a0 => k_is); (case b0 => k_is); (case c0 => exact ⟨⟨_, _, rfl, rfl⟩, ⟨_, _, rfl, rfl⟩, trivial⟩); (case d0 => rfl); (case e0 => first | rfl | decide +kernel)
  case gD =>
    intro p
    refine ⟨?_, ?_, ?_, ?_, ?_, ?_, ?_, ?_, ?_, ?_, ?_, ?_, ?_, ?_, ?_, ?_, ?_, ?_, ?_, ?_, ?_, ?_, ?_, ?_, ?_, ?_, ?_, ?_, ?_, ?_, ?_, trivial⟩
    · refine' MP.defAt_mk ?a ?l ?c ?k
      (case a => k_is); (case l => k_is); (case c => k_is); (case k => k_is)
    · refine' MP.defAt_mk ?a ?l ?c ?k
      (case a => k_is); (case l => k_is); (case c => k_is); (case k => k_is)
    · refine' MP.defAt_mk ?a ?l ?c ?k
      (case a => k_is); (case l => k_is); (case c => k_is); (case k => k_is)
    · refine' MP.defAt_mk ?a ?l ?c ?k
      (case a => k_is); (case l => k_is); (case c => k_is); (case k => k_is)
    · refine' MP.defAt_mk ?a ?l ?c ?k
      (case a => k_is); (case l => k_is); (case c => k_is); (case k => k_is)
    · refine' MP.defAt_mk ?a ?l ?c ?k
      (case a => k_is); (case l => k_is); (case c => k_is); (case k => k_is)
    · refine' MP.defAt_mk ?a ?l ?c ?k
      (case a => k_is); (case l => k_is); (case c => k_is); (case k => k_is)
    · refine' MP.defAt_mk ?a ?l ?c ?k
      (case a => k_is); (case l => k_is); (case c => k_is); (case k => k_is)
    · refine' MP.defAt_mk ?a ?l ?c ?k
      (case a => k_is); (case l => k_is); (case c => k_is); (case k => k_is)
    · refine' MP.defAt_mk ?a ?l ?c ?k
      (case a => k_is); (case l => k_is); (case c => k_is); (case k => k_is)
    · refine' MP.defAt_mk ?a ?l ?c ?k
      (case a => k_is); (case l => k_is); (case c => k_is); (case k => k_is)
    · refine' MP.defAt_mk ?a ?l ?c ?k
      (case a => k_is); (case l => k_is); (case c => k_is); (case k => k_is)
    · refine' MP.defAt_mk ?a ?l ?c ?k
      (case a => k_is); (case l => k_is); (case c => k_is); (case k => k_is)
    · refine' MP.defAt_mk ?a ?l ?c ?k
      (case a => k_is); (case l => k_is); (case c => k_is); (case k => k_is)
    · refine' MP.defAt_mk ?a ?l ?c ?k
      (case a => k_is); (case l => k_is); (case c => k_is); (case k => k_is)
    · refine' MP.defAt_mk ?a ?l ?c ?k
      (case a => k_is); (case l => k_is); (case c => k_is); (case k => k_is)
    · refine' MP.defAt_mk ?a ?l ?c ?k
      (case a => k_is); (case l => k_is); (case c => k_is); (case k => k_is)
    · refine' MP.defAt_mk ?a ?l ?c ?k
      (case a => k_is); (case l => k_is); (case c => k_is); (case k => k_is)
    · refine' MP.defAt_mk ?a ?l ?c ?k
      (case a => k_is); (case l => k_is); (case c => k_is); (case k => k_is)
    · refine' MP.defAt_mk ?a ?l ?c ?k
      (case a => k_is); (case l => k_is); (case c => k_is); (case k => k_is)
    · refine' MP.defAt_mk ?a ?l ?c ?k
      (case a => k_is); (case l => k_is); (case c => k_is); (case k => k_is)
    · refine' MP.defAt_mk ?a ?l ?c ?k
      (case a => k_is); (case l => k_is); (case c => k_is); (case k => k_is)
    · refine' MP.defAt_mk ?a ?l ?c ?k
      (case a => k_is); (case l => k_is); (case c => k_is); (case k => k_is)
    · refine' MP.defAt_mk ?a ?l ?c ?k
      (case a => k_is); (case l => k_is); (case c => k_is); (case k => k_is)
    · refine' MP.defAt_mk ?a ?l ?c ?k
      (case a => k_is); (case l => k_is); (case c => k_is); (case k => k_is)
    · refine' MP.defAt_mk ?a ?l ?c ?k
      (case a => k_is); (case l => k_is); (case c => k_is); (case k => k_is)
    · refine' MP.defAt_mk ?a ?l ?c ?k
      (case a => k_is); (case l => k_is); (case c => k_is); (case k => k_is)
    · refine' MP.defAt_mk ?a ?l ?c ?k
      (case a => k_is); (case l => k_is); (case c => k_is); (case k => k_is)
    · refine' MP.defAt_mk ?a ?l ?c ?k
      (case a => k_is); (case l => k_is); (case c => k_is); (case k => k_is)
    · refine' MP.defAt_mk ?a ?l ?c ?k
      (case a => k_is); (case l => k_is); (case c => k_is); (case k => k_is)
    · refine' MP.defAt_mk ?a ?l ?c ?k
      (case a => k_is); (case l => k_is); (case c => k_is); (case k => k_is)
