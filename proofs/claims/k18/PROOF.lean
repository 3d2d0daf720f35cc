import PyProof.Rows.All
import Wide.All
import OpenK.AllK
import Wide.FinOn
import HandS.ForMost
import HandS.ForExc
import HandS.Flow
import HandS.Style
import HandS.IsInst
import HandS.Wide
import HandS.Deep
import HandS.TupAny
import HandS.Codes
import PyProof.Rows.StrMeet
import HandS.More
import HandS.ExcInit
import HandS.ExcField
import HandS.ExcIs
import HandS.HeadWalk
import HandS.WordsExc
import HandS.ExcIs
import PySem.Challenge.RW_warmroads_k18_whole_words_of_the_languag
set_option Elab.async false
set_option linter.all false
set_option maxRecDepth 100000
set_option maxHeartbeats 4000000
/-! DI, part A: a small language of values and cells, and what its programs do (plain functions; nothing of the model here). -/
namespace DI
open PySem

/-- a value: tuples and frozen lists are data; what may change stands in a cell -/
inductive D where
  | non | bl (b : Bool) | int (i : Int) | str (s : Str) | tup (xs : List D) | lst (xs : List D) | fro (xs : List D) | ref (n : Nat)
  deriving Inhabited

mutual
def D.beq : D → D → Bool
  | .non, .non => true
  | .bl a, .bl b => a == b
  | .int a, .int b => decide (a = b)
  | .str a, .str b => decide (a = b)
  | .tup a, .tup b => D.beqs a b
  | .lst a, .lst b => D.beqs a b
  | .fro a, .fro b => D.beqs a b
  | .ref a, .ref b => a == b
  | _, _ => false
def D.beqs : List D → List D → Bool
  | [], [] => true
  | x :: xs, y :: ys => D.beq x y && D.beqs xs ys
  | _, _ => false
end
mutual
theorem D.beq_iff : ∀ a b : D, D.beq a b = true ↔ a = b
  | .non, b => by cases b <;> simp [D.beq]
  | .bl a, b => by cases b <;> simp [D.beq]
  | .int a, b => by cases b <;> simp [D.beq]
  | .str a, b => by cases b <;> simp [D.beq]
  | .tup a, b => by
    cases b <;> simp [D.beq]
    exact D.beqs_iff a _
  | .lst a, b => by
    cases b <;> simp [D.beq]
    exact D.beqs_iff a _
  | .fro a, b => by
    cases b <;> simp [D.beq]
    exact D.beqs_iff a _
  | .ref a, b => by cases b <;> simp [D.beq]
theorem D.beqs_iff : ∀ a b : List D, D.beqs a b = true ↔ a = b
  | [], b => by cases b <;> simp [D.beqs]
  | x :: xs, b => by
    cases b with
    | nil => simp [D.beqs]
    | cons y ys =>
      simp only [D.beqs, Bool.and_eq_true, List.cons.injEq]
      rw [D.beq_iff x y, D.beqs_iff xs ys]
end
instance : DecidableEq D := fun a b => decidable_of_iff (D.beq a b = true) (D.beq_iff a b)

inductive Cell where
  | lst (xs : List D)
  | dic (kvs : List (L2.Key × D))
  | ins (c : Nat) (fs : List (Str × D))
  deriving DecidableEq, Inhabited

abbrev Hs := List Cell
abbrev Sl := List (Option D)
abbrev lim : Nat := 16777216

structure Exn where
  cls : Nat
  fs : List (Str × D)
  deriving Inhabited

inductive R (α : Type) where
  | ok (a : α) (h : Hs)
  | ex (x : Exn) (h : Hs)
  | stuck
  deriving Inhabited

def R.bind {α β : Type} (r : R α) (f : α → Hs → R β) : R β := match r with
  | .ok a h => f a h
  | .ex x h => .ex x h
  | .stuck => .stuck

/-- what an iteration goes over -/
inductive ItK where
  | seq | range1 | range2 | enum | zip | keys | vals | items
  deriving DecidableEq, Inhabited

/-- targets -/
inductive Tg where
  | nm (i : Nat) | nil | cons (a b : Tg) | tup (a : Tg)
  deriving DecidableEq, Inhabited

/-- built-ins by their names -/
inductive Bi where
  | len | int | abs | min | max | sum | all | any | list (c : Bool) | tuple | sorted (c : Bool)
  deriving DecidableEq, Inhabited

/-- methods of built-in types -/
inductive Mt where
  | append | extend | pop | split
  deriving DecidableEq, Inhabited

inductive E where
  | var (i : Nat)
  | kN | kB (b : Bool) | kI (i : Int) | kS (s : Str)
  | glob (x : Str)
  | bin (c : Bool) (op : Operator) (a b : E)
  | neg (a : E)
  | not (a : E) | and (a b : E) | or (a b : E)
  | cmp (op : CmpOp) (a b : E)
  | chain (op op' : CmpOp) (a b c : E)
  | ite (t a b : E)
  | nil | cons (a b : E)
  | tup (a : E) | lst (c : Bool) (a : E)
  | ix (a i : E) | slice (c : Bool) (a lo hi : E)
  | bi (f : Bi) (args : E)
  | isi (t : String) (a : E)
  | call (f : Nat) (args : E)
  | meth (m : Mt) (o args : E)
  | lc (c : Bool) (own : List Nat) (tg : Tg) (k : ItK) (src cond elt : E)
  | kv (k v r : E) | dic (a : E)
  | lc2 (c : Bool) (own own2 : List Nat) (tg : Tg) (k : ItK) (src cond : E) (tg2 : Tg) (k2 : ItK) (src2 cond2 elt : E)
  deriving Inhabited

def isKN : E → Bool
  | .kN => true
  | _ => false

inductive S where
  | nop
  | seq (a b : S)
  | asg (tg : Tg) (e : E)
  | aug (i : Nat) (op : Operator) (e : E)
  | setIx (o i e : E)
  | expr (e : E)
  | ret (e : E) | retN
  | ite (t : E) (a b : S)
  | while (t : E) (b : S)
  | for (tg : Tg) (k : ItK) (src : E) (b : S)
  | brk | cont
  | raise (c : Nat) (args : E)
  | try (b : S) (hc : Nat) (suite : S)
  | raise2 (c : Nat) (fa fb : Str) (args : E)
  | tryR (b : S) (hc : Nat) (i : Nat) (c : Nat) (fa fb : Str)
  deriving Inhabited

/-! ### values -/
def seqOf (h : Hs) : D → Option (List D)
  | .tup xs => some xs
  | .lst xs => some xs
  | .fro xs => some xs
  | .ref m => match h[m]? with
    | some (.lst xs) => some xs
    | _ => none
  | _ => none

def truth (h : Hs) : D → Option Bool
  | .non => some false
  | .bl b => some b
  | .int i => some (i != 0)
  | .str s => if s.length ≤ lim then some (((s.length : Nat) : Int) != 0) else none
  | .tup xs => some (!xs.isEmpty)
  | .lst xs => some (!xs.isEmpty)
  | .fro xs => some (!xs.isEmpty)
  | .ref m => match h[m]? with
    | some (.lst xs) => some (!xs.isEmpty)
    | some (.dic kvs) => some (!kvs.isEmpty)
    | _ => none

def R.ofO {α : Type} (o : Option α) (h : Hs) : R α := match o with
  | some a => .ok a h
  | none => .stuck

/-- a new list: a cell, or frozen -/
def mkL (c : Bool) (xs : List D) (h : Hs) : R D :=
  if xs.length ≤ lim then (if c then .ok (.ref h.length) (h ++ [.lst xs]) else .ok (.lst xs) h) else .stuck

def binI : Operator → Int → Int → Option Int
  | .Add, i, j => some (i + j)
  | .Sub, i, j => some (i - j)
  | .Mult, i, j => if (-(2 ^ 64) < i ∧ i < 2 ^ 64) ∨ (-(2 ^ 64) < j ∧ j < 2 ^ 64) then some (i * j) else none
  | .FloorDiv, i, j => if 0 < j ∧ j.natAbs.log2 < 9000 then some (i / j) else none
  | .Mod, i, j => if 0 < j then some (i % j) else none
  | .Pow, i, j => if 0 ≤ j ∧ j ≤ 1000000 ∧ i.natAbs < 2 ^ 64 then some (i ^ j.toNat) else none
  | .LShift, i, j => if 0 ≤ j ∧ j ≤ 1000000 ∧ i.natAbs < 2 ^ 64 then some (i * 2 ^ j.toNat) else none
  | .RShift, i, j => if 0 ≤ j then some (i / 2 ^ j.toNat) else none
  | .BitAnd, i, j => some (Builtin.bitAnd i j)
  | .BitOr, i, j => some (Builtin.bitOr i j)
  | .BitXor, i, j => some (Builtin.bitXor i j)
  | _, _, _ => none

def isLst (h : Hs) : D → Option (List D)
  | .lst xs => some xs
  | .ref m => match h[m]? with
    | some (.lst xs) => some xs
    | _ => none
  | _ => none

def binD (c : Bool) (op : Operator) (x y : D) (h : Hs) : R D :=
  match op, x, y with
  | op, .int i, .int j => R.ofO ((binI op i j).map .int) h
  | .Add, .str s, .str t => if s.length + t.length ≤ lim then .ok (.str (s ++ t)) h else .stuck
  | .Add, .tup xs, .tup ys => if xs.length + ys.length ≤ lim then .ok (.tup (xs ++ ys)) h else .stuck
  | .Add, x, y => match isLst h x, isLst h y with
    | some xs, some ys => if xs.length + ys.length ≤ lim then mkL c (xs ++ ys) h else .stuck
    | _, _ => .stuck
  | .Mult, .str z, .int k => if 1 < k ∧ 0 < z.length ∧ z.length * k.toNat ≤ lim then .ok (.str ⟨(List.replicate k.toNat z.cps).foldl (· ++ ·) #[]⟩) h else .stuck
  | .Mult, x, .int k => match isLst h x with
    | some xs => if -(2 ^ 63) ≤ k ∧ k < 2 ^ 63 ∧ xs.length * k.toNat ≤ lim then mkL c (List.replicate k.toNat xs).flatten h else .stuck
    | none => .stuck
  | _, _, _ => .stuck

/-- plain data, for == -/
def D.py : D → Option PyData
  | .non => some .none
  | .bl b => some (.bool b)
  | .int i => some (.int i)
  | .str s => some (.str s)
  | .tup xs => (pys xs).map .tuple
  | .lst xs => (pys xs).map .list
  | .fro _ => none
  | .ref _ => none
where
  pys : List D → Option (List PyData)
    | [] => some []
    | x :: xs => match D.py x, pys xs with
      | some d, some ds => some (d :: ds)
      | _, _ => none

/-- a list's cell is looked through, once -/
def flat (h : Hs) : D → D
  | .ref m => match h[m]? with
    | some (.lst xs) => .lst xs
    | _ => .ref m
  | d => d

def eqP (a b : D) : Option Bool := match a.py, b.py with
  | some d, some e => if SeqAt.shaped d = true ∧ SeqAt.shaped e = true then some (PyData.eqv d e) else none
  | _, _ => none

def eqD (h : Hs) : D → D → Option Bool
  | .int i, .int j => some (decide (i = j))
  | .str s, .str t => some (decide (s = t))
  | .bl a, .bl b => some (decide (a = b))
  | .non, .non => some true
  | .int _, .str _ => some false
  | .str _, .int _ => some false
  | .non, .int _ => some false
  | .int _, .non => some false
  | .non, .str _ => some false
  | .str _, .non => some false
  | a, b => eqP (flat h a) (flat h b)

def isFlat : D → Bool
  | .non => true
  | .bl _ => true
  | .int _ => true
  | .str _ => true
  | _ => false
def eqF : D → D → Bool
  | .non, .non => true
  | .bl a, .bl b => a == b
  | .bl a, .int b => (if a then 1 else 0) == b
  | .int a, .bl b => a == (if b then 1 else 0)
  | .int a, .int b => a == b
  | .str a, .str b => a == b
  | _, _ => false

def getK {κ α : Type} [DecidableEq κ] (kvs : List (κ × α)) (k : κ) : Option α := (kvs.find? fun kv => decide (kv.1 = k)).map (·.2)
def putA {κ α : Type} [DecidableEq κ] (kvs : List (κ × α)) (k : κ) (v : α) : List (κ × α) :=
  if (kvs.any fun kv => decide (kv.1 = k)) = true then kvs.map (fun kv => if kv.1 = k then (kv.1, v) else kv) else kvs ++ [(k, v)]
def dropA {κ α : Type} [DecidableEq κ] (kvs : List (κ × α)) (k : κ) : List (κ × α) := kvs.filter fun kv => decide (kv.1 ≠ k)

/-- «in» among data of any depth -/
def inP (h : Hs) (x y : D) : Option Bool := match (flat h x).py, (flat h y).py with
  | some d, some (.tuple ds) => if SeqAt.shaped d = true ∧ SeqAt.shaped (.tuple ds) = true then some (ds.any fun z => PyData.eqv z d) else none
  | some d, some (.list ds) => if SeqAt.shaped d = true ∧ SeqAt.shaped (.list ds) = true then some (ds.any fun z => PyData.eqv z d) else none
  | _, _ => none
def inD (h : Hs) (x y : D) : Option Bool :=
  match y with
  | .str z => match x with
    | .str s => match s.cps.toList with
      | [c] => some (decide (c ∈ z.cps.toList))
      | _ => none
    | _ => none
  | .ref m => match h[m]? with
    | some (.dic kvs) => match x with
      | .int i => some (getK kvs (Sum.inl i)).isSome
      | .str s => some (getK kvs (Sum.inr s)).isSome
      | _ => none
    | some (.lst ys) => if isFlat x && ys.all isFlat then some (ys.any fun y => eqF y x) else inP h x y
    | _ => none
  | .tup ys => if isFlat x && ys.all isFlat then some (ys.any fun y => eqF y x) else inP h x y
  | .lst ys => if isFlat x && ys.all isFlat then some (ys.any fun y => eqF y x) else inP h x y
  | _ => none

def cmpI : CmpOp → Int → Int → Option Bool
  | .Lt, i, j => some (decide (i < j))
  | .LtE, i, j => some (decide (i ≤ j))
  | .Gt, i, j => some (decide (j < i))
  | .GtE, i, j => some (decide (j ≤ i))
  | _, _, _ => none

def isD (x y : D) : Option Bool := match x, y with
  | x, .non => some (decide (x = .non))
  | .bl a, .bl b => some (decide (a = b))
  | _, _ => none

def cmpN (op : CmpOp) (x y : D) : Option Bool := match x, y with
  | .int i, .int j => cmpI op i j
  | _, _ => none
def cmpO (op : CmpOp) (x y : D) (h : Hs) : Option Bool :=
  match op with
  | .Eq => eqD h x y
  | .NotEq => (eqD h x y).map (!·)
  | .Is => isD x y
  | .IsNot => (isD x y).map (!·)
  | .In => inD h x y
  | .NotIn => (inD h x y).map (!·)
  | op => cmpN op x y
def cmpD (op : CmpOp) (x y : D) (h : Hs) : R D := R.ofO ((cmpO op x y h).map .bl) h

def ixD (x y : D) (h : Hs) : R D := match y with
  | .int i => match x with
    | .str z => if z.length ≤ lim then R.ofO ((L2.atI z.cps.toList i).map fun c => .str ⟨#[c]⟩) h else .stuck
    | .tup xs => R.ofO (L2.atI xs i) h
    | .lst xs => R.ofO (L2.atI xs i) h
    | .fro xs => R.ofO (L2.atI xs i) h
    | .ref m => match h[m]? with
      | some (.lst xs) => R.ofO (L2.atI xs i) h
      | some (.dic kvs) => R.ofO (getK kvs (Sum.inl i)) h
      | _ => .stuck
    | _ => .stuck
  | .str s => match x with
    | .ref m => match h[m]? with
      | some (.dic kvs) => R.ofO (getK kvs (Sum.inr s)) h
      | _ => .stuck
    | _ => .stuck
  | _ => .stuck

def cutD {α : Type} (xs : List α) (lo hi : Option Int) : List α := (xs.drop (HT.sIx xs.length 0 lo)).take (HT.sIx xs.length xs.length hi - HT.sIx xs.length 0 lo)
/-- a slice's part: left out, or an int -/
def partD (out : Bool) (d : D) : Option (Option Int) := if out then some none else match d with
  | .int i => some (some i)
  | _ => none
def sliceD (c : Bool) (x : D) (l u : Option Int) (h : Hs) : R D := match x with
  | .str z => if z.length ≤ lim then .ok (.str (Txt.slice z l u)) h else .stuck
  | .tup xs => .ok (.tup (cutD xs l u)) h
  | x => match isLst h x with
    | some xs => mkL c (cutD xs l u) h
    | none => .stuck

def intsOf : List D → Option (List Int)
  | [] => some []
  | .int i :: r => (intsOf r).map (i :: ·)
  | _ :: _ => none
def bls : List D → Option (List Bool)
  | [] => some []
  | .bl b :: r => (bls r).map (b :: ·)
  | _ :: _ => none
def maxI : Int → List Int → Int
  | m, [] => m
  | m, x :: r => maxI (if m < x then x else m) r
def minI : Int → List Int → Int
  | m, [] => m
  | m, x :: r => minI (if x < m then x else m) r

def biLen (xs : List D) (h : Hs) : R D := match xs with
  | [x] => match x with
    | .str s => if s.length ≤ lim then .ok (.int s.length) h else .stuck
    | x => match seqOf h x with
      | some ys => .ok (.int ys.length) h
      | none => match x with
        | .ref m => match h[m]? with
          | some (.dic kvs) => .ok (.int kvs.length) h
          | _ => .stuck
        | _ => .stuck
  | _ => .stuck
def biInt (xs : List D) (h : Hs) : R D := match xs with
  | [.int i] => .ok (.int i) h
  | [.bl b] => .ok (.int (if b then 1 else 0)) h
  | _ => .stuck
def biAbs (xs : List D) (h : Hs) : R D := match xs with
  | [.int i] => .ok (.int (if i < 0 then -i else i)) h
  | _ => .stuck
def biMax (xs : List D) (h : Hs) : R D := match xs with
  | [.int i, .int j] => .ok (.int (if j > i then j else i)) h
  | [x] => match isLst h x with
    | some ys => match intsOf ys with
      | some (i :: is) => .ok (.int (maxI i is)) h
      | _ => .stuck
    | none => .stuck
  | _ => .stuck
def biMin (xs : List D) (h : Hs) : R D := match xs with
  | [.int i, .int j] => .ok (.int (if j < i then j else i)) h
  | [x] => match isLst h x with
    | some ys => match intsOf ys with
      | some (i :: is) => .ok (.int (minI i is)) h
      | _ => .stuck
    | none => .stuck
  | _ => .stuck
def biSum (xs : List D) (h : Hs) : R D := match xs with
  | [x] => match isLst h x with
    | some ys => match intsOf ys with
      | some is => .ok (.int is.sum) h
      | _ => .stuck
    | none => .stuck
  | _ => .stuck
def biAll (xs : List D) (h : Hs) : R D := match xs with
  | [x] => match isLst h x with
    | some ys => match bls ys with
      | some bs => .ok (.bl (bs.all id)) h
      | _ => .stuck
    | none => .stuck
  | _ => .stuck
def biAny (xs : List D) (h : Hs) : R D := match xs with
  | [x] => match isLst h x with
    | some ys => match bls ys with
      | some bs => .ok (.bl (bs.any id)) h
      | _ => .stuck
    | none => .stuck
  | _ => .stuck
def biList (c : Bool) (xs : List D) (h : Hs) : R D := match xs with
  | [x] => match seqOf h x with
    | some ys => mkL c ys h
    | none => .stuck
  | _ => .stuck
def biTuple (xs : List D) (h : Hs) : R D := match xs with
  | [.tup ys] => .ok (.tup ys) h
  | [x] => match isLst h x with
    | some ys => .ok (.tup ys) h
    | none => .stuck
  | _ => .stuck
/-! sorted of texts -/
def insS (x : Str) : List Str → List Str
  | [] => [x]
  | y :: r => if Spec.ltCps x.cps.toList y.cps.toList then x :: y :: r else y :: insS x r
def sortS (l : List Str) : List Str := l.foldr insS []
def strsD : List D → Option (List Str)
  | [] => some []
  | .str s :: r => (strsD r).map (s :: ·)
  | _ :: _ => none
def keysS : List (L2.Key × D) → Option (List Str)
  | [] => some []
  | (.inr s, _) :: r => (keysS r).map (s :: ·)
  | (.inl _, _) :: _ => none
def srtOf (h : Hs) (x : D) : Option (List Str) := match x with
  | .ref m => match h[m]? with
    | some (.dic kvs) => keysS kvs
    | some (.lst ys) => strsD ys
    | _ => none
  | x => (isLst h x).bind strsD
def biSorted (c : Bool) (xs : List D) (h : Hs) : R D := match xs with
  | [x] => match srtOf h x with
    | some ss => if ss.length < 64 then mkL c ((sortS ss).map .str) h else .stuck
    | none => .stuck
  | _ => .stuck
def biD (f : Bi) (xs : List D) (h : Hs) : R D := match f with
  | .len => biLen xs h
  | .int => biInt xs h
  | .abs => biAbs xs h
  | .max => biMax xs h
  | .min => biMin xs h
  | .sum => biSum xs h
  | .all => biAll xs h
  | .any => biAny xs h
  | .list c => biList c xs h
  | .tuple => biTuple xs h
  | .sorted c => biSorted c xs h

/-- the pairs of a dict display -/
def pairsOf : List D → Option (List (L2.Key × D))
  | [] => some []
  | .int k :: v :: r => (pairsOf r).map ((Sum.inl k, v) :: ·)
  | .str k :: v :: r => (pairsOf r).map ((Sum.inr k, v) :: ·)
  | _ => none
def mergeD (kvs : List (L2.Key × D)) : List (L2.Key × D) := kvs.foldl (fun acc kv => putA acc kv.1 kv.2) []
def dispD (xs : List D) (h : Hs) : R D := match pairsOf xs with
  | some kvs => if kvs.length ≤ 15 then .ok (.ref h.length) (h ++ [.dic (mergeD kvs)]) else .stuck
  | none => .stuck
/-- the name of a value's type -/
def tyOf (h : Hs) : D → Option String
  | .non => some "NoneType"
  | .bl _ => some "bool"
  | .int _ => some "int"
  | .str _ => some "str"
  | .tup _ => some "tuple"
  | .lst _ => some "list"
  | .fro _ => none
  | .ref m => match h[m]? with
    | some (.lst _) => some "list"
    | some (.dic _) => some "dict"
    | _ => none

/-- isinstance of built-in types -/
def isiB (t u : String) : Bool := t == u || (t == "bool" && u == "int")
def isiD (t : String) (x : D) (h : Hs) : R D := match tyOf h x with
  | some s => .ok (.bl (isiB s t)) h
  | none => .stuck

def mtAppend (o : D) (args : List D) (h : Hs) : R D := match o, args with
  | .ref m, [x] => match h[m]? with
    | some (.lst xs) => if xs.length < lim then .ok .non (h.set m (.lst (xs ++ [x]))) else .stuck
    | _ => .stuck
  | _, _ => .stuck
def mtExtend (o : D) (args : List D) (h : Hs) : R D := match o, args with
  | .ref m, [x] => match h[m]? with
    | some (.lst xs) => match isLst h x with
      | some ys => if xs.length + ys.length ≤ lim then .ok .non (h.set m (.lst (xs ++ ys))) else .stuck
      | none => .stuck
    | _ => .stuck
  | _, _ => .stuck
def mtPop (o : D) (args : List D) (h : Hs) : R D := match o, args with
  | .ref m, [] => match h[m]? with
    | some (.lst xs) => match xs[xs.length - 1]? with
      | some x => .ok x (h.set m (.lst xs.dropLast))
      | none => .stuck
    | _ => .stuck
  | _, _ => .stuck
def mtSplit (o : D) (args : List D) (h : Hs) : R D := match o, args with
  | .str z, [.str y] => if y.length ≠ 0 ∧ z.length + 2 ≤ lim then mkL false ((Txt.split z y).map .str) h else .stuck
  | _, _ => .stuck
def mtTy : Mt → String
  | .append => "list" | .extend => "list" | .pop => "list" | .split => "str"
def mtD (m : Mt) (o : D) (args : List D) (h : Hs) : R D := match m with
  | .append => mtAppend o args h
  | .extend => mtExtend o args h
  | .pop => mtPop o args h
  | .split => mtSplit o args h

/-! ### iteration -/
def enumD : Nat → List D → List D
  | _, [] => []
  | n, x :: r => .tup [.int (n : Int), x] :: enumD (n + 1) r
def zipD : List D → List D → List D
  | x :: r, y :: q => .tup [x, y] :: zipD r q
  | _, _ => []
def rangeD (lo hi : Int) : List D := (List.range (hi - lo).toNat).map fun (k : Nat) => .int (lo + (k : Int))
def itemsOf (k : ItK) (v : D) (h : Hs) : Option (List D) := match k with
  | .seq => match v with
    | .str z => some (z.cps.toList.map fun c => .str ⟨#[c]⟩)
    | v => seqOf h v
  | .range1 => match v with
    | .tup [.int n] => if -(2 ^ 62) ≤ n ∧ n < 2 ^ 62 then some (rangeD 0 n) else none
    | _ => none
  | .range2 => match v with
    | .tup [.int a, .int b] => if -(2 ^ 62) ≤ a ∧ a < 2 ^ 62 ∧ -(2 ^ 62) ≤ b ∧ b < 2 ^ 62 then some (rangeD a b) else none
    | _ => none
  | .enum => match v with
    | .tup [x] => (isLst h x).map (enumD 0)
    | _ => none
  | .zip => match v with
    | .tup [x, y] => match isLst h x, isLst h y with
      | some xs, some ys => some (zipD xs ys)
      | _, _ => none
    | _ => none
  | _ => none

def setTg : Tg → List D → Sl → Option Sl
  | .nm i, ds, sl => match ds with
    | [d] => some (sl.set i (some d))
    | _ => none
  | .nil, ds, sl => match ds with
    | [] => some sl
    | _ => none
  | .cons a b, ds, sl => match ds with
    | d :: r => match setTg a [d] sl with
      | some sl1 => setTg b r sl1
      | none => none
    | [] => none
  | .tup a, ds, sl => match ds with
    | [.tup xs] => setTg a xs sl
    | [.lst xs] => setTg a xs sl
    | [.fro xs] => setTg a xs sl
    | _ => none

/-- x[y] = v -/
def setIxD (x y v : D) (h : Hs) : Option Hs := match x with
  | .ref m => match h[m]? with
    | some (.lst xs) => match y with
      | .int k => (L2.ixN xs.length k).map fun j => h.set m (.lst (xs.set j v))
      | _ => none
    | some (.dic kvs) => if kvs.length < lim then (match y with
      | .int k => some (h.set m (.dic (putA kvs (Sum.inl k) v)))
      | .str k => some (h.set m (.dic (putA kvs (Sum.inr k) v)))
      | _ => none) else none
    | _ => none
  | _ => none

def wipeD (sl : Sl) : List Nat → Sl
  | [] => sl
  | i :: r => (wipeD sl r).set i none

/-- a comprehension's turns: what is made so far, behind the items left -/
def lcLoop (still : Hs → Bool) (turn : D → Hs → R (Option D)) : List D → List D → Hs → R (List D)
  | [], acc, h => if still h then .ok acc h else .stuck
  | x :: xs, acc, h => if still h then (turn x h).bind fun o h1 => match o with
      | some y => if acc.length < lim then lcLoop still turn xs (acc ++ [y]) h1 else .stuck
      | none => lcLoop still turn xs acc h1
    else .stuck

/-- the outer turns of a comprehension of two clauses -/
def lc2Loop (still : Hs → Bool) (turn : D → List D → Hs → R (List D)) : List D → List D → Hs → R (List D)
  | [], acc, h => if still h then .ok acc h else .stuck
  | x :: xs, acc, h => if still h then (turn x acc h).bind fun acc1 h1 => lc2Loop still turn xs acc1 h1 else .stuck

/-- exceptions do not leave a comprehension here -/
def R.calm {α : Type} : R α → R α
  | .ex _ _ => .stuck
  | r => r

structure Glob where
  const : Str → Option D
  sub : Nat → Nat → Option Bool

section
variable (G : Glob) (Φ : Nat → List D → Hs → R D)

def evE : E → Sl → Hs → R D
  | .var i, sl, h => match sl[i]? with
    | some (some d) => .ok d h
    | _ => .stuck
  | .kN, _, h => .ok .non h
  | .kB b, _, h => .ok (.bl b) h
  | .kI i, _, h => .ok (.int i) h
  | .kS s, _, h => .ok (.str s) h
  | .glob x, _, h => R.ofO (G.const x) h
  | .bin c op a b, sl, h => (evE a sl h).bind fun x h1 => (evE b sl h1).bind fun y h2 => binD c op x y h2
  | .neg a, sl, h => (evE a sl h).bind fun x h1 => match x with
    | .int i => .ok (.int (-i)) h1
    | _ => .stuck
  | .not a, sl, h => (evE a sl h).bind fun x h1 => R.ofO ((truth h1 x).map fun b => .bl (!b)) h1
  | .and a b, sl, h => (evE a sl h).bind fun x h1 => match truth h1 x with
    | some true => evE b sl h1
    | some false => .ok x h1
    | none => .stuck
  | .or a b, sl, h => (evE a sl h).bind fun x h1 => match truth h1 x with
    | some true => .ok x h1
    | some false => evE b sl h1
    | none => .stuck
  | .cmp op a b, sl, h => (evE a sl h).bind fun x h1 => (evE b sl h1).bind fun y h2 => cmpD op x y h2
  | .chain op op' a b c, sl, h => (evE a sl h).bind fun x h1 => (evE b sl h1).bind fun y h2 => match cmpO op x y h2 with
    | some true => (evE c sl h2).bind fun z h3 => cmpD op' y z h3
    | some false => .ok (.bl false) h2
    | none => .stuck
  | .ite t a b, sl, h => (evE t sl h).bind fun x h1 => match truth h1 x with
    | some true => evE a sl h1
    | some false => evE b sl h1
    | none => .stuck
  | .nil, _, h => .ok (.tup []) h
  | .cons a b, sl, h => (evE a sl h).bind fun x h1 => (evE b sl h1).bind fun y h2 => match y with
    | .tup ys => .ok (.tup (x :: ys)) h2
    | _ => .stuck
  | .kv a b c, sl, h => (evE a sl h).bind fun x h1 => (evE b sl h1).bind fun y h2 => (evE c sl h2).bind fun z h3 => match z with
    | .tup zs => .ok (.tup (x :: y :: zs)) h3
    | _ => .stuck
  | .dic a, sl, h => (evE a sl h).bind fun x h1 => match x with
    | .tup xs => dispD xs h1
    | _ => .stuck
  | .tup a, sl, h => (evE a sl h).bind fun x h1 => match x with
    | .tup xs => if xs.length ≤ lim then .ok (.tup xs) h1 else .stuck
    | _ => .stuck
  | .lst c a, sl, h => (evE a sl h).bind fun x h1 => match x with
    | .tup xs => mkL c xs h1
    | _ => .stuck
  | .ix a i, sl, h => (evE a sl h).bind fun x h1 => (evE i sl h1).bind fun y h2 => ixD x y h2
  | .slice c a lo hi, sl, h => (evE a sl h).bind fun x h1 => (evE lo sl h1).bind fun l h2 => match partD (isKN lo) l with
    | some l' => (evE hi sl h2).bind fun u h3 => match partD (isKN hi) u with
      | some u' => sliceD c x l' u' h3
      | none => .stuck
    | none => .stuck
  | .bi f args, sl, h => (evE args sl h).bind fun x h1 => match x with
    | .tup xs => biD f xs h1
    | _ => .stuck
  | .isi t a, sl, h => (evE a sl h).bind fun x h1 => isiD t x h1
  | .call f args, sl, h => (evE args sl h).bind fun x h1 => match x with
    | .tup xs => Φ f xs h1
    | _ => .stuck
  | .meth m o args, sl, h => (evE o sl h).bind fun x h1 => if tyOf h1 x = some (mtTy m) then (evE args sl h1).bind fun y h2 => match y with
      | .tup ys => mtD m x ys h2
      | _ => .stuck
    else .stuck
  | .lc c own tg k src cond elt, sl, h => (evE src sl h).bind fun v h1 => match itemsOf k v h1 with
    | some items => (lcLoop (fun h2 => decide (itemsOf k v h2 = some items)) (fun x h2 => match setTg tg [x] (wipeD sl own) with
        | some sl2 => (evE cond sl2 h2).calm.bind fun t h3 => match truth h3 t with
          | some true => (evE elt sl2 h3).calm.bind fun y h4 => .ok (some y) h4
          | some false => .ok none h3
          | none => .stuck
        | none => .stuck) items [] h1).bind fun ys h5 => mkL c ys h5
    | none => .stuck
  | .lc2 c own own2 tg k src cond tg2 k2 src2 cond2 elt, sl, h => (evE src sl h).bind fun v h1 => match itemsOf k v h1 with
    | some items => (lc2Loop (fun h2 => decide (itemsOf k v h2 = some items)) (fun x acc h2 => match setTg tg [x] (wipeD sl own) with
        | some sl2 => (evE cond sl2 h2).calm.bind fun t h3 => match truth h3 t with
          | some true => (evE src2 sl2 h3).calm.bind fun v2 h4 => match itemsOf k2 v2 h4 with
            | some items2 => lcLoop (fun h5 => decide (itemsOf k2 v2 h5 = some items2)) (fun x h5 => match setTg tg2 [x] (wipeD sl2 own2) with
              | some sl3 => (evE cond2 sl3 h5).calm.bind fun t h6 => match truth h6 t with
                | some true => (evE elt sl3 h6).calm.bind fun y h7 => .ok (some y) h7
                | some false => .ok none h6
                | none => .stuck
              | none => .stuck) items2 acc h4
            | none => .stuck
          | some false => .ok acc h3
          | none => .stuck
        | none => .stuck) items [] h1).bind fun ys h5 => mkL c ys h5
    | none => .stuck

/-- how a statement ends -/
inductive Out where
  | nx (sl : Sl) | rt (d : D) | bk (sl : Sl) | ct (sl : Sl)
  deriving Inhabited
inductive SR where
  | ok (o : Out) (h : Hs)
  | ex (x : Exn) (sl : Sl) (h : Hs)
  | stuck
  deriving Inhabited

def R.st {α : Type} (r : R α) (sl : Sl) (f : α → Hs → SR) : SR := match r with
  | .ok a h => f a h
  | .ex x h => .ex x sl h
  | .stuck => .stuck

def SR.calm : SR → SR
  | .ex _ _ _ => .stuck
  | r => r
/-- the turns that a while may take -/
abbrev wf : Nat := 1073741824

def whileD (test : Sl → Hs → R D) (body : Sl → Hs → SR) : Nat → Sl → Hs → SR
  | 0, _, _ => .stuck
  | n + 1, sl, h => (test sl h).st sl fun t h1 => match truth h1 t with
    | some true => match body sl h1 with
      | .ok (.nx sl2) h2 => whileD test body n sl2 h2
      | .ok (.ct sl2) h2 => whileD test body n sl2 h2
      | .ok (.bk sl2) h2 => .ok (.nx sl2) h2
      | r => r
    | some false => .ok (.nx sl) h1
    | none => .stuck

/-- the end of raise C(u, v) -/
def raiseV (c : Nat) (fa fb : Str) (v : D) (sl : Sl) (h : Hs) : SR := match v with
  | .tup [a, b] => .ex ⟨c, [(fb, b), (fa, a)]⟩ sl h
  | _ => .stuck
/-- what is done with an exception: return [e.fa, e.fb] if isinstance(e, C) else .. -/
def tryV (o : Option Bool) (x : Exn) (i c : Nat) (fa fb : Str) (sl : Sl) (h : Hs) : SR := match o with
  | some false => .ex x sl h
  | some true => if x.cls = c ∧ i < sl.length then (match x.fs.lookup fa, x.fs.lookup fb with
    | some u, some v => .ok (.rt (.lst [u, v])) h
    | _, _ => .stuck) else .stuck
  | none => .stuck
def forD (still : Hs → Bool) (bindT : D → Sl → Option Sl) (body : Sl → Hs → SR) : List D → Sl → Hs → SR
  | [], sl, h => if still h then .ok (.nx sl) h else .stuck
  | x :: xs, sl, h => if still h then (match bindT x sl with
      | some sl1 => match body sl1 h with
        | .ok (.nx sl2) h2 => forD still bindT body xs sl2 h2
        | .ok (.ct sl2) h2 => forD still bindT body xs sl2 h2
        | .ok (.bk sl2) h2 => .ok (.nx sl2) h2
        | r => r
      | none => .stuck)
    else .stuck

def evS : S → Sl → Hs → SR
  | .nop, sl, h => .ok (.nx sl) h
  | .seq a b, sl, h => match evS a sl h with
    | .ok (.nx sl1) h1 => evS b sl1 h1
    | r => r
  | .asg tg e, sl, h => (evE G Φ e sl h).st sl fun d h1 => match setTg tg [d] sl with
    | some sl1 => .ok (.nx sl1) h1
    | none => .stuck
  | .aug i op e, sl, h => match sl[i]? with
    | some (some x) => (evE G Φ e sl h).st sl fun y h1 => match x, y with
      | .int a, .int b => match binI op a b with
        | some z => .ok (.nx (sl.set i (some (.int z)))) h1
        | none => .stuck
      | .str a, .str b => if op = .Add ∧ a.length + b.length ≤ lim then .ok (.nx (sl.set i (some (.str (a ++ b))))) h1 else .stuck
      | _, _ => .stuck
    | _ => .stuck
  | .setIx o i e, sl, h => (evE G Φ e sl h).st sl fun v h1 => (evE G Φ o sl h1).st sl fun x h2 => (evE G Φ i sl h2).st sl fun y h3 => match setIxD x y v h3 with
    | some h4 => .ok (.nx sl) h4
    | none => .stuck
  | .expr e, sl, h => (evE G Φ e sl h).st sl fun _ h1 => .ok (.nx sl) h1
  | .ret e, sl, h => (evE G Φ e sl h).st sl fun d h1 => .ok (.rt d) h1
  | .retN, _, h => .ok (.rt .non) h
  | .ite t a b, sl, h => (evE G Φ t sl h).st sl fun x h1 => match truth h1 x with
    | some true => evS a sl h1
    | some false => evS b sl h1
    | none => .stuck
  | .while t b, sl, h => whileD (evE G Φ t) (evS b) wf sl h
  | .for tg k src b, sl, h => (evE G Φ src sl h).st sl fun v h1 => match itemsOf k v h1 with
    | some items => forD (fun h2 => decide (itemsOf k v h2 = some items)) (fun x sl1 => setTg tg [x] sl1) (evS b) items sl h1
    | none => .stuck
  | .brk, sl, h => .ok (.bk sl) h
  | .cont, sl, h => .ok (.ct sl) h
  | .raise c args, sl, h => (evE G Φ args sl h).st sl fun v h1 => match v with
    | .tup [.str _] => .ex ⟨c, []⟩ sl h1
    | _ => .stuck
  | .try b hc su, sl, h => match evS b sl h with
    | .ex x sl1 h1 => match G.sub x.cls hc with
      | some true => (evS su sl1 h1).calm
      | some false => .ex x sl1 h1
      | none => .stuck
    | r => r
  | .raise2 c fa fb args, sl, h => (evE G Φ args sl h).st sl fun v h1 => raiseV c fa fb v sl h1
  | .tryR b hc i c fa fb, sl, h => match evS b sl h with
    | .ex x sl1 h1 => tryV (G.sub x.cls hc) x i c fa fb sl1 h1
    | r => r
end

/-! ### defs -/
structure Fn where
  names : List Str
  arity : Nat
  body : S
  pure : Bool

def startD (fn : Fn) (args : List D) : Sl := args.map some ++ List.replicate (fn.names.length - args.length) none

/-- a result free of new cells: new lists are frozen -/
def freeze (n : Nat) (h : Hs) : Nat → D → Option D
  | _, .ref m => if m < n then some (.ref m) else none
  | _, d => some d

/-- does a value speak of cells below n alone -/
def D.lo (n : Nat) : D → Bool
  | .ref m => decide (m < n)
  | .tup xs => los xs
  | .lst xs => los xs
  | .fro xs => los xs
  | _ => true
where
  los : List D → Bool
    | [] => true
    | x :: xs => D.lo n x && los xs

/-- the end of a call: of a pure def what was there before stands, and its own cells are gone; a new list that is handed back is frozen -/
def fin (p : Bool) (h0 : Hs) (r : SR) : R D := match r with
  | .ok (.nx _) h => if p then (if h.take h0.length = h0 then .ok .non h0 else .stuck) else .ok .non h
  | .ok (.rt d) h => if p then (if h.take h0.length = h0 then (if d.lo h0.length then .ok d h0 else if (flat h d).lo h0.length then .ok (flat h d) h0 else .stuck) else .stuck) else .ok d h
  | .ex x _ h => if p then (if h.take h0.length = h0 ∧ (x.fs.all fun kv => kv.2.lo h0.length) = true then .ex x h0 else .stuck) else .ex x h
  | _ => .stuck

def Phi (G : Glob) (T : Nat → Option Fn) : Nat → Nat → List D → Hs → R D
  | 0, _, _, _ => .stuck
  | k + 1, f, args, h => match T f with
    | some fn => if args.length = fn.arity then fin fn.pure h (evS G (Phi G T k) fn.body (startD fn args) h) else .stuck
    | none => .stuck
end DI

/-! DI, part B: how values and cells stand for what the hand layer tracks. -/
namespace DI
open PySem PySem.Spec PyProof.Rows L2

/-- where the cells lie; what is hidden (tracked, changing, but no cell yet) -/
structure Rho where
  f : Nat → Addr
  Z : Addr → Prop
instance : CoeFun Rho (fun _ => Nat → Addr) := ⟨Rho.f⟩

/-- a list that the top has made -/
def SqK (K : PySem.W.Frag) (a : Addr) (vs : List V) : Prop := ∃ (o : Obj) (its : Array Value) (n : Nat), K.lookup a = some o ∧ o.cls = .type "list" ∧ o.dict = none ∧ o.data = .seq its n ∧ its.size ≤ sizeLine ∧ Vals vs its.toList
mutual
inductive Rel (K : PySem.W.Frag) (ρ : Rho) (n : Nat) (H : Hp) : D → V → Prop
  | non : Rel K ρ n H .non .non
  | bl (b : Bool) : Rel K ρ n H (.bl b) (.bl b)
  | int (i : Int) : Rel K ρ n H (.int i) (.int i)
  | str (s : Str) : Rel K ρ n H (.str s) (.str s)
  | ref {m : Nat} : m < n → Rel K ρ n H (.ref m) (.ref (ρ m))
  | tup {a : Addr} {vs : List V} {xs : List D} : SqT K H a vs → Rels K ρ n H xs vs → Rel K ρ n H (.tup xs) (.ref a)
  | lst {a : Addr} {vs : List V} {xs : List D} : H a = some (.lst vs) → (∀ m, m < n → ρ m ≠ a) ∧ ¬ ρ.Z a → Rels K ρ n H xs vs → Rel K ρ n H (.lst xs) (.ref a)
  | fro {a : Addr} {vs : List V} {xs : List D} : (∃ o, H a = some (.frz o (.lst vs))) → (∀ m, m < n → ρ m ≠ a) ∧ ¬ ρ.Z a → Rels K ρ n H xs vs → Rel K ρ n H (.fro xs) (.ref a)
  | frk {a : Addr} {vs : List V} {xs : List D} : SqK K a vs → Rels K ρ n H xs vs → Rel K ρ n H (.fro xs) (.ref a)
inductive Rels (K : PySem.W.Frag) (ρ : Rho) (n : Nat) (H : Hp) : List D → List V → Prop
  | nil : Rels K ρ n H [] []
  | cons {d : D} {v : V} {ds : List D} {vs : List V} : Rel K ρ n H d v → Rels K ρ n H ds vs → Rels K ρ n H (d :: ds) (v :: vs)
end

/-- pairs of keys and values -/
inductive Rkv (K : PySem.W.Frag) (ρ : Rho) (n : Nat) (H : Hp) {κ : Type} : List (κ × D) → List (κ × V) → Prop
  | nil : Rkv K ρ n H [] []
  | cons {k : κ} {d : D} {v : V} {ds : List (κ × D)} {vs : List (κ × V)} : Rel K ρ n H d v → Rkv K ρ n H ds vs → Rkv K ρ n H ((k, d) :: ds) ((k, v) :: vs)

def CRel (K : PySem.W.Frag) (ca : Nat → Addr) (ρ : Rho) (n : Nat) (H : Hp) (a : Addr) : Cell → Prop
  | .lst xs => ∃ vs, H a = some (.lst vs) ∧ Rels K ρ n H xs vs
  | .dic kvs => ∃ kv', H a = some (.dK kv') ∧ Rkv K ρ n H kvs kv'
  | .ins c fs => ∃ dx fs', H a = some (.ins (ca c) dx fs') ∧ Rkv K ρ n H fs fs'

structure HR (K : PySem.W.Frag) (ca : Nat → Addr) (ρ : Rho) (H : Hp) (h : Hs) : Prop where
  inj : ∀ i j, i < h.length → j < h.length → ρ i = ρ j → i = j
  cell : ∀ i c, h[i]? = some c → CRel K ca ρ h.length H (ρ i) c
  zt : ∀ z, ρ.Z z → (∃ ws, H z = some (.lst ws)) ∧ ∀ m, m < h.length → ρ m ≠ z

structure Ext (ρ : Rho) (n : Nat) (H : Hp) (ρ' : Rho) (n' : Nat) (H' : Hp) : Prop where
  le : n ≤ n'
  agree : ∀ m, m < n → ρ' m = ρ m
  fresh : ∀ m, n ≤ m → m < n' → H (ρ' m) = none
  keep : ∀ a o, H a = some o → (∀ m, m < n → ρ m ≠ a) → H' a = some o
  z1 : ∀ a, ρ.Z a → ρ'.Z a
  z2 : ∀ a, ρ'.Z a → ρ.Z a ∨ H a = none

section
variable {K : PySem.W.Frag} {ca : Nat → Addr} {ρ ρ1 ρ2 : Rho} {n n1 n2 : Nat} {H H1 H2 : Hp} {h h1 h2 : Hs}

theorem HR.there (r : HR K ca ρ H h) {i : Nat} (hi : i < h.length) : ∃ o, H (ρ i) = some o ∧ (∀ xs, o ≠ .tup xs) ∧ (∀ ob u, o ≠ .frz ob u) := by
  have q := r.cell i h[i] (List.getElem?_eq_getElem hi)
  cases e : h[i] with
  | lst xs => rw [e] at q; obtain ⟨vs, e1, _⟩ := q; exact ⟨_, e1, fun _ => HO.noConfusion, fun _ _ => HO.noConfusion⟩
  | dic kvs => rw [e] at q; obtain ⟨vs, e1, _⟩ := q; exact ⟨_, e1, fun _ => HO.noConfusion, fun _ _ => HO.noConfusion⟩
  | ins c fs => rw [e] at q; obtain ⟨dx, vs, e1, _⟩ := q; exact ⟨_, e1, fun _ => HO.noConfusion, fun _ _ => HO.noConfusion⟩

theorem HR.neTup (r : HR K ca ρ H h) {a : Addr} {xs : List V} (e : Rd H a (.tup xs)) : ∀ m, m < h.length → ρ m ≠ a := fun m hm z => by
  obtain ⟨o, e1, n1, n2⟩ := r.there hm
  rw [z] at e1
  rcases e with e | ⟨ob, e⟩
  · rw [e] at e1; cases e1; exact n1 _ rfl
  · rw [e] at e1; cases e1; exact n2 _ _ rfl

theorem Ext.refl : Ext ρ n H ρ n H := ⟨Nat.le_refl _, fun _ _ => rfl, fun m h1 h2 => absurd h2 (Nat.not_lt.mpr h1), fun _ _ e _ => e, fun _ h => h, fun _ h => .inl h⟩

theorem Ext.out (e : Ext ρ n H ρ1 n1 H1) {a : Addr} {o : HO} (ha : H a = some o) (hn : ∀ m, m < n → ρ m ≠ a) : ∀ m, m < n1 → ρ1 m ≠ a := fun m hm z => by
  by_cases h1 : m < n
  · exact hn m h1 ((e.agree m h1).symm.trans z)
  · have q := e.fresh m (Nat.not_lt.mp h1) hm
    rw [z, ha] at q
    cases q

theorem Ext.outZ (e : Ext ρ n H ρ1 n1 H1) {a : Addr} {o : HO} (ha : H a = some o) (hn : ¬ ρ.Z a) : ¬ ρ1.Z a := fun z => by
  rcases e.z2 a z with q | q
  · exact hn q
  · rw [ha] at q; cases q

theorem Ext.trans (e1 : Ext ρ n H ρ1 n1 H1) (r : HR K ca ρ1 H1 h1) (hn : n1 = h1.length) (e2 : Ext ρ1 n1 H1 ρ2 n2 H2) : Ext ρ n H ρ2 n2 H2 where
  le := Nat.le_trans e1.le e2.le
  agree := fun m hm => (e2.agree m (Nat.lt_of_lt_of_le hm e1.le)).trans (e1.agree m hm)
  fresh := fun m h1' h2' => by
    by_cases hm : m < n1
    · rw [e2.agree m hm]; exact e1.fresh m h1' hm
    · have q := e2.fresh m (Nat.not_lt.mp hm) h2'
      cases z : H (ρ2 m) with
      | none => rfl
      | some o =>
        by_cases hk : ∃ k, k < n ∧ ρ k = ρ2 m
        · obtain ⟨k, k1, k2⟩ := hk
          have k3 : k < h1.length := hn ▸ Nat.lt_of_lt_of_le k1 e1.le
          obtain ⟨o', q', _⟩ := r.there k3
          rw [e1.agree k k1, k2, q] at q'
          cases q'
        · have := e1.keep _ _ z fun m' hm' z' => hk ⟨m', hm', z'⟩
          rw [q] at this
          cases this
  keep := fun a o ha hn' => e2.keep a o (e1.keep a o ha hn') (e1.out ha hn')
  z1 := fun a h => e2.z1 a (e1.z1 a h)
  z2 := fun a h => by
    rcases e2.z2 a h with q | q
    · exact e1.z2 a q
    · refine .inr ?_
      cases z : H a with
      | none => rfl
      | some o =>
        by_cases hk : ∃ k, k < n ∧ ρ k = a
        · obtain ⟨k, k1, k2⟩ := hk
          obtain ⟨o', q', _⟩ := r.there (hn ▸ Nat.lt_of_lt_of_le k1 e1.le)
          rw [e1.agree k k1, k2, q] at q'
          cases q'
        · have := e1.keep _ _ z fun m' hm' z' => hk ⟨m', hm', z'⟩
          rw [q] at this
          cases this

theorem Ext.rd (e : Ext ρ n H ρ1 n1 H1) {a : Addr} {u : HO} (r : Rd H a u) (hn : ∀ m, m < n → ρ m ≠ a) : Rd H1 a u ∧ ∀ m, m < n1 → ρ1 m ≠ a := by
  rcases r with r | ⟨o, r⟩
  · exact ⟨.inl (e.keep _ _ r hn), e.out r hn⟩
  · exact ⟨.inr ⟨o, e.keep _ _ r hn⟩, e.out r hn⟩

theorem Ext.sqT (e : Ext ρ h.length H ρ1 n1 H1) (r : HR K ca ρ H h) {a : Addr} {vs : List V} (q : SqT K H a vs) : SqT K H1 a vs := by
  rcases q with q | q
  · exact .inl (e.rd q (r.neTup q)).1
  · exact .inr q

mutual
theorem Rel.mono (e : Ext ρ h.length H ρ1 n1 H1) (r : HR K ca ρ H h) : ∀ {d : D} {v : V}, Rel K ρ h.length H d v → Rel K ρ1 n1 H1 d v
  | _, _, .non => .non
  | _, _, .bl b => .bl b
  | _, _, .int i => .int i
  | _, _, .str s => .str s
  | _, _, .ref (m := m) hm => by
    rw [← e.agree m hm]
    exact .ref (Nat.lt_of_lt_of_le hm e.le)
  | _, _, .tup q rs => .tup (e.sqT r q) (Rels.mono e r rs)
  | _, _, .lst q hn rs => .lst (e.keep _ _ q hn.1) ⟨e.out q hn.1, e.outZ q hn.2⟩ (Rels.mono e r rs)
  | _, _, .fro ⟨o, q⟩ hn rs => .fro ⟨o, e.keep _ _ q hn.1⟩ ⟨e.out q hn.1, e.outZ q hn.2⟩ (Rels.mono e r rs)
  | _, _, .frk q rs => .frk q (Rels.mono e r rs)
theorem Rels.mono (e : Ext ρ h.length H ρ1 n1 H1) (r : HR K ca ρ H h) : ∀ {ds : List D} {vs : List V}, Rels K ρ h.length H ds vs → Rels K ρ1 n1 H1 ds vs
  | _, _, .nil => .nil
  | _, _, .cons q rs => .cons (Rel.mono e r q) (Rels.mono e r rs)
end

/-- the same, but what is hidden may change -/
structure ExtW (ρ : Rho) (n : Nat) (H : Hp) (ρ' : Rho) (n' : Nat) (H' : Hp) : Prop where
  le : n ≤ n'
  agree : ∀ m, m < n → ρ' m = ρ m
  fresh : ∀ m, n ≤ m → m < n' → H (ρ' m) = none
  keep : ∀ a o, H a = some o → (∀ m, m < n → ρ m ≠ a) → ¬ ρ.Z a → H' a = some o
  z1 : ∀ a, ρ.Z a → ρ'.Z a
  z2 : ∀ a, ρ'.Z a → ρ.Z a ∨ H a = none
theorem Ext.toW (e : Ext ρ n H ρ1 n1 H1) : ExtW ρ n H ρ1 n1 H1 := ⟨e.le, e.agree, e.fresh, fun a o ha hn _ => e.keep a o ha hn, e.z1, e.z2⟩
theorem ExtW.out (e : ExtW ρ n H ρ1 n1 H1) {a : Addr} {o : HO} (ha : H a = some o) (hn : ∀ m, m < n → ρ m ≠ a) : ∀ m, m < n1 → ρ1 m ≠ a := fun m hm z => by
  by_cases h1 : m < n
  · exact hn m h1 ((e.agree m h1).symm.trans z)
  · have q := e.fresh m (Nat.not_lt.mp h1) hm
    rw [z, ha] at q
    cases q
theorem ExtW.outZ (e : ExtW ρ n H ρ1 n1 H1) {a : Addr} {o : HO} (ha : H a = some o) (hn : ¬ ρ.Z a) : ¬ ρ1.Z a := fun z => by
  rcases e.z2 a z with q | q
  · exact hn q
  · rw [ha] at q; cases q
theorem HR.notZ (r : HR K ca ρ H h) {a : Addr} {xs : List V} (e : Rd H a (.tup xs)) : ¬ ρ.Z a := fun z => by
  obtain ⟨⟨ws, q⟩, _⟩ := r.zt a z
  rcases e with e | ⟨o, e⟩ <;> (rw [q] at e; cases e)
theorem ExtW.sqT (e : ExtW ρ h.length H ρ1 n1 H1) (r : HR K ca ρ H h) {a : Addr} {vs : List V} (q : SqT K H a vs) : SqT K H1 a vs := by
  rcases q with q | q
  · have n1 := r.neTup q
    have n2 := r.notZ q
    rcases q with q | ⟨o, q⟩
    · exact .inl (.inl (e.keep _ _ q n1 n2))
    · exact .inl (.inr ⟨o, e.keep _ _ q n1 n2⟩)
  · exact .inr q
mutual
theorem Rel.monoW (e : ExtW ρ h.length H ρ1 n1 H1) (r : HR K ca ρ H h) : ∀ {d : D} {v : V}, Rel K ρ h.length H d v → Rel K ρ1 n1 H1 d v
  | _, _, .non => .non
  | _, _, .bl b => .bl b
  | _, _, .int i => .int i
  | _, _, .str s => .str s
  | _, _, .ref (m := m) hm => by
    rw [← e.agree m hm]
    exact .ref (Nat.lt_of_lt_of_le hm e.le)
  | _, _, .tup q rs => .tup (e.sqT r q) (Rels.monoW e r rs)
  | _, _, .lst q hn rs => .lst (e.keep _ _ q hn.1 hn.2) ⟨e.out q hn.1, e.outZ q hn.2⟩ (Rels.monoW e r rs)
  | _, _, .fro ⟨o, q⟩ hn rs => .fro ⟨o, e.keep _ _ q hn.1 hn.2⟩ ⟨e.out q hn.1, e.outZ q hn.2⟩ (Rels.monoW e r rs)
  | _, _, .frk q rs => .frk q (Rels.monoW e r rs)
theorem Rels.monoW (e : ExtW ρ h.length H ρ1 n1 H1) (r : HR K ca ρ H h) : ∀ {ds : List D} {vs : List V}, Rels K ρ h.length H ds vs → Rels K ρ1 n1 H1 ds vs
  | _, _, .nil => .nil
  | _, _, .cons q rs => .cons (Rel.monoW e r q) (Rels.monoW e r rs)
end

theorem Rels.length : ∀ {ds : List D} {vs : List V}, Rels K ρ n H ds vs → vs.length = ds.length
  | _, _, .nil => rfl
  | _, _, .cons _ rs => congrArg (· + 1) (Rels.length rs)
theorem Rels.append : ∀ {ds es : List D} {vs ws : List V}, Rels K ρ n H ds vs → Rels K ρ n H es ws → Rels K ρ n H (ds ++ es) (vs ++ ws)
  | _, _, _, _, .nil, s => s
  | _, _, _, _, .cons q rs, s => .cons q (Rels.append rs s)
theorem Rels.get : ∀ {ds : List D} {vs : List V} {i : Nat} {d : D}, Rels K ρ n H ds vs → ds[i]? = some d → ∃ v, vs[i]? = some v ∧ Rel K ρ n H d v
  | _, _, _, _, .nil, e => by simp at e
  | _, _, 0, _, .cons q rs, e => by simp at e; subst e; exact ⟨_, rfl, q⟩
  | _, _, i + 1, d, .cons q rs, e => by
    obtain ⟨v, h1, h2⟩ := Rels.get (i := i) (d := d) rs (by simpa using e)
    exact ⟨v, by simpa using h1, h2⟩
theorem Rels.set {d : D} {v : V} (q : Rel K ρ n H d v) : ∀ {ds : List D} {vs : List V} (i : Nat), Rels K ρ n H ds vs → Rels K ρ n H (ds.set i d) (vs.set i v)
  | _, _, _, .nil => .nil
  | _, _, 0, .cons _ rs => .cons q rs
  | _, _, i + 1, .cons p rs => .cons p (Rels.set q i rs)
theorem Rels.take : ∀ {ds : List D} {vs : List V} (k : Nat), Rels K ρ n H ds vs → Rels K ρ n H (ds.take k) (vs.take k)
  | _, _, 0, _ => .nil
  | _, _, _ + 1, .nil => .nil
  | _, _, k + 1, .cons q rs => .cons q (Rels.take k rs)
theorem Rels.drop : ∀ {ds : List D} {vs : List V} (k : Nat), Rels K ρ n H ds vs → Rels K ρ n H (ds.drop k) (vs.drop k)
  | _, _, 0, r => r
  | _, _, _ + 1, .nil => .nil
  | _, _, k + 1, .cons _ rs => Rels.drop k rs
theorem Rels.dropLast {ds : List D} {vs : List V} (r : Rels K ρ n H ds vs) : Rels K ρ n H ds.dropLast vs.dropLast := by
  rw [List.dropLast_eq_take, List.dropLast_eq_take, r.length]
  exact r.take _
theorem Rels.rep {ds : List D} {vs : List V} (r : Rels K ρ n H ds vs) : ∀ k : Nat, Rels K ρ n H (List.replicate k ds).flatten (List.replicate k vs).flatten
  | 0 => .nil
  | k + 1 => by
    rw [List.replicate_succ, List.replicate_succ, List.flatten_cons, List.flatten_cons]
    exact r.append (Rels.rep r k)
theorem Rels.isEmpty {ds : List D} {vs : List V} (r : Rels K ρ n H ds vs) : vs.isEmpty = ds.isEmpty := by cases r <;> rfl

theorem Rkv.mono (e : Ext ρ h.length H ρ1 n1 H1) (r : HR K ca ρ H h) {κ : Type} : ∀ {ds : List (κ × D)} {vs : List (κ × V)}, Rkv K ρ h.length H ds vs → Rkv K ρ1 n1 H1 ds vs
  | _, _, .nil => .nil
  | _, _, .cons q rs => .cons (q.mono e r) (Rkv.mono e r rs)
theorem CRel.mono (e : Ext ρ h.length H ρ1 n1 H1) (r : HR K ca ρ H h) {a : Addr} {c : Cell} (q : CRel K ca ρ h.length H a c) (hk : ∀ o, H a = some o → H1 a = some o) : CRel K ca ρ1 n1 H1 a c := by
  cases c with
  | lst xs => obtain ⟨vs, e1, q⟩ := q; exact ⟨vs, hk _ e1, q.mono e r⟩
  | dic kvs => obtain ⟨vs, e1, q⟩ := q; exact ⟨vs, hk _ e1, q.mono e r⟩
  | ins c fs => obtain ⟨dx, vs, e1, q⟩ := q; exact ⟨dx, vs, hk _ e1, q.mono e r⟩

/-- an object that never changes, and is no cell, is new -/
theorem HR.new (r : HR K ca ρ H h) {p : Addr} (hp : H p = none) (o : HO) : HR K ca ρ (upd H p o) h ∧ Ext ρ h.length H ρ h.length (upd H p o) := by
  have e : Ext ρ h.length H ρ h.length (upd H p o) := ⟨Nat.le_refl _, fun _ _ => rfl, fun m h1 h2 => absurd h2 (Nat.not_lt.mpr h1), fun a o' ha _ => by
    rw [upd_ne (ne_of_none ha hp)]; exact ha, fun _ h => h, fun _ h => .inl h⟩
  exact ⟨⟨r.inj, fun i c hc => (r.cell i c hc).mono e r fun o' ha => by rw [upd_ne (ne_of_none ha hp)]; exact ha, fun z hz => ⟨let ⟨o', q⟩ := (r.zt z hz).1; ⟨o', by rw [upd_ne (ne_of_none q hp)]; exact q⟩, (r.zt z hz).2⟩⟩, e⟩
theorem HR.newZ (r : HR K ca ρ H h) {p : Addr} (hp : H p = none) : ¬ ρ.Z p := fun hz => by
  obtain ⟨⟨o, q⟩, _⟩ := r.zt p hz
  rw [hp] at q
  cases q
theorem HR.newNe (r : HR K ca ρ H h) {p : Addr} (hp : H p = none) : ∀ m, m < h.length → ρ m ≠ p := fun m hm z => by
  obtain ⟨o, e, _⟩ := r.there hm
  rw [z, hp] at e
  cases e

def ext1 (ρ : Rho) (k : Nat) (p : Addr) : Rho := ⟨fun m => if m = k then p else ρ m, ρ.Z⟩
theorem ext1_same {k : Nat} {p : Addr} : ext1 ρ k p k = p := if_pos rfl
theorem ext1_ne {k m : Nat} {p : Addr} (hm : m ≠ k) : ext1 ρ k p m = ρ m := if_neg hm

/-- a tracked object becomes a cell: it was laid behind H, at a place that H did not know -/
theorem HR.cellNew (r : HR K ca ρ H h) {p : Addr} (hp : H p = none) (c : Cell) (o : HO)
    (hc : ∀ ρ' n', Ext ρ h.length H ρ' n' (upd H p o) → CRel K ca ρ' n' (upd H p o) p c) :
    HR K ca (ext1 ρ h.length p) (upd H p o) (h ++ [c]) ∧ Ext ρ h.length H (ext1 ρ h.length p) (h ++ [c]).length (upd H p o) := by
  have e : Ext ρ h.length H (ext1 ρ h.length p) (h ++ [c]).length (upd H p o) := by
    refine ⟨by simp, fun m hm => ext1_ne (Nat.ne_of_lt hm), fun m h1 h2 => ?_, fun a o' ha _ => by rw [upd_ne (ne_of_none ha hp)]; exact ha, fun _ h => h, fun _ h => .inl h⟩
    have : m = h.length := by simp at h2; omega
    rw [this, ext1_same]; exact hp
  refine ⟨⟨fun i j hi hj z => ?_, fun i c' hi => ?_, fun z hz => ?_⟩, e⟩
  rotate_left 2
  · obtain ⟨⟨o', q⟩, q2⟩ := r.zt z hz
    refine ⟨⟨o', by rw [upd_ne (ne_of_none q hp)]; exact q⟩, fun m hm => ?_⟩
    simp at hm
    by_cases h1 : m = h.length
    · rw [h1, ext1_same]; exact (ne_of_none q hp).symm
    · rw [ext1_ne h1]; exact q2 m (by omega)
  · simp at hi hj
    by_cases h1 : i = h.length
    · by_cases h2 : j = h.length
      · omega
      · rw [h1, ext1_same, ext1_ne h2] at z
        exact absurd z.symm (r.newNe hp j (by omega))
    · by_cases h2 : j = h.length
      · rw [h2, ext1_same, ext1_ne h1] at z
        exact absurd z (r.newNe hp i (by omega))
      · rw [ext1_ne h1, ext1_ne h2] at z
        exact r.inj i j (by omega) (by omega) z
  · by_cases h1 : i < h.length
    · rw [List.getElem?_append_left h1] at hi
      rw [ext1_ne (Nat.ne_of_lt h1)]
      exact (r.cell i c' hi).mono e r fun o' ha => by rw [upd_ne (ne_of_none ha hp)]; exact ha
    · have h2 : i = h.length := by
        have := (List.getElem?_eq_some_iff.mp hi).1
        simp at this; omega
      subst h2
      simp at hi
      subst hi
      rw [ext1_same]
      exact hc _ _ e

/-- a cell is written -/
theorem HR.write (r : HR K ca ρ H h) {m : Nat} (hm : m < h.length) (c : Cell) (o : HO)
    (hnt : ∀ xs, o ≠ .tup xs)
    (hc : Ext ρ h.length H ρ h.length (upd H (ρ m) o) → CRel K ca ρ h.length (upd H (ρ m) o) (ρ m) c) :
    HR K ca ρ (upd H (ρ m) o) (h.set m c) ∧ Ext ρ h.length H ρ (h.set m c).length (upd H (ρ m) o) := by
  have e : Ext ρ h.length H ρ h.length (upd H (ρ m) o) := ⟨Nat.le_refl _, fun _ _ => rfl, fun k h1 h2 => absurd h2 (Nat.not_lt.mpr h1), fun a o' ha hn => by
    rw [upd_ne (fun z => hn m hm z.symm)]; exact ha, fun _ h => h, fun _ h => .inl h⟩
  have hl : (h.set m c).length = h.length := List.length_set
  refine ⟨⟨fun i j hi hj z => r.inj i j (hl ▸ hi) (hl ▸ hj) z, fun i c' hi => ?_, fun z hz => ?_⟩, hl.symm ▸ e⟩
  rotate_left
  · obtain ⟨⟨o', q⟩, q2⟩ := r.zt z hz
    rw [hl]
    exact ⟨⟨o', by rw [upd_ne (fun w => q2 m hm w.symm)]; exact q⟩, q2⟩
  rw [hl]
  by_cases h1 : i = m
  · subst h1
    rw [List.getElem?_set_self hm] at hi
    cases hi
    exact hc e
  · rw [List.getElem?_set_ne (fun z => h1 z.symm)] at hi
    have h2 : i < h.length := (List.getElem?_eq_some_iff.mp hi).1
    exact (r.cell i c' hi).mono e r fun o' ha => by rw [upd_ne (fun z => h1 (r.inj i m h2 hm z))]; exact ha

/-! the cells of a call are gone -/
mutual
theorem Rel.cut {d : D} {v : V} (q : Rel K ρ n H d v) {k : Nat} (hk : k ≤ n) (hd : d.lo k = true) : Rel K ρ k H d v := by
  cases q with
  | non => exact .non
  | bl b => exact .bl b
  | int i => exact .int i
  | str s => exact .str s
  | ref hm => exact .ref (of_decide_eq_true hd)
  | tup q rs => exact .tup q (Rels.cut rs hk hd)
  | lst q hn rs => exact .lst q ⟨fun m hm => hn.1 m (Nat.lt_of_lt_of_le hm hk), hn.2⟩ (Rels.cut rs hk hd)
  | fro q hn rs => exact .fro q ⟨fun m hm => hn.1 m (Nat.lt_of_lt_of_le hm hk), hn.2⟩ (Rels.cut rs hk hd)
  | frk q rs => exact .frk q (Rels.cut rs hk hd)
theorem Rels.cut {ds : List D} {vs : List V} (q : Rels K ρ n H ds vs) {k : Nat} (hk : k ≤ n) (hd : D.lo.los k ds = true) : Rels K ρ k H ds vs := by
  cases q with
  | nil => exact .nil
  | cons q rs =>
    have hd' := Bool.and_eq_true_iff.mp hd
    exact .cons (Rel.cut q hk hd'.1) (Rels.cut rs hk hd'.2)
end
mutual
theorem Rel.los {d : D} {v : V} (q : Rel K ρ n H d v) : d.lo n = true := by
  cases q with
  | non => rfl
  | bl b => rfl
  | int i => rfl
  | str s => rfl
  | ref hm => exact decide_eq_true hm
  | tup q rs => exact Rels.los rs
  | lst q hn rs => exact Rels.los rs
  | fro q hn rs => exact Rels.los rs
  | frk q rs => exact Rels.los rs
theorem Rels.los {ds : List D} {vs : List V} (q : Rels K ρ n H ds vs) : D.lo.los n ds = true := by
  cases q with
  | nil => rfl
  | cons q rs => exact Bool.and_eq_true_iff.mpr ⟨Rel.los q, Rels.los rs⟩
end
theorem Rkv.cut {κ : Type} {ρ0 : Rho} {H0 : Hp} : ∀ {ds : List (κ × D)} {ws vs : List (κ × V)}, Rkv K ρ0 n H0 ds ws → Rkv K ρ n1 H ds vs → n ≤ n1 → Rkv K ρ n H ds vs
  | _, _, _, .nil, .nil, _ => .nil
  | _, _, _, .cons q0 r0, .cons q r, hk => .cons (q.cut hk q0.los) (Rkv.cut r0 r hk)
theorem CRel.cut {a : Addr} {c : Cell} {ρ0 : Rho} {H0 : Hp} (q0 : CRel K ca ρ0 n H0 a c) {a1 : Addr} (q : CRel K ca ρ n1 H a1 c) (hk : n ≤ n1) : CRel K ca ρ n H a1 c := by
  cases c with
  | lst xs => obtain ⟨vs, e1, q⟩ := q; obtain ⟨_, _, q0⟩ := q0; exact ⟨vs, e1, q.cut hk q0.los⟩
  | dic kvs => obtain ⟨vs, e1, q⟩ := q; obtain ⟨_, _, q0⟩ := q0; exact ⟨vs, e1, q0.cut q hk⟩
  | ins c fs => obtain ⟨dx, vs, e1, q⟩ := q; obtain ⟨_, _, _, q0⟩ := q0; exact ⟨dx, vs, e1, q0.cut q hk⟩
theorem HR.cut (r0 : HR K ca ρ H h) (r : HR K ca ρ1 H1 h1) (e : Ext ρ h.length H ρ1 h1.length H1) (ht : h1.take h.length = h) : HR K ca ρ1 H1 h ∧ Ext ρ h.length H ρ1 h.length H1 := by
  have hl : h.length ≤ h1.length := e.le
  refine ⟨⟨fun i j hi hj z => r.inj i j (Nat.lt_of_lt_of_le hi hl) (Nat.lt_of_lt_of_le hj hl) z, fun i c hc => ?_, fun z hz => ⟨(r.zt z hz).1, fun m hm => (r.zt z hz).2 m (Nat.lt_of_lt_of_le hm hl)⟩⟩, ⟨Nat.le_refl _, e.agree, fun m h1 h2 => absurd h2 (Nat.not_lt.mpr h1), e.keep, e.z1, e.z2⟩⟩
  have hi : i < h.length := (List.getElem?_eq_some_iff.mp hc).1
  have hc1 : h1[i]? = some c := by
    rw [← ht, List.getElem?_take, if_pos hi] at hc
    exact hc
  exact (r0.cell i c hc).cut (r.cell i c hc1) hl
end

/-- slots -/
def SlR (K : PySem.W.Frag) (ρ : Rho) (n : Nat) (H : Hp) (sl : Sl) (σ : L2.St) : Prop :=
  sl.length = σ.length ∧ ∀ (i : Nat) (d : D), sl[i]? = some (some d) → ∃ v, σ[i]? = some (some v) ∧ Rel K ρ n H d v
section
variable {K : PySem.W.Frag} {ca : Nat → Addr} {ρ ρ1 ρ2 : Rho} {n n1 n2 : Nat} {H H1 H2 : Hp} {h h1 h2 : Hs} {sl : Sl} {σ : L2.St}
theorem SlR.mono (s : SlR K ρ h.length H sl σ) (e : Ext ρ h.length H ρ1 n1 H1) (r : HR K ca ρ H h) : SlR K ρ1 n1 H1 sl σ :=
  ⟨s.1, fun i d hd => let ⟨v, e1, q⟩ := s.2 i d hd; ⟨v, e1, q.mono e r⟩⟩
theorem SlR.set (s : SlR K ρ n H sl σ) {d : D} {v : V} (q : Rel K ρ n H d v) (i : Nat) : SlR K ρ n H (sl.set i (some d)) (σ.set i (some v)) := by
  refine ⟨by rw [List.length_set, List.length_set]; exact s.1, fun j e he => ?_⟩
  by_cases h1 : i = j
  · subst h1
    by_cases h2 : i < sl.length
    · rw [List.getElem?_set_self h2] at he
      cases he
      exact ⟨v, List.getElem?_set_self (s.1 ▸ h2), q⟩
    · rw [List.getElem?_eq_none (by simp; omega)] at he
      cases he
  · rw [List.getElem?_set_ne h1] at he
    rw [List.getElem?_set_ne h1]
    exact s.2 j e he
theorem SlR.wipe1 (s : SlR K ρ n H sl σ) (i : Nat) : SlR K ρ n H (sl.set i none) (σ.set i none) := by
  refine ⟨by rw [List.length_set, List.length_set]; exact s.1, fun j e he => ?_⟩
  by_cases h1 : i = j
  · subst h1
    by_cases h2 : i < sl.length
    · rw [List.getElem?_set_self h2] at he
      cases he
    · rw [List.getElem?_eq_none (by simp; omega)] at he
      cases he
  · rw [List.getElem?_set_ne h1] at he
    rw [List.getElem?_set_ne h1]
    exact s.2 j e he
end

/-- what an exception is -/
def XRel (K : PySem.W.Frag) (ca : Nat → Addr) (ρ : Rho) (n : Nat) (H : Hp) (x : Exn) (cls : Value) (dd : Option Addr) : Prop :=
  cls = .ref (ca x.cls) ∧ ((x.fs = [] ∧ dd = none) ∨ ∃ a fs', dd = some a ∧ H a = some (.xd fs') ∧ (∀ m, m < n → ρ m ≠ a) ∧ Rkv K ρ n H x.fs fs')

/-- what must hold behind -/
def Post (K : PySem.W.Frag) (ca : Nat → Addr) (ρ : Rho) (n : Nat) (H : Hp) (r : R D) (Q : VK) (E : XK) : Prop := match r with
  | .ok d h' => ∀ ρ' H' v, HR K ca ρ' H' h' → Ext ρ n H ρ' h'.length H' → Rel K ρ' h'.length H' d v → Q v H'
  | .ex x h' => ∀ ρ' H' cls dd, HR K ca ρ' H' h' → Ext ρ n H ρ' h'.length H' → XRel K ca ρ' h'.length H' x cls dd → E cls dd H'
  | .stuck => False

section
variable {K : PySem.W.Frag} {ca : Nat → Addr} {ρ ρ1 ρ2 : Rho} {n n1 n2 : Nat} {H H1 H2 : Hp} {h h1 h2 : Hs} {sl : Sl} {σ : L2.St} {Q : VK} {E : XK}
theorem Post.mono {r : R D} (p : Post K ca ρ n H r Q E) (e : Ext ρ n H ρ1 h1.length H1) (hr : HR K ca ρ1 H1 h1) : Post K ca ρ1 h1.length H1 r Q E := by
  cases r with
  | ok d h' => exact fun ρ' H' v r' e' q => p ρ' H' v r' (e.trans hr rfl e') q
  | ex x h' => exact fun ρ' H' c d r' e' q => p ρ' H' c d r' (e.trans hr rfl e') q
  | stuck => exact p
theorem Post.now {d : D} {v : V} (p : Post K ca ρ h.length H (.ok d h) Q E) (r : HR K ca ρ H h) (q : Rel K ρ h.length H d v) : Q v H := p ρ H v r Ext.refl q
theorem Post.noE {r : R D} {E' : XK} (p : Post K ca ρ n H r Q E) (hr : ∀ x h', r ≠ .ex x h') : Post K ca ρ n H r Q E' := by
  cases r with
  | ok d h' => exact p
  | ex x h' => exact absurd rfl (hr x h')
  | stuck => exact p
/-- a new tuple is handed out -/
theorem Post.newTup {xs : List D} {vs : List V} (p : Post K ca ρ h.length H (.ok (.tup xs) h) Q E) (r : HR K ca ρ H h) (q : Rels K ρ h.length H xs vs) : ∀ a, H a = none → Q (.ref a) (upd H a (.tup vs)) := fun a ha => by
  obtain ⟨r', e⟩ := r.new ha (.tup vs)
  exact p ρ _ _ r' e (.tup (.inl (.inl upd_same)) (q.mono e r))
/-- a new list is handed out, as a cell or frozen -/
theorem Post.newLst {c : Bool} {xs : List D} {vs : List V} (p : Post K ca ρ h.length H (mkL c xs h) Q E) (r : HR K ca ρ H h) (q : Rels K ρ h.length H xs vs) : ∀ a, H a = none → Q (.ref a) (upd H a (.lst vs)) := fun a ha => by
  unfold mkL at p
  split at p
  · cases c with
    | true =>
      obtain ⟨r', e⟩ := r.cellNew ha (.lst xs) (.lst vs) fun ρ' n' e => ⟨vs, upd_same, q.mono e r⟩
      have z := p _ _ (.ref a) r' e (by
        have : (V.ref a) = V.ref (ext1 ρ h.length a h.length) := by rw [ext1_same]
        rw [this]
        exact .ref (by simp))
      exact z
    | false =>
      obtain ⟨r', e⟩ := r.new ha (.lst vs)
      exact p ρ _ _ r' e (.lst upd_same ⟨r.newNe ha, r.newZ ha⟩ (q.mono e r))
  · exact p.elim
end
end DI

/-! DI, part C: operations on values keep to their readings. -/
namespace DI
open PySem PySem.Spec PyProof.Rows L2

section
variable {K : PySem.W.Frag} {ca : Nat → Addr} {ρ : Rho} {n : Nat} {H : Hp} {h : Hs} {d e : D} {v w : V} {xs ys : List D}
theorem Rel.cellLst (r : HR K ca ρ H h) {m : Nat} (e : h[m]? = some (.lst xs)) : ∃ vs, H (ρ m) = some (.lst vs) ∧ Rels K ρ h.length H xs vs := r.cell m _ e
theorem Rel.isLst (q : Rel K ρ h.length H d v) (r : HR K ca ρ H h) (e : isLst h d = some xs) : ∃ a vs, v = .ref a ∧ H a = some (.lst vs) ∧ Rels K ρ h.length H xs vs := by
  cases q with
  | lst q hn rs => cases e; exact ⟨_, _, rfl, q, rs⟩
  | ref hm =>
    simp only [DI.isLst] at e
    split at e
    · cases e
      rename_i z
      obtain ⟨vs, h1, h2⟩ := Rel.cellLst r z
      exact ⟨_, vs, rfl, h1, h2⟩
    · cases e
  | non => cases e
  | bl _ => cases e
  | int _ => cases e
  | str _ => cases e
  | tup _ _ => cases e
  | fro _ _ _ => cases e
  | frk _ _ => cases e
theorem Rel.seq (q : Rel K ρ h.length H d v) (r : HR K ca ρ H h) (e : seqOf h d = some xs) : ∃ a vs, v = .ref a ∧ (SqL K H a vs ∨ SqT K H a vs) ∧ Rels K ρ h.length H xs vs := by
  cases q with
  | tup q rs => cases e; exact ⟨_, _, rfl, .inr q, rs⟩
  | lst q hn rs => cases e; exact ⟨_, _, rfl, .inl (SqL.of q), rs⟩
  | fro q hn rs => cases e; exact ⟨_, _, rfl, .inl (.inl (.inr q)), rs⟩
  | frk q rs => cases e; exact ⟨_, _, rfl, .inl (.inr q), rs⟩
  | ref hm =>
    simp only [DI.seqOf] at e
    split at e
    · cases e
      rename_i z
      obtain ⟨vs, h1, h2⟩ := Rel.cellLst r z
      exact ⟨_, vs, rfl, .inl (SqL.of h1), h2⟩
    · cases e
  | non => cases e
  | bl _ => cases e
  | int _ => cases e
  | str _ => cases e
theorem Rel.isInt {i : Int} (q : Rel K ρ n H (.int i) v) : v = .int i := by cases q; rfl
theorem Rel.isStr {s : Str} (q : Rel K ρ n H (.str s) v) : v = .str s := by cases q; rfl
theorem Rel.isBl {b : Bool} (q : Rel K ρ n H (.bl b) v) : v = .bl b := by cases q; rfl
theorem Rel.isNon (q : Rel K ρ n H .non v) : v = .non := by cases q; rfl
theorem Rel.isTup (q : Rel K ρ n H (.tup xs) v) : ∃ a vs, v = .ref a ∧ SqT K H a vs ∧ Rels K ρ n H xs vs := by cases q with | tup q rs => exact ⟨_, _, rfl, q, rs⟩
end

theorem lim_eq : lim = sizeLine := rfl

section
variable {X : Cx} {ca : Nat → Addr}
/-- an operation of two values, by what binD says -/
def rBin (K : PySem.W.Frag) (ca : Nat → Addr) (f : D → D → Hs → R D) : R2 := fun x y H Q => ∃ ρ h d e E, HR K ca ρ H h ∧ Rel K ρ h.length H d x ∧ Rel K ρ h.length H e y ∧ Post K ca ρ h.length H (f d e h) Q E

theorem Post.ofO {K : PySem.W.Frag} {ρ : Rho} {H : Hp} {h : Hs} {o : Option D} {Q : VK} {E : XK} (p : Post K ca ρ h.length H (R.ofO o h) Q E) : ∃ d, o = some d ∧ Post K ca ρ h.length H (.ok d h) Q E := by
  cases o with
  | none => exact p.elim
  | some d => exact ⟨d, rfl, p⟩
theorem map_int {o : Option Int} {d : D} (e : o.map .int = some d) : ∃ i, o = some i ∧ d = .int i := by
  cases o with
  | none => cases e
  | some i => cases e; exact ⟨i, rfl, rfl⟩

theorem op_int (op : Operator) (i j k : Int) (e : binI op i j = some k) : OpR X (binaryOp op) (fun x y H Q => x = .int i ∧ y = .int j ∧ Q (.int k) H) := by
  intro pins s σ H x y v u Q I rx ry ⟨hx, hy, q⟩
  cases op <;> try (cases e; done)
  · cases e; exact op_add pins s σ H x y v u Q I rx ry ⟨i, j, hx, hy, q⟩
  · cases e; exact op_sub pins s σ H x y v u Q I rx ry ⟨i, j, hx, hy, q⟩
  · simp only [binI] at e
    split at e
    · rename_i z
      cases e; exact op_mul pins s σ H x y v u Q I rx ry ⟨i, j, hx, hy, z, q⟩
    · cases e
  · simp only [binI] at e
    split at e
    · rename_i z
      cases e; exact op_mod pins s σ H x y v u Q I rx ry ⟨i, j, hx, hy, z, q⟩
    · cases e
  · simp only [binI] at e
    split at e
    · rename_i z
      cases e; exact op_pow pins s σ H x y v u Q I rx ry ⟨i, j, hx, hy, z, q⟩
    · cases e
  · simp only [binI] at e
    split at e
    · rename_i z
      cases e; exact op_shl pins s σ H x y v u Q I rx ry ⟨i, j, hx, hy, z, q⟩
    · cases e
  · simp only [binI] at e
    split at e
    · rename_i z
      cases e; exact op_shr pins s σ H x y v u Q I rx ry ⟨i, j, hx, hy, z, q⟩
    · cases e
  · cases e; exact op_or pins s σ H x y v u Q I rx ry ⟨i, j, hx, hy, q⟩
  · cases e; exact op_xor pins s σ H x y v u Q I rx ry ⟨i, j, hx, hy, q⟩
  · cases e; exact op_and pins s σ H x y v u Q I rx ry ⟨i, j, hx, hy, q⟩
  · simp only [binI] at e
    split at e
    · rename_i z
      cases e; exact op_fdivW pins s σ H x y v u Q I rx ry ⟨i, j, hx, hy, z, q⟩
    · cases e

theorem op_mulStr : OpR X (binaryOp .Mult) (fun x y H Q => ∃ (z : Str) (k : Int), x = .str z ∧ y = .int k ∧ 1 < k ∧ 0 < z.length ∧ z.length * k.toNat ≤ 16777216 ∧ Q (.str ⟨(List.replicate k.toNat z.cps).foldl (· ++ ·) #[]⟩) H) := by
  intro pins s σ H x y v u Q I rx ry h
  obtain ⟨z, k, rfl, rfl, h1, h2, h3, q⟩ := h
  obtain ⟨t, rfl⟩ := rx
  obtain ⟨t', rfl⟩ := ry
  have hk : (k.toNat : Int) = k := Int.toNat_of_nonneg (by omega)
  have hz1 : 1 ≤ z.length := h2
  have hkz : k.toNat ≤ 16777216 := Nat.le_trans (by have := Nat.mul_le_mul_right k.toNat hz1; rw [Nat.one_mul] at this; exact this) h3
  have nl : ¬ k < 1 := by omega
  have ne : (k == 1 || z.length == 0) = false := by
    have a1 : (k == 1) = false := by simp; omega
    have a2 : (z.length == 0) = false := by simp; omega
    rw [a1, a2]; rfl
  refine PySem.P.mul_str ?_ (fun _ _ => ?_) (fun _ _ => ?_) ?_
  · have a1 : ¬ k < -(2 ^ 63 : Int) := by omega
    have a2 : ¬ k ≥ 2 ^ 63 := by omega
    rw [decide_eq_false a1, decide_eq_false a2]; rfl
  · have hd : (z.length : Int) ≤ (2 ^ 63 - 1) / k := (Int.le_ediv_iff_mul_le (by omega)).mpr (by
      have : (z.length : Int) * k = ((z.length * k.toNat : Nat) : Int) := by rw [Int.natCast_mul, hk]
      rw [this]; omega)
    omega
  · unfold Builtin.Str.tooLong
    rw [decide_eq_false_iff_not, sizeLine_eq]; omega
  · rw [if_neg nl, if_neg (by rw [ne]; decide)]
    have hl : (⟨(List.replicate k.toNat z.cps).foldl (· ++ ·) #[]⟩ : Str).length ≤ sizeLine := by
      have : ∀ (n : Nat) (a : Array Nat), ((List.replicate n z.cps).foldl (· ++ ·) a).size = a.size + z.length * n := fun n => by
        induction n with
        | zero => intro a; simp
        | succ n ih => intro a; rw [List.replicate_succ, List.foldl_cons, ih, Array.size_append, Nat.mul_succ]; show _ + z.cps.size + _ = _; show _ = a.size + (z.cps.size * n + z.cps.size); show a.size + z.cps.size + z.cps.size * n = _; omega
      show ((List.replicate k.toNat z.cps).foldl (· ++ ·) #[]).size ≤ _
      rw [this, sizeLine_eq]; simp; exact h3
    exact ⟨hl, ⟨.str _, H, I.tok _, ⟨_, rfl⟩, q⟩⟩
theorem op_binD (c : Bool) (op : Operator) : OpR X (binaryOp op) (rBin X.K ca (binD c op)) := by
  intro pins s σ H x y v u Q I rx ry ⟨ρ, h, d, e, E, r, qd, qe, p⟩
  unfold binD at p
  split at p
  · -- ints
    obtain ⟨z, hz, p⟩ := p.ofO
    obtain ⟨k, hk, rfl⟩ := map_int hz
    exact op_int _ _ _ k hk pins s σ H x y v u Q I rx ry ⟨qd.isInt, qe.isInt, p.now r (.int k)⟩
  · split at p
    · rename_i hl
      exact op_add_str pins s σ H x y v u Q I rx ry ⟨_, _, qd.isStr, qe.isStr, hl, p.now r (.str _)⟩
    · exact p.elim
  · split at p
    · rename_i hl
      obtain ⟨a, vs, rfl, s1, r1⟩ := qd.isTup
      obtain ⟨b, ws, rfl, s2, r2⟩ := qe.isTup
      refine op_catA pins s σ H _ _ v u Q I rx ry ⟨a, b, vs, ws, rfl, rfl, s1, s2, by rw [r1.length, r2.length]; exact hl, fun z => ?_, fun _ z => ?_, fun _ _ => p.newTup r (r1.append r2)⟩
      · subst z
        cases r1
        exact p.now r (.tup s2 r2)
      · subst z
        cases r2
        rw [List.append_nil] at p
        exact p.now r (.tup s1 r1)
    · exact p.elim
  · split at p
    · rename_i xs ys e1 e2
      split at p
      · rename_i hl
        obtain ⟨a, vs, rfl, s1, r1⟩ := qd.isLst r e1
        obtain ⟨b, ws, rfl, s2, r2⟩ := qe.isLst r e2
        exact op_cat pins s σ H _ _ v u Q I rx ry ⟨a, b, vs, ws, rfl, rfl, s1, s2, by rw [r1.length, r2.length]; exact hl, p.newLst r (r1.append r2)⟩
      · exact p.elim
    · exact p.elim
  · split at p
    · rename_i hl
      exact op_mulStr pins s σ H x y v u Q I rx ry ⟨_, _, qd.isStr, qe.isInt, hl.1, hl.2.1, hl.2.2, p.now r (.str _)⟩
    · exact p.elim
  · split at p
    · rename_i xs e1
      split at p
      · rename_i hl
        obtain ⟨a, vs, rfl, s1, r1⟩ := qd.isLst r e1
        refine op_rep pins s σ H _ _ v u Q I rx ry ⟨a, _, vs, rfl, qe.isInt, s1, hl.1, hl.2.1, by rw [r1.length]; exact hl.2.2, ?_⟩
        exact p.newLst r (r1.rep _)
      · exact p.elim
    · exact p.elim
  · exact p.elim

/-! ### dicts' pairs -/
theorem Rkv.get {K : PySem.W.Frag} {ρ : Rho} {n : Nat} {H : Hp} {κ : Type} [DecidableEq κ] {k : κ} : ∀ {ds : List (κ × D)} {vs : List (κ × V)}, Rkv K ρ n H ds vs →
    (getK ds k = none ∧ valV vs k = none) ∨ ∃ d v, getK ds k = some d ∧ valV vs k = some v ∧ Rel K ρ n H d v
  | _, _, .nil => .inl ⟨rfl, rfl⟩
  | _, _, .cons (k := k') (d := d) (v := v) (ds := ds) (vs := vs) q rs => by
    by_cases e : k' = k
    · refine .inr ⟨d, v, ?_, valV_pos e, q⟩
      simp [getK, List.find?_cons, e]
    · have h1 : getK ((k', d) :: ds) k = getK ds k := by simp [getK, List.find?_cons, e]
      have h2 : valV ((k', v) :: vs) k = valV vs k := valV_neg e
      rw [h1, h2]
      exact Rkv.get rs
theorem Rkv.get_some {K : PySem.W.Frag} {ρ : Rho} {n : Nat} {H : Hp} {κ : Type} [DecidableEq κ] {k : κ} {ds : List (κ × D)} {vs : List (κ × V)} (r : Rkv K ρ n H ds vs) : (getK ds k).isSome = (valV vs k).isSome := by
  rcases r.get (k := k) with ⟨e1, e2⟩ | ⟨_, _, e1, e2, _⟩ <;> rw [e1, e2] <;> rfl
theorem Rkv.length {K : PySem.W.Frag} {ρ : Rho} {n : Nat} {H : Hp} {κ : Type} : ∀ {ds : List (κ × D)} {vs : List (κ × V)}, Rkv K ρ n H ds vs → vs.length = ds.length
  | _, _, .nil => rfl
  | _, _, .cons _ rs => congrArg (· + 1) (Rkv.length rs)
theorem Rkv.any {K : PySem.W.Frag} {ρ : Rho} {n : Nat} {H : Hp} {κ : Type} [DecidableEq κ] {k : κ} : ∀ {ds : List (κ × D)} {vs : List (κ × V)}, Rkv K ρ n H ds vs →
    (vs.any fun kv => decide (kv.1 = k)) = (ds.any fun kv => decide (kv.1 = k))
  | _, _, .nil => rfl
  | _, _, .cons _ rs => by simp only [List.any_cons, Rkv.any rs]
theorem Rkv.put1 {K : PySem.W.Frag} {ρ : Rho} {n : Nat} {H : Hp} {κ : Type} [DecidableEq κ] {k : κ} {d : D} {v : V} (q : Rel K ρ n H d v) : ∀ {ds : List (κ × D)} {vs : List (κ × V)}, Rkv K ρ n H ds vs →
    Rkv K ρ n H (ds.map fun kv => if kv.1 = k then (kv.1, d) else kv) (vs.map fun kv => if kv.1 = k then (kv.1, v) else kv)
  | _, _, .nil => .nil
  | _, _, .cons (k := k') q' rs => by
    simp only [List.map_cons]
    by_cases e : k' = k
    · rw [if_pos e, if_pos e]; exact .cons q (Rkv.put1 q rs)
    · rw [if_neg e, if_neg e]; exact .cons q' (Rkv.put1 q rs)
theorem Rkv.append {K : PySem.W.Frag} {ρ : Rho} {n : Nat} {H : Hp} {κ : Type} : ∀ {ds es : List (κ × D)} {vs ws : List (κ × V)}, Rkv K ρ n H ds vs → Rkv K ρ n H es ws → Rkv K ρ n H (ds ++ es) (vs ++ ws)
  | _, _, _, _, .nil, s => s
  | _, _, _, _, .cons q rs, s => .cons q (Rkv.append rs s)
theorem Rkv.put {K : PySem.W.Frag} {ρ : Rho} {n : Nat} {H : Hp} {κ : Type} [DecidableEq κ] {k : κ} {d : D} {v : V} (q : Rel K ρ n H d v) {ds : List (κ × D)} {vs : List (κ × V)} (r : Rkv K ρ n H ds vs) :
    Rkv K ρ n H (putA ds k d) (putK vs k v) := by
  unfold putA putK
  rw [r.any]
  split
  · exact r.put1 q
  · exact r.append (.cons q .nil)

/-! ### plain data -/
section
variable {K : PySem.W.Frag} {ρ : Rho} {n : Nat} {H : Hp}
mutual
theorem Rel.dp : ∀ {d : D} {v : V} {p : PyData}, Rel K ρ n H d v → d.py = some p → Dp K H v p
  | .non, _, p, .non, e => by cases e; exact .non
  | .bl b, _, p, .bl _, e => by cases e; exact .bl b
  | .int i, _, p, .int _, e => by cases e; exact .int i
  | .str s, _, p, .str _, e => by cases e; exact .str s
  | .tup xs, _, p, .tup q rs, e => by
    simp only [D.py] at e
    cases e1 : D.py.pys xs with
    | none => rw [e1] at e; cases e
    | some ps => rw [e1] at e; cases e; exact .tup q (Rels.dp rs e1)
  | .lst xs, _, p, .lst q hn rs, e => by
    simp only [D.py] at e
    cases e1 : D.py.pys xs with
    | none => rw [e1] at e; cases e
    | some ps => rw [e1] at e; cases e; exact .lst (SqL.of q) (Rels.dp rs e1)
  | .fro xs, _, p, _, e => by cases e
  | .ref m, _, p, _, e => by cases e
theorem Rels.dp : ∀ {ds : List D} {vs : List V} {ps : List PyData}, Rels K ρ n H ds vs → D.py.pys ds = some ps → DpAll K H vs ps
  | [], _, ps, .nil, e => by cases e; exact .nil
  | d :: ds, _, ps, .cons q rs, e => by
    simp only [D.py.pys] at e
    cases e1 : d.py with
    | none => rw [e1] at e; cases e
    | some p =>
      cases e2 : D.py.pys ds with
      | none => rw [e1, e2] at e; cases e
      | some qs => rw [e1, e2] at e; cases e; exact .cons (Rel.dp q e1) (Rels.dp rs e2)
end
end
theorem Rel.flatDp {K : PySem.W.Frag} {ρ : Rho} {H : Hp} {h : Hs} {d : D} {v : V} {p : PyData} (q : Rel K ρ h.length H d v) (r : HR K ca ρ H h) (e : (flat h d).py = some p) : Dp K H v p := by
  cases d with
  | ref m =>
    simp only [flat] at e
    split at e
    · rename_i xs z
      obtain ⟨vs, h1, h2⟩ := Rel.cellLst r z
      cases q with
      | ref hm =>
        simp only [D.py] at e
        cases e1 : D.py.pys xs with
        | none => rw [e1] at e; cases e
        | some ps => rw [e1] at e; cases e; exact .lst (SqL.of h1) (Rels.dp h2 e1)
    · cases e
  | _ => exact q.dp e

/-! ### comparisons -/
def rCmp (K : PySem.W.Frag) (ca : Nat → Addr) (op : CmpOp) : R2 := fun x y H Q => ∃ ρ h d e k, HR K ca ρ H h ∧ Rel K ρ h.length H d x ∧ Rel K ρ h.length H e y ∧ cmpO op d e h = some k ∧ Q (.bl k) H

theorem eqP_some {a b : D} {k : Bool} (e : eqP a b = some k) : ∃ p q, a.py = some p ∧ b.py = some q ∧ SeqAt.shaped p = true ∧ SeqAt.shaped q = true ∧ k = PyData.eqv p q := by
  unfold eqP at e
  split at e
  · rename_i p q e1 e2
    split at e
    · rename_i z
      cases e
      exact ⟨p, q, e1, e2, z.1, z.2, rfl⟩
    · cases e
  · cases e
/-- equality, both ways by one look -/
theorem eq_cases {K : PySem.W.Frag} {ρ : Rho} {H : Hp} {h : Hs} {d e : D} {x y : V} {k : Bool} (r : HR K ca ρ H h) (qd : Rel K ρ h.length H d x) (qe : Rel K ρ h.length H e y) (hk : eqD h d e = some k) :
    (scal x y = true ∧ k = decide (x = y)) ∨ ∃ p q, Dp K H x p ∧ Dp K H y q ∧ SeqAt.shaped p = true ∧ SeqAt.shaped q = true ∧ k = PyData.eqv p q := by
  unfold eqD at hk
  split at hk
  · rw [qd.isInt, qe.isInt]; cases hk; exact .inl ⟨rfl, by simp⟩
  · rw [qd.isStr, qe.isStr]; cases hk; exact .inl ⟨rfl, by simp⟩
  · rw [qd.isBl, qe.isBl]; cases hk; exact .inl ⟨rfl, by simp⟩
  · rw [qd.isNon, qe.isNon]; cases hk; exact .inl ⟨rfl, by simp⟩
  · rw [qd.isInt, qe.isStr]; cases hk; exact .inl ⟨rfl, by simp⟩
  · rw [qd.isStr, qe.isInt]; cases hk; exact .inl ⟨rfl, by simp⟩
  · rw [qd.isNon, qe.isInt]; cases hk; exact .inl ⟨rfl, by simp⟩
  · rw [qd.isInt, qe.isNon]; cases hk; exact .inl ⟨rfl, by simp⟩
  · rw [qd.isNon, qe.isStr]; cases hk; exact .inl ⟨rfl, by simp⟩
  · rw [qd.isStr, qe.isNon]; cases hk; exact .inl ⟨rfl, by simp⟩
  · obtain ⟨p, q, e1, e2, z1, z2, rfl⟩ := eqP_some hk
    exact .inr ⟨p, q, qd.flatDp r e1, qe.flatDp r e2, z1, z2, rfl⟩

theorem Rel.non_iff {K : PySem.W.Frag} {ρ : Rho} {n : Nat} {H : Hp} {d : D} {x : V} (q : Rel K ρ n H d x) : decide (d = .non) = decide (x = .non) := by
  cases q <;> simp

theorem isD_some {K : PySem.W.Frag} {ρ : Rho} {n : Nat} {H : Hp} {d e : D} {x y : V} {k : Bool} (qd : Rel K ρ n H d x) (qe : Rel K ρ n H e y) (hk : isD d e = some k) :
    (y = .non ∧ k = decide (x = .non)) ∨ ∃ a b, x = .bl a ∧ y = .bl b ∧ k = decide (a = b) := by
  unfold isD at hk
  split at hk
  · cases hk; exact .inl ⟨qe.isNon, qd.non_iff⟩
  · cases hk; exact .inr ⟨_, _, qd.isBl, qe.isBl, rfl⟩
  · cases hk

theorem Rel.isFlat {K : PySem.W.Frag} {ρ : Rho} {n : Nat} {H : Hp} {d : D} {x : V} (q : Rel K ρ n H d x) (hf : isFlat d = true) : flatV x = true := by
  cases q <;> first | rfl | cases hf
theorem Rels.allFlat {K : PySem.W.Frag} {ρ : Rho} {n : Nat} {H : Hp} : ∀ {ds : List D} {xs : List V}, Rels K ρ n H ds xs → ds.all isFlat = true → xs.all flatV = true
  | _, _, .nil, _ => rfl
  | _, _, .cons q rs, hf => by
    simp only [List.all_cons, Bool.and_eq_true] at hf ⊢
    exact ⟨q.isFlat hf.1, Rels.allFlat rs hf.2⟩
theorem eqF_V {K : PySem.W.Frag} {ρ : Rho} {n : Nat} {H : Hp} {d e : D} {x y : V} (qd : Rel K ρ n H d x) (qe : Rel K ρ n H e y) (hd : isFlat d = true) (he : isFlat e = true) : eqV x y = eqF d e := by
  cases qd <;> first | (cases hd; done) | (cases qe <;> first | rfl | cases he)
theorem inF {K : PySem.W.Frag} {ρ : Rho} {n : Nat} {H : Hp} {d : D} {x : V} (qd : Rel K ρ n H d x) (hd : isFlat d = true) : ∀ {ds : List D} {xs : List V}, Rels K ρ n H ds xs → ds.all isFlat = true → inV x xs = ds.any fun y => eqF y d
  | _, _, .nil, _ => rfl
  | _, _, .cons q rs, hf => by
    simp only [List.all_cons, Bool.and_eq_true] at hf
    have := inF qd hd rs hf.2
    unfold inV at this ⊢
    rw [List.any_cons, List.any_cons, this, eqF_V q qd hf.1 hd]

/-- what «in» finds -/
theorem in_cases {K : PySem.W.Frag} {ρ : Rho} {H : Hp} {h : Hs} {d e : D} {x y : V} {k : Bool} (r : HR K ca ρ H h) (qd : Rel K ρ h.length H d x) (qe : Rel K ρ h.length H e y) (hk : inD h d e = some k) :
    (∃ (c : Nat) (z : Str), x = .str ⟨#[c]⟩ ∧ y = .str z ∧ k = decide (c ∈ z.cps.toList)) ∨
    (∃ a o, y = .ref a ∧ DGet H a x o ∧ k = o.isSome) ∨
    (∃ p xs, y = .ref p ∧ (SqL K H p xs ∨ SqT K H p xs) ∧ flatV x = true ∧ xs.all flatV = true ∧ k = inV x xs) ∨
    ∃ p ds, Dp K H x p ∧ (Dp K H y (.list ds) ∧ SeqAt.shaped (.list ds) = true ∨ Dp K H y (.tuple ds) ∧ SeqAt.shaped (.tuple ds) = true) ∧ SeqAt.shaped p = true ∧ k = ds.any fun z => PyData.eqv z p := by
  have fl : ∀ {ds : List D} {a : Addr} {xs : List V}, y = .ref a → (SqL K H a xs ∨ SqT K H a xs) → Rels K ρ h.length H ds xs → (if isFlat d && ds.all isFlat then some (ds.any fun y => eqF y d) else inP h d e) = some k →
      (∃ p xs, y = .ref p ∧ (SqL K H p xs ∨ SqT K H p xs) ∧ flatV x = true ∧ xs.all flatV = true ∧ k = inV x xs) ∨
      ∃ p ds, Dp K H x p ∧ (Dp K H y (.list ds) ∧ SeqAt.shaped (.list ds) = true ∨ Dp K H y (.tuple ds) ∧ SeqAt.shaped (.tuple ds) = true) ∧ SeqAt.shaped p = true ∧ k = ds.any fun z => PyData.eqv z p := fun {ds a xs} ey hs rs hk => by
    split at hk
    · rename_i z
      rw [Bool.and_eq_true] at z
      cases hk
      exact .inl ⟨a, xs, ey, hs, qd.isFlat z.1, rs.allFlat z.2, (inF qd z.1 rs z.2).symm⟩
    · unfold inP at hk
      split at hk
      · rename_i p ts e1 e2
        split at hk
        · rename_i sh
          cases hk
          exact .inr ⟨_, _, qd.flatDp r e1, .inr ⟨qe.flatDp r e2, sh.2⟩, sh.1, rfl⟩
        · cases hk
      · rename_i p ts e1 e2
        split at hk
        · rename_i sh
          cases hk
          exact .inr ⟨_, _, qd.flatDp r e1, .inl ⟨qe.flatDp r e2, sh.2⟩, sh.1, rfl⟩
        · cases hk
      · cases hk
  unfold inD at hk
  split at hk
  · split at hk
    · rename_i s
      split at hk
      · rename_i c z
        cases hk
        have es : s = ⟨#[c]⟩ := by
          cases s with
          | mk a =>
            have : a = #[c] := by rw [← Array.toArray_toList (xs := a), z]
            rw [this]
        subst es
        exact .inl ⟨_, _, qd.isStr, qe.isStr, rfl⟩
      · cases hk
    · cases hk
  · split at hk
    · rename_i m _ kvs z
      have q := r.cell _ _ z
      obtain ⟨kv, h1, h2⟩ := q
      cases qe
      split at hk
      · rename_i i
        cases hk
        refine .inr (.inl ⟨_, valV kv (Sum.inl i), rfl, ?_, h2.get_some⟩)
        rw [qd.isInt]; exact DGet.k (k := Sum.inl i) h1
      · rename_i i
        cases hk
        refine .inr (.inl ⟨_, valV kv (Sum.inr i), rfl, ?_, h2.get_some⟩)
        rw [qd.isStr]; exact DGet.k (k := Sum.inr i) h1
      · cases hk
    · rename_i m _ ys z
      obtain ⟨vs, h1, h2⟩ := Rel.cellLst r z
      cases qe
      exact .inr (.inr (fl rfl (.inl (SqL.of h1)) h2 hk))
    · cases hk
  · obtain ⟨a, vs, rfl, s, rs⟩ := qe.isTup
    exact .inr (.inr (fl rfl (.inr s) rs hk))
  · cases qe with
    | lst q hn rs => exact .inr (.inr (fl rfl (.inl (SqL.of q)) rs hk))
  · cases hk

theorem map_not {o : Option Bool} {k : Bool} (e : o.map (!·) = some k) : ∃ j, o = some j ∧ k = !j := by
  cases o with
  | none => cases e
  | some j => cases e; exact ⟨j, rfl, rfl⟩

theorem cmpN_some {K : PySem.W.Frag} {ρ : Rho} {n : Nat} {H : Hp} {d e : D} {x y : V} {op : CmpOp} {k : Bool} (qd : Rel K ρ n H d x) (qe : Rel K ρ n H e y) (hk : cmpN op d e = some k) : ∃ i j, x = .int i ∧ y = .int j ∧ cmpI op i j = some k := by
  unfold cmpN at hk
  split at hk
  · exact ⟨_, _, qd.isInt, qe.isInt, hk⟩
  · cases hk
theorem op_inTD (hu : X.A.units + 65 < cLine) : OpR X (compareOp .In) (fun x y H Q => ∃ d ds, Dp X.K H x d ∧ Dp X.K H y (.tuple ds) ∧ SeqAt.shaped d = true ∧ SeqAt.shaped (.tuple ds) = true ∧ Q (.bl (ds.any fun z => PyData.eqv z d)) H) := by
  intro pins s σ H x y v u Q I rx ry h
  obtain ⟨d, ds, hd, he, sd, se, q⟩ := h
  obtain ⟨as, r1⟩ := Dp.reads I d x v hd rx
  obtain ⟨bs, r2⟩ := Dp.reads I (.tuple ds) y u he ry
  exact SeqAt.in_tuple_reads r2 r1 (SeqAt.canLay_of_shaped se) (SeqAt.canLay_of_shaped sd) (room_in_shaped sd hu) ⟨.bl _, H, I, rfl, q⟩
theorem op_notInTD (hu : X.A.units + 65 < cLine) : OpR X (compareOp .NotIn) (fun x y H Q => ∃ d ds, Dp X.K H x d ∧ Dp X.K H y (.tuple ds) ∧ SeqAt.shaped d = true ∧ SeqAt.shaped (.tuple ds) = true ∧ Q (.bl (!ds.any fun z => PyData.eqv z d)) H) := by
  intro pins s σ H x y v u Q I rx ry h
  obtain ⟨d, ds, hd, he, sd, se, q⟩ := h
  obtain ⟨as, r1⟩ := Dp.reads I d x v hd rx
  obtain ⟨bs, r2⟩ := Dp.reads I (.tuple ds) y u he ry
  exact SeqAt.notIn_tuple_reads r2 r1 (SeqAt.canLay_of_shaped se) (SeqAt.canLay_of_shaped sd) (room_in_shaped sd hu) ⟨.bl _, H, I, rfl, q⟩
theorem op_cmpD (op : CmpOp) (hu : X.A.units + 65 < cLine) : OpR X (compareOp op) (rCmp X.K ca op) := by
  intro pins s σ H x y v u Q I rx ry ⟨ρ, h, d, e, k, r, qd, qe, hk, q⟩
  cases op with
  | Eq =>
    rcases eq_cases r qd qe hk with ⟨z1, rfl⟩ | ⟨p, p', z1, z2, z3, z4, rfl⟩
    · exact op_eq pins s σ H x y v u Q I rx ry ⟨z1, q⟩
    · exact op_eqD (by omega) pins s σ H x y v u Q I rx ry ⟨p, p', z1, z2, z3, z4, q⟩
  | NotEq =>
    obtain ⟨j, hj, rfl⟩ := map_not hk
    rcases eq_cases r qd qe hj with ⟨z1, rfl⟩ | ⟨p, p', z1, z2, z3, z4, rfl⟩
    · exact op_ne pins s σ H x y v u Q I rx ry ⟨z1, q⟩
    · exact op_neD (by omega) pins s σ H x y v u Q I rx ry ⟨p, p', z1, z2, z3, z4, q⟩
  | Is =>
    rcases isD_some qd qe hk with ⟨z1, rfl⟩ | ⟨a, b, z1, z2, rfl⟩
    · exact op_isN pins s σ H x y v u Q I rx ry ⟨z1, q⟩
    · exact op_isBl pins s σ H x y v u Q I rx ry ⟨a, b, z1, z2, q⟩
  | IsNot =>
    obtain ⟨j, hj, rfl⟩ := map_not hk
    rcases isD_some qd qe hj with ⟨z1, rfl⟩ | ⟨a, b, z1, z2, rfl⟩
    · exact op_notN pins s σ H x y v u Q I rx ry ⟨z1, q⟩
    · exact op_notBl pins s σ H x y v u Q I rx ry ⟨a, b, z1, z2, q⟩
  | In =>
    rcases in_cases r qd qe hk with ⟨c, z, h1, h2, rfl⟩ | ⟨a, o, rfl, g, rfl⟩ | ⟨p, xs, h1, h2, h3, h4, rfl⟩ | ⟨p, ds, h1, h2, h3, rfl⟩
    · exact op_in_sign pins s σ H x y v u Q I rx ry ⟨c, z, h1, h2, q⟩
    · obtain rfl : u = Value.ref a := ry
      exact d_in (by omega) I g rx fun s3 I3 => ⟨.bl o.isSome, H, I3, rfl, q⟩
    · exact op_in_seq pins s σ H x y v u Q I rx ry ⟨p, xs, h1, h2, h3, h4, q⟩
    · rcases h2 with ⟨h2, h4⟩ | ⟨h2, h4⟩
      · exact op_inD (by omega) pins s σ H x y v u Q I rx ry ⟨p, ds, h1, h2, h3, h4, q⟩
      · exact op_inTD (by omega) pins s σ H x y v u Q I rx ry ⟨p, ds, h1, h2, h3, h4, q⟩
  | NotIn =>
    obtain ⟨j, hj, rfl⟩ := map_not hk
    rcases in_cases r qd qe hj with ⟨c, z, h1, h2, rfl⟩ | ⟨a, o, rfl, g, rfl⟩ | ⟨p, xs, h1, h2, h3, h4, rfl⟩ | ⟨p, ds, h1, h2, h3, rfl⟩
    · exact op_notIn_sign pins s σ H x y v u Q I rx ry ⟨c, z, h1, h2, q⟩
    · obtain rfl : u = Value.ref a := ry
      exact d_notIn (by omega) I g rx fun s3 I3 => ⟨.bl (!o.isSome), H, I3, rfl, q⟩
    · exact op_notIn_seq pins s σ H x y v u Q I rx ry ⟨p, xs, h1, h2, h3, h4, q⟩
    · rcases h2 with ⟨h2, h4⟩ | ⟨h2, h4⟩
      · exact op_notInD (by omega) pins s σ H x y v u Q I rx ry ⟨p, ds, h1, h2, h3, h4, q⟩
      · exact op_notInTD (by omega) pins s σ H x y v u Q I rx ry ⟨p, ds, h1, h2, h3, h4, q⟩
  | Lt => obtain ⟨i, j, h1, h2, h3⟩ := cmpN_some qd qe hk; cases h3; exact op_lt pins s σ H x y v u Q I rx ry ⟨i, j, h1, h2, q⟩
  | LtE => obtain ⟨i, j, h1, h2, h3⟩ := cmpN_some qd qe hk; cases h3; exact op_le pins s σ H x y v u Q I rx ry ⟨i, j, h1, h2, q⟩
  | Gt => obtain ⟨i, j, h1, h2, h3⟩ := cmpN_some qd qe hk; cases h3; exact op_gt pins s σ H x y v u Q I rx ry ⟨i, j, h1, h2, q⟩
  | GtE => obtain ⟨i, j, h1, h2, h3⟩ := cmpN_some qd qe hk; cases h3; exact op_ge pins s σ H x y v u Q I rx ry ⟨i, j, h1, h2, q⟩

/-! ### truth -/
theorem Rel.truth {K : PySem.W.Frag} {ρ : Rho} {H : Hp} {h : Hs} {d : D} {x : V} {k : Bool} (q : Rel K ρ h.length H d x) (r : HR K ca ρ H h) (hk : truth h d = some k) : TruV K x H k := by
  cases q with
  | non => cases hk; rfl
  | bl b => cases hk; rfl
  | int i => cases hk; rfl
  | str s =>
    simp only [DI.truth] at hk
    split at hk
    · rename_i z
      cases hk
      exact ⟨z, rfl⟩
    · cases hk
  | tup q rs => cases hk; exact .inr (.inl ⟨_, q, by rw [rs.isEmpty]⟩)
  | lst q hn rs => cases hk; exact .inl ⟨_, SqL.of q, by rw [rs.isEmpty]⟩
  | fro q hn rs => cases hk; exact .inl ⟨_, .inl (.inr q), by rw [rs.isEmpty]⟩
  | frk q rs => cases hk; exact .inl ⟨_, .inr q, by rw [rs.isEmpty]⟩
  | ref hm =>
    simp only [DI.truth] at hk
    split at hk
    · rename_i z
      cases hk
      obtain ⟨vs, h1, h2⟩ := Rel.cellLst r z
      exact .inl ⟨_, SqL.of h1, by rw [h2.isEmpty]⟩
    · rename_i z
      cases hk
      obtain ⟨vs, h1, h2⟩ := r.cell _ _ z
      exact .inr (.inr ⟨_, h1, by cases h2 <;> rfl⟩)
    · cases hk
end
end DI

/-! DI, part D: subscripts, slices, built-ins, methods keep to their readings. -/
namespace DI
open PySem PySem.Spec PyProof.Rows L2

section
variable {X : Cx} {ca : Nat → Addr}
theorem Rels.atI {K : PySem.W.Frag} {ρ : Rho} {n : Nat} {H : Hp} {ds : List D} {vs : List V} {i : Int} {d : D} (r : Rels K ρ n H ds vs) (e : L2.atI ds i = some d) : ∃ v, L2.atI vs i = some v ∧ Rel K ρ n H d v := by
  unfold L2.atI at e ⊢
  rw [r.length]
  cases e1 : ixN ds.length i with
  | none => rw [e1] at e; cases e
  | some j => rw [e1] at e; exact r.get e

theorem ix_D (hu : X.A.units + 65 < cLine) : IxR X (rBin X.K ca ixD) := by
  intro value slice pins s σ H x y v u Q I rx ry ⟨ρ, h, d, e, E, r, qd, qe, p⟩ hs
  unfold ixD at p
  split at p
  · rename_i i
    have ey := qe.isInt
    split at p
    · rename_i z
      split at p
      · rename_i hz
        obtain ⟨k, hk, p⟩ := p.ofO
        cases e1 : L2.atI z.cps.toList i with
        | none => rw [e1] at hk; cases hk
        | some c =>
          rw [e1] at hk; cases hk
          exact ix_str value slice pins s σ H x y v u Q I rx ry ⟨z, i, c, qd.isStr, ey, hz, e1, p.now r (.str _)⟩ hs
      · exact p.elim
    · obtain ⟨k, hk, p⟩ := p.ofO
      obtain ⟨a, vs, rfl, q, rs⟩ := qd.isTup
      obtain ⟨w, e1, q1⟩ := rs.atI hk
      exact ix_tup value slice pins s σ H _ y v u Q I rx ry ⟨a, vs, i, w, rfl, ey, q, e1, p.now r q1⟩ hs
    · obtain ⟨k, hk, p⟩ := p.ofO
      cases qd with
      | lst q hn rs =>
        obtain ⟨w, e1, q1⟩ := rs.atI hk
        exact ix_list value slice pins s σ H _ y v u Q I rx ry ⟨_, _, i, w, rfl, ey, SqL.of q, e1, p.now r q1⟩ hs
    · obtain ⟨k, hk, p⟩ := p.ofO
      cases qd with
      | fro q hn rs =>
        obtain ⟨w, e1, q1⟩ := rs.atI hk
        exact ix_list value slice pins s σ H _ y v u Q I rx ry ⟨_, _, i, w, rfl, ey, .inl (.inr q), e1, p.now r q1⟩ hs
      | frk q rs =>
        obtain ⟨w, e1, q1⟩ := rs.atI hk
        exact ix_list value slice pins s σ H _ y v u Q I rx ry ⟨_, _, i, w, rfl, ey, .inr q, e1, p.now r q1⟩ hs
    · cases qd with
      | ref hm =>
        split at p
        · rename_i z
          obtain ⟨vs, h1, rs⟩ := Rel.cellLst r z
          obtain ⟨k, hk, p⟩ := p.ofO
          obtain ⟨w, e1, q1⟩ := rs.atI hk
          exact ix_list value slice pins s σ H _ y v u Q I rx ry ⟨_, vs, i, w, rfl, ey, SqL.of h1, e1, p.now r q1⟩ hs
        · rename_i z
          obtain ⟨kv, h1, rs⟩ := r.cell _ _ z
          obtain ⟨k, hk, p⟩ := p.ofO
          rcases rs.get (k := Sum.inl i) with ⟨e1, e2⟩ | ⟨d', w, e1, e2, q1⟩
          · rw [e1] at hk; cases hk
          · rw [e1] at hk; cases hk
            have g := DGet.k (k := Sum.inl i) h1
            rw [e2, show kV (Sum.inl i) = y from ey.symm] at g
            cases rx
            exact tail_any (dict_typeIs I g) PySem.F.slot_dict_getitem.lookup (d_getItem (by omega) I g ry fun w' s3 I3 rw' => ⟨w, H, I3, rw', p.now r q1⟩) hs
        · exact p.elim
    · exact p.elim
  · rename_i sx
    have ey := qe.isStr
    split at p
    · cases qd with
      | ref hm =>
        split at p
        · rename_i z
          obtain ⟨kv, h1, rs⟩ := r.cell _ _ z
          obtain ⟨k, hk, p⟩ := p.ofO
          rcases rs.get (k := Sum.inr sx) with ⟨e1, e2⟩ | ⟨d', w, e1, e2, q1⟩
          · rw [e1] at hk; cases hk
          · rw [e1] at hk; cases hk
            have g := DGet.k (k := Sum.inr sx) h1
            rw [e2, show kV (Sum.inr sx) = y from ey.symm] at g
            cases rx
            exact tail_any (dict_typeIs I g) PySem.F.slot_dict_getitem.lookup (d_getItem (by omega) I g ry fun w' s3 I3 rw' => ⟨w, H, I3, rw', p.now r q1⟩) hs
        · exact p.elim
    · exact p.elim
  · exact p.elim

/-! ### slices -/
def rSli (K : PySem.W.Frag) (ca : Nat → Addr) (c : Bool) : V → Option Int → Option Int → Hp → VK → Prop := fun x lo hi H Q => ∃ ρ h d E, HR K ca ρ H h ∧ Rel K ρ h.length H d x ∧ Post K ca ρ h.length H (sliceD c d lo hi h) Q E
theorem Rels.cutD {K : PySem.W.Frag} {ρ : Rho} {n : Nat} {H : Hp} {ds : List D} {vs : List V} (r : Rels K ρ n H ds vs) (lo hi : Option Int) : Rels K ρ n H (DI.cutD ds lo hi) (cutV vs lo hi) := by
  unfold DI.cutD cutV
  rw [r.length]
  exact (r.drop _).take _
theorem sl_D (c : Bool) : L2.SlR X (rSli X.K ca c) := by
  intro pins s σ H x v vl vu lo hi sl Q I rx hs pl pu ⟨ρ, h, d, E, r, qd, p⟩
  unfold sliceD at p
  split at p
  · split at p
    · rename_i z hz
      exact C8.sl_txt pins s σ H x v vl vu lo hi sl Q I rx hs pl pu ⟨z, qd.isStr, hz, p.now r (.str _)⟩
    · exact p.elim
  · obtain ⟨a, vs, rfl, q, rs⟩ := qd.isTup
    refine sl_tupA pins s σ H _ v vl vu lo hi sl Q I rx hs pl pu ⟨a, vs, rfl, q, fun z => ?_, fun z => p.newTup r (rs.cutD lo hi)⟩
    have e : DI.cutD _ lo hi = _ := cut_whole (rs.length ▸ z.1) (rs.length ▸ z.2)
    rw [e] at p
    exact p.now r (.tup q rs)
  · split at p
    · rename_i xs e1
      obtain ⟨a, vs, rfl, q, rs⟩ := qd.isLst r e1
      exact sl_list pins s σ H _ v vl vu lo hi sl Q I rx hs pl pu ⟨a, vs, rfl, SqL.of q, p.newLst r (rs.cutD lo hi)⟩
    · exact p.elim
where
  cut_whole : ∀ {xs : List D} {lo hi : Option Int}, HT.sIx xs.length 0 lo = 0 → HT.sIx xs.length xs.length hi = xs.length → DI.cutD xs lo hi = xs := by
    intro xs lo hi h1 h2
    unfold DI.cutD
    rw [h1, h2]
    simp

/-! ### built-ins -/
def rBi (K : PySem.W.Frag) (ca : Nat → Addr) (f : List D → Hs → R D) : List V → Hp → VK → Prop := fun vs H Q => ∃ ρ h ds E, HR K ca ρ H h ∧ Rels K ρ h.length H ds vs ∧ Post K ca ρ h.length H (f ds h) Q E
theorem Rels.one {K : PySem.W.Frag} {ρ : Rho} {n : Nat} {H : Hp} {d : D} {vs : List V} (r : Rels K ρ n H [d] vs) : ∃ v, vs = [v] ∧ Rel K ρ n H d v := by
  cases r with | cons q rs => cases rs; exact ⟨_, rfl, q⟩
theorem Rels.two {K : PySem.W.Frag} {ρ : Rho} {n : Nat} {H : Hp} {d e : D} {vs : List V} (r : Rels K ρ n H [d, e] vs) : ∃ v w, vs = [v, w] ∧ Rel K ρ n H d v ∧ Rel K ρ n H e w := by
  cases r with | cons q rs => obtain ⟨w, rfl, q'⟩ := rs.one; exact ⟨_, _, rfl, q, q'⟩

theorem Rels.ints {K : PySem.W.Frag} {ρ : Rho} {n : Nat} {H : Hp} : ∀ {ds : List D} {vs : List V} {is : List Int}, Rels K ρ n H ds vs → intsOf ds = some is → vs = is.map V.int
  | [], _, _, .nil, e => by cases e; rfl
  | d :: ds, _, _, .cons q rs, e => by
    cases d with
    | int i =>
      simp only [intsOf] at e
      cases e1 : intsOf ds with
      | none => rw [e1] at e; cases e
      | some js => rw [e1] at e; cases e; rw [q.isInt, Rels.ints rs e1]; rfl
    | _ => cases e
theorem Rels.bls {K : PySem.W.Frag} {ρ : Rho} {n : Nat} {H : Hp} : ∀ {ds : List D} {vs : List V} {is : List Bool}, Rels K ρ n H ds vs → DI.bls ds = some is → vs = is.map V.bl
  | [], _, _, .nil, e => by cases e; rfl
  | d :: ds, _, _, .cons q rs, e => by
    cases d with
    | bl i =>
      simp only [DI.bls] at e
      cases e1 : DI.bls ds with
      | none => rw [e1] at e; cases e
      | some js => rw [e1] at e; cases e; rw [q.isBl, Rels.bls rs e1]; rfl
    | _ => cases e
theorem maxI_spec : ∀ (r : List Int) (m : Int), maxI m r ∈ m :: r ∧ ∀ y ∈ m :: r, y ≤ maxI m r
  | [], m => ⟨List.mem_cons_self, fun y hy => by simp at hy; subst hy; exact Int.le_refl _⟩
  | x :: r, m => by
    have h := maxI_spec r (if m < x then x else m)
    have hw : m ≤ (if m < x then x else m) ∧ x ≤ (if m < x then x else m) := by split <;> omega
    have hm : (if m < x then x else m) ∈ m :: x :: r := by split <;> simp
    show maxI (if m < x then x else m) r ∈ _ ∧ ∀ y ∈ m :: x :: r, y ≤ maxI (if m < x then x else m) r
    generalize (if m < x then x else m) = w at h hw hm
    have h0 := h.2 w List.mem_cons_self
    refine ⟨?_, fun y hy => ?_⟩
    · rcases List.mem_cons.mp h.1 with e | e
      · rw [e]; exact hm
      · exact List.mem_cons_of_mem _ (List.mem_cons_of_mem _ e)
    · rcases List.mem_cons.mp hy with e | hy
      · omega
      · rcases List.mem_cons.mp hy with e | hy
        · omega
        · exact h.2 y (List.mem_cons_of_mem _ hy)
theorem minI_spec : ∀ (r : List Int) (m : Int), minI m r ∈ m :: r ∧ ∀ y ∈ m :: r, minI m r ≤ y
  | [], m => ⟨List.mem_cons_self, fun y hy => by simp at hy; subst hy; exact Int.le_refl _⟩
  | x :: r, m => by
    have h := minI_spec r (if x < m then x else m)
    have hw : (if x < m then x else m) ≤ m ∧ (if x < m then x else m) ≤ x := by split <;> omega
    have hm : (if x < m then x else m) ∈ m :: x :: r := by split <;> simp
    show minI (if x < m then x else m) r ∈ _ ∧ ∀ y ∈ m :: x :: r, minI (if x < m then x else m) r ≤ y
    generalize (if x < m then x else m) = w at h hw hm
    have h0 := h.2 w List.mem_cons_self
    refine ⟨?_, fun y hy => ?_⟩
    · rcases List.mem_cons.mp h.1 with e | e
      · rw [e]; exact hm
      · exact List.mem_cons_of_mem _ (List.mem_cons_of_mem _ e)
    · rcases List.mem_cons.mp hy with e | hy
      · omega
      · rcases List.mem_cons.mp hy with e | hy
        · omega
        · exact h.2 y (List.mem_cons_of_mem _ hy)


theorem bi_len : CallR X (.builtin "len") (rBi X.K ca biLen) := by
  intro pins s σ H xs us Q I rx ⟨ρ, h, ds, E, r, rs, p⟩
  unfold biLen at p
  split at p
  · obtain ⟨v, rfl, q⟩ := rs.one
    split at p
    · split at p
      · rename_i z hz
        rw [q.isStr] at rx
        exact call_len_str pins s σ H _ us Q I rx ⟨z, rfl, hz, p.now r (.int _)⟩
      · exact p.elim
    · split at p
      · rename_i ys e1
        obtain ⟨a, vs, rfl, hs, r1⟩ := q.seq r e1
        refine call_len_seq pins s σ H _ us Q I rx ⟨a, vs, rfl, hs, ?_⟩
        rw [r1.length]
        exact p.now r (.int _)
      · split at p
        · split at p
          · rename_i z
            cases q with
            | ref hm =>
              obtain ⟨kv, h1, r1⟩ := r.cell _ _ z
              refine call_lenD pins s σ H _ us Q I rx ⟨_, kv, rfl, h1, ?_⟩
              rw [r1.length]
              exact p.now r (.int _)
          · exact p.elim
        · exact p.elim
  · exact p.elim
theorem bi_int : CallR X (.type "int") (rBi X.K ca biInt) := by
  intro pins s σ H xs us Q I rx ⟨ρ, h, ds, E, r, rs, p⟩
  unfold biInt at p
  split at p
  · obtain ⟨v, rfl, q⟩ := rs.one
    rw [q.isInt] at rx
    exact call_int1 pins s σ H _ us Q I rx (.inl ⟨_, rfl, p.now r (.int _)⟩)
  · obtain ⟨v, rfl, q⟩ := rs.one
    rw [q.isBl] at rx
    exact call_int1 pins s σ H _ us Q I rx (.inr ⟨_, rfl, p.now r (.int _)⟩)
  · exact p.elim
theorem bi_abs : CallR X (.builtin "abs") (rBi X.K ca biAbs) := by
  intro pins s σ H xs us Q I rx ⟨ρ, h, ds, E, r, rs, p⟩
  unfold biAbs at p
  split at p
  · obtain ⟨v, rfl, q⟩ := rs.one
    rw [q.isInt] at rx
    exact call_abs pins s σ H _ us Q I rx ⟨_, rfl, p.now r (.int _)⟩
  · exact p.elim
theorem bi_max (hc : X.calm = true) : CallR X (.builtin "max") (rBi X.K ca biMax) := by
  intro pins s σ H xs us Q I rx ⟨ρ, h, ds, E, r, rs, p⟩
  unfold biMax at p
  split at p
  · obtain ⟨v, w, rfl, q, q'⟩ := rs.two
    rw [q.isInt, q'.isInt] at rx
    exact call_max2 hc pins s σ H _ us Q I rx ⟨_, _, rfl, p.now r (.int _)⟩
  · obtain ⟨v, rfl, q⟩ := rs.one
    split at p
    · rename_i ys e1
      split at p
      · rename_i i is e2
        obtain ⟨a, vs, rfl, h1, r1⟩ := q.isLst r e1
        refine cr_max hc pins s σ H _ us Q I rx ⟨a, i :: is, rfl, SqL.of (by rw [h1, r1.ints e2]), by simp, fun m hm hle => ?_⟩
        have sp := maxI_spec is i
        have e : m = maxI i is := Int.le_antisymm (sp.2 m hm) (hle _ sp.1)
        rw [e]
        exact p.now r (.int _)
      · exact p.elim
    · exact p.elim
  · exact p.elim
theorem bi_min (hc : X.calm = true) : CallR X (.builtin "min") (rBi X.K ca biMin) := by
  intro pins s σ H xs us Q I rx ⟨ρ, h, ds, E, r, rs, p⟩
  unfold biMin at p
  split at p
  · obtain ⟨v, w, rfl, q, q'⟩ := rs.two
    rw [q.isInt, q'.isInt] at rx
    exact call_min2 hc pins s σ H _ us Q I rx ⟨_, _, rfl, p.now r (.int _)⟩
  · obtain ⟨v, rfl, q⟩ := rs.one
    split at p
    · rename_i ys e1
      split at p
      · rename_i i is e2
        obtain ⟨a, vs, rfl, h1, r1⟩ := q.isLst r e1
        refine cr_min hc pins s σ H _ us Q I rx ⟨a, i :: is, rfl, SqL.of (by rw [h1, r1.ints e2]), by simp, fun m hm hle => ?_⟩
        have sp := minI_spec is i
        have e : m = minI i is := Int.le_antisymm (hle _ sp.1) (sp.2 m hm)
        rw [e]
        exact p.now r (.int _)
      · exact p.elim
    · exact p.elim
  · exact p.elim
theorem bi_sum (hc : X.calm = true) : CallR X (.builtin "sum") (rBi X.K ca biSum) := by
  intro pins s σ H xs us Q I rx ⟨ρ, h, ds, E, r, rs, p⟩
  unfold biSum at p
  split at p
  · obtain ⟨v, rfl, q⟩ := rs.one
    split at p
    · rename_i ys e1
      split at p
      · rename_i is e2
        obtain ⟨a, vs, rfl, h1, r1⟩ := q.isLst r e1
        exact cr_sum hc pins s σ H _ us Q I rx ⟨a, is, rfl, SqL.of (by rw [h1, r1.ints e2]), p.now r (.int _)⟩
      · exact p.elim
    · exact p.elim
  · exact p.elim
theorem bi_all (hc : X.calm = true) : CallR X (.builtin "all") (rBi X.K ca biAll) := by
  intro pins s σ H xs us Q I rx ⟨ρ, h, ds, E, r, rs, p⟩
  unfold biAll at p
  split at p
  · obtain ⟨v, rfl, q⟩ := rs.one
    split at p
    · rename_i ys e1
      split at p
      · rename_i is e2
        obtain ⟨a, vs, rfl, h1, r1⟩ := q.isLst r e1
        exact cr_all hc pins s σ H _ us Q I rx ⟨a, is, rfl, SqL.of (by rw [h1, r1.bls e2]), p.now r (.bl _)⟩
      · exact p.elim
    · exact p.elim
  · exact p.elim
theorem bi_any (hc : X.calm = true) : CallR X (.builtin "any") (rBi X.K ca biAny) := by
  intro pins s σ H xs us Q I rx ⟨ρ, h, ds, E, r, rs, p⟩
  unfold biAny at p
  split at p
  · obtain ⟨v, rfl, q⟩ := rs.one
    split at p
    · rename_i ys e1
      split at p
      · rename_i is e2
        obtain ⟨a, vs, rfl, h1, r1⟩ := q.isLst r e1
        exact cr_any hc pins s σ H _ us Q I rx ⟨a, is, rfl, SqL.of (by rw [h1, r1.bls e2]), p.now r (.bl _)⟩
      · exact p.elim
    · exact p.elim
  · exact p.elim
theorem bi_list (c : Bool) : CallR X (.type "list") (rBi X.K ca (biList c)) := by
  intro pins s σ H xs us Q I rx ⟨ρ, h, ds, E, r, rs, p⟩
  unfold biList at p
  split at p
  · obtain ⟨v, rfl, q⟩ := rs.one
    split at p
    · rename_i ys e1
      obtain ⟨a, vs, rfl, hs, r1⟩ := q.seq r e1
      exact call_list_of pins s σ H _ us Q I rx ⟨a, vs, rfl, hs, p.newLst r r1⟩
    · exact p.elim
  · exact p.elim
theorem bi_tuple : CallR X (.type "tuple") (rBi X.K ca biTuple) := by
  intro pins s σ H xs us Q I rx ⟨ρ, h, ds, E, r, rs, p⟩
  unfold biTuple at p
  split at p
  · obtain ⟨v, rfl, q⟩ := rs.one
    obtain ⟨a, vs, rfl, hs, r1⟩ := q.isTup
    exact call_tuple_of pins s σ H _ us Q I rx ⟨a, vs, rfl, .inr ⟨hs, p.now r (.tup hs r1)⟩⟩
  · obtain ⟨v, rfl, q⟩ := rs.one
    split at p
    · rename_i ys e1
      obtain ⟨a, vs, rfl, h1, r1⟩ := q.isLst r e1
      exact call_tuple_of pins s σ H _ us Q I rx ⟨a, vs, rfl, .inl ⟨SqL.of h1, p.newTup r r1⟩⟩
    · exact p.elim
  · exact p.elim

/-! ### isinstance, one built-in type -/
theorem Rel.tyX {K : PySem.W.Frag} {ρ : Rho} {H : Hp} {h : Hs} {d : D} {x : V} {t : String} (q : Rel K ρ h.length H d x) (r : HR K ca ρ H h) (ht : tyOf h d = some t) : TyX K H x (.type t) := by
  cases q with
  | non => cases ht; exact .base .non
  | bl b => cases ht; exact .base (.bl b)
  | int i => cases ht; exact .base (.int i)
  | str s => cases ht; exact .base (.str s)
  | tup q rs =>
    cases ht
    rcases q with (q | ⟨o, q⟩) | ⟨o, its, n, h1, h2, _⟩
    · exact .base (.tup q)
    · exact .fTuple q
    · exact .kTuple h1 h2
  | lst q hn rs => cases ht; exact .base (.lst q)
  | fro q hn rs => cases ht
  | frk q rs => cases ht
  | ref hm =>
    simp only [tyOf] at ht
    split at ht
    · rename_i z
      cases ht
      obtain ⟨vs, h1, _⟩ := Rel.cellLst r z
      exact .base (.lst h1)
    · rename_i z
      cases ht
      obtain ⟨kv, h1, _⟩ := r.cell _ _ z
      exact .base (.dK h1)
    · cases ht
def tyNames : List String := ["int", "bool", "str", "tuple", "list", "dict"]
theorem kit_all : ∀ s ∈ ["NoneType", "bool", "int", "str", "tuple", "list", "dict"], ∀ t ∈ tyNames, kitB s t = some (isiB s t) := by decide +kernel
theorem tyOf_mem {h : Hs} {d : D} {t : String} (ht : tyOf h d = some t) : t ∈ ["NoneType", "bool", "int", "str", "tuple", "list", "dict"] := by
  unfold tyOf at ht
  split at ht <;> first | (cases ht; decide) | (cases ht; done) | (split at ht <;> first | (cases ht; decide) | cases ht)
def rIsiD (K : PySem.W.Frag) (ca : Nat → Addr) (t : String) : List V → Hp → VK → Prop := fun vs H Q => ∃ ρ h d x E, HR K ca ρ H h ∧ Rel K ρ h.length H d x ∧ vs = [x, .ty t] ∧ Post K ca ρ h.length H (isiD t d h) Q E
theorem bi_isi {t : String} (ht : t ∈ tyNames) : CallR X (.builtin "isinstance") (rIsiD X.K ca t) := by
  intro pins s σ H xs us Q I rx hx
  obtain ⟨ρ, h, d, x, E, r, q, rfl, p⟩ := hx
  unfold isiD at p
  split at p
  · rename_i u e1
    exact call_isi pins s σ H _ us Q I rx ⟨x, .ty t, .type u, .type t, isiB u t, rfl, .ty t, q.tyX r e1, kit_ty (kit_all u (tyOf_mem e1) t ht), p.now r (.bl _)⟩
  · exact p.elim

/-! ### methods of built-in types -/
def rMt (K : PySem.W.Frag) (ca : Nat → Addr) (f : D → List D → Hs → R D) : V → List V → Hp → VK → Prop := fun x vs H Q => ∃ ρ h d ds E, HR K ca ρ H h ∧ Rel K ρ h.length H d x ∧ Rels K ρ h.length H ds vs ∧ Post K ca ρ h.length H (f d ds h) Q E
theorem mt_appendD : MtR X "list.append" (rMt X.K ca mtAppend) := by
  intro pins s σ H x xs v us Q I rx rxs ⟨ρ, h, d, ds, E, r, q, rs, p⟩
  unfold mtAppend at p
  split at p
  · rename_i m d1
    split at p
    · rename_i ys z
      split at p
      · rename_i hl
        obtain ⟨w, rfl, q1⟩ := rs.one
        obtain ⟨vs, h1, r1⟩ := Rel.cellLst r z
        cases q with
        | ref hm =>
          refine mt_append pins s σ H _ _ v us Q I rx rxs ⟨_, vs, w, rfl, rfl, h1, by rw [r1.length]; exact hl, ?_⟩
          obtain ⟨r', e'⟩ := r.write hm (.lst (ys ++ [d1])) (.lst (vs ++ [w])) (fun _ => HO.noConfusion) fun e => ⟨_, upd_same, (r1.mono e r).append (.cons (q1.mono e r) .nil)⟩
          exact p ρ _ _ r' e' .non
      · exact p.elim
    · exact p.elim
  · exact p.elim
theorem mt_extendD : MtR X "list.extend" (rMt X.K ca mtExtend) := by
  intro pins s σ H x xs v us Q I rx rxs ⟨ρ, h, d, ds, E, r, q, rs, p⟩
  unfold mtExtend at p
  split at p
  · rename_i m d1
    split at p
    · rename_i ys z
      split at p
      · rename_i zs e1
        split at p
        · rename_i hl
          obtain ⟨w, rfl, q1⟩ := rs.one
          obtain ⟨vs, h1, r1⟩ := Rel.cellLst r z
          obtain ⟨b, ws, rfl, h2, r2⟩ := q1.isLst r e1
          cases q with
          | ref hm =>
            refine mt_extend pins s σ H _ _ v us Q I rx rxs ⟨_, b, vs, ws, rfl, rfl, h1, h2, by rw [r1.length, r2.length]; exact hl, ?_⟩
            obtain ⟨r', e'⟩ := r.write hm (.lst (ys ++ zs)) (.lst (vs ++ ws)) (fun _ => HO.noConfusion) fun e => ⟨_, upd_same, (r1.mono e r).append (r2.mono e r)⟩
            exact p ρ _ _ r' e' .non
        · exact p.elim
      · exact p.elim
    · exact p.elim
  · exact p.elim
theorem mt_splitD : MtR X "str.split" (rMt X.K ca mtSplit) := by
  intro pins s σ H x xs v us Q I rx rxs ⟨ρ, h, d, ds, E, r, q, rs, p⟩
  unfold mtSplit at p
  split at p
  · rename_i z y
    split at p
    · rename_i hl
      obtain ⟨w, rfl, q1⟩ := rs.one
      rw [q1.isStr] at rxs
      have ex := q.isStr
      subst ex
      refine mt_split pins s σ H _ _ v us Q I rx rxs ⟨z, y, rfl, rfl, by simpa using hl.1, hl.2, fun a ha => ?_⟩
      have rr : ∀ l : List Str, Rels X.K ρ h.length H (l.map .str) (l.map V.str) := fun l => by
        induction l with
        | nil => exact .nil
        | cons s l ih => exact .cons (.str s) ih
      exact p.newLst r (rr _) a ha
    · exact p.elim
  · exact p.elim
theorem mt_popD : MtR X "list.pop" (rMt X.K ca mtPop) := by
  intro pins s σ H x xs v us Q I rx rxs ⟨ρ, h, d, ds, E, r, q, rs, p⟩
  unfold mtPop at p
  split at p
  · rename_i m
    split at p
    · rename_i ys z
      split at p
      · rename_i d1 e1
        cases rs
        obtain ⟨vs, h1, r1⟩ := Rel.cellLst r z
        obtain ⟨w, e2, q1⟩ := r1.get e1
        cases q with
        | ref hm =>
          refine mt_pop pins s σ H _ _ v us Q I rx rxs ⟨_, vs, w, rfl, rfl, h1, by rw [r1.length]; exact e2, ?_⟩
          obtain ⟨r', e'⟩ := r.write hm (.lst ys.dropLast) (.lst vs.dropLast) (fun _ => HO.noConfusion) fun e => ⟨_, upd_same, (r1.mono e r).dropLast⟩
          exact p ρ _ _ r' e' (q1.mono e' r)
      · exact p.elim
    · exact p.elim
  · exact p.elim
end
end DI

/-! DI, part V: sorted of texts. -/
namespace DI
open PySem PySem.Spec PyProof.Rows L2
def leS (a b : Str) : Prop := ltCps b.cps.toList a.cps.toList = false
theorem leS_iff {a b : Str} : leS a b ↔ a.cps.toList ≤ b.cps.toList := by
  unfold leS
  rw [ltCps_eq, decide_eq_false_iff_not]
  exact List.not_lt
theorem leS_anti {a b : Str} (h1 : leS a b) (h2 : leS b a) : a = b := by
  rw [leS_iff] at h1 h2
  have := List.le_antisymm h1 h2
  cases a; cases b
  simp only at this
  rw [Array.toList_inj] at this
  rw [this]
theorem leS_trans {a b c : Str} (h1 : leS a b) (h2 : leS b c) : leS a c := by
  rw [leS_iff] at *
  exact List.le_trans h1 h2
theorem leS_total (a b : Str) : leS a b ∨ leS b a := by
  rw [leS_iff, leS_iff]
  exact List.le_total _ _
theorem insS_perm (x : Str) : ∀ l, (insS x l).Perm (x :: l)
  | [] => .refl _
  | y :: r => by
    unfold insS
    split
    · exact .refl _
    · exact ((insS_perm x r).cons y).trans (.swap _ _ _)
theorem sortS_perm : ∀ l, (sortS l).Perm l
  | [] => .refl _
  | x :: l => (insS_perm x _).trans ((sortS_perm l).cons x)
theorem insS_pw (x : Str) : ∀ l, l.Pairwise leS → (insS x l).Pairwise leS
  | [], _ => by simp [insS]
  | y :: r, h => by
    rw [List.pairwise_cons] at h
    unfold insS
    split
    · rename_i e
      have xy : leS x y := by
        rcases leS_total x y with q | q
        · exact q
        · unfold leS at q; rw [e] at q; cases q
      refine List.pairwise_cons.mpr ⟨fun z hz => ?_, List.pairwise_cons.mpr h⟩
      rcases List.mem_cons.mp hz with rfl | hz
      · exact xy
      · exact leS_trans xy (h.1 z hz)
    · rename_i e
      have yx : leS y x := by unfold leS; simpa using e
      refine List.pairwise_cons.mpr ⟨fun z hz => ?_, insS_pw x r h.2⟩
      rcases List.mem_cons.mp ((insS_perm x r).mem_iff.mp hz) with rfl | hz
      · exact yx
      · exact h.1 z hz
theorem sortS_pw : ∀ l, (sortS l).Pairwise leS
  | [] => List.Pairwise.nil
  | x :: l => insS_pw x _ (sortS_pw l)
theorem rising_pw : ∀ (l : List Str) (p : Str), risingS p l = true → (p :: l).Pairwise leS
  | [], p, _ => by simp
  | x :: r, p, h => by
    simp only [risingS, Bool.and_eq_true, Bool.not_eq_true'] at h
    have ih := rising_pw r x h.2
    refine List.pairwise_cons.mpr ⟨fun z hz => ?_, ih⟩
    rcases List.mem_cons.mp hz with rfl | hz
    · exact h.1
    · exact leS_trans h.1 ((List.pairwise_cons.mp ih).1 z hz)
theorem sorted_pw : ∀ (l : List Str), sortedS l = true → l.Pairwise leS
  | [], _ => List.Pairwise.nil
  | x :: l, h => rising_pw l x h
theorem sort_uniq {ys xs : List Str} (p : ys.Perm xs) (s : sortedS ys = true) : ys = sortS xs :=
  List.Perm.eq_of_pairwise (fun _ _ _ _ => leS_anti) (sorted_pw ys s) (sortS_pw xs) (p.trans (sortS_perm xs).symm)
theorem strs_rel {K : PySem.W.Frag} {ρ : Rho} {n : Nat} {H : Hp} : ∀ {ds : List D} {vs : List V} {ss : List Str}, Rels K ρ n H ds vs → strsD ds = some ss → vs = ss.map V.str
  | [], _, ss, .nil, h => by cases h; rfl
  | d :: ds, _, ss, .cons q rs, h => by
    cases d <;> first | (cases h; done) | skip
    simp only [strsD, Option.map_eq_some_iff] at h
    obtain ⟨s2, h2, rfl⟩ := h
    rw [q.isStr, strs_rel rs h2]; rfl
theorem rels_strs {K : PySem.W.Frag} {ρ : Rho} {n : Nat} {H : Hp} : ∀ (ss : List Str), Rels K ρ n H (ss.map .str) (ss.map V.str)
  | [] => .nil
  | s :: ss => .cons (.str s) (rels_strs ss)
theorem keys_rel {K : PySem.W.Frag} {ρ : Rho} {n : Nat} {H : Hp} : ∀ {kvs : List (L2.Key × D)} {kv : List (L2.Key × V)} {ss : List Str}, Rkv K ρ n H kvs kv → keysS kvs = some ss → kv.map (·.1) = ss.map Sum.inr
  | [], _, ss, .nil, h => by cases h; rfl
  | (k, d) :: r, _, ss, .cons q rs, h => by
    cases k with
    | inl i => cases h
    | inr s =>
      simp only [keysS, Option.map_eq_some_iff] at h
      obtain ⟨s2, h2, rfl⟩ := h
      simp only [List.map_cons]
      rw [keys_rel rs h2]
section
variable {X : Cx} {ca : Nat → Addr}
theorem bi_sorted (c : Bool) (hc : X.calm = true) : CallR X (.builtin "sorted") (rBi X.K ca (biSorted c)) := by
  intro pins s σ H xs us Q I rx ⟨ρ, h, ds, E, r, rs, p⟩
  unfold biSorted at p
  split at p
  · obtain ⟨v, rfl, q⟩ := rs.one
    split at p
    · rename_i x _ ss es
      split at p
      · rename_i h64
        have fin : ∀ (ys : List Str) (a : Addr), ys.Perm ss → sortedS ys = true → H a = none → Q (.ref a) (upd H a (.lst (ys.map V.str))) := fun ys a hp hs ha => by
          rw [sort_uniq hp hs]
          exact p.newLst r (rels_strs _) a ha
        unfold srtOf at es
        split at es
        · rename_i m
          split at es
          · rename_i kvs z
            obtain ⟨kv, h1, h2⟩ := r.cell _ _ z
            cases q
            exact call_sortedD hc pins s σ H _ us Q I rx ⟨_, kv, ss, rfl, .inl h1, keys_rel h2 es, h64, fin⟩
          · rename_i ys z
            obtain ⟨vs, h1, h2⟩ := Rel.cellLst r z
            cases q
            exact cr_sortedS pins s σ H _ us Q I rx ⟨_, ss, rfl, by rw [← strs_rel h2 es]; exact SqL.of h1, h64, fin⟩
          · cases es
        · rw [Option.bind_eq_some_iff] at es
          obtain ⟨ys, e1, e2⟩ := es
          obtain ⟨a, vs, rfl, hs, r1⟩ := q.isLst r e1
          exact cr_sortedS pins s σ H _ us Q I rx ⟨a, ss, rfl, by rw [← strs_rel r1 e2]; exact SqL.of hs, h64, fin⟩
      · exact p.elim
    · exact p.elim
  · exact p.elim
end
end DI

/-! DI, part E: which text an E stands for (a check that computes), and that its reading is kept to: expressions. -/
namespace DI
open PySem PySem.Spec PyProof.Rows L2

/-! ### readings -/
section
variable (K : PySem.W.Frag) (ca : Nat → Addr) (W : WX)
def tD (ev : Sl → Hs → R D) : TE := fun σ H Q => ∃ ρ h sl, HR K ca ρ H h ∧ SlR K ρ h.length H sl σ ∧ Post K ca ρ h.length H (ev sl h) Q (fun cls d H' => W cls d σ H')
def tA (ev : Sl → Hs → R D) : TA := fun σ H Q => ∃ ρ h sl, HR K ca ρ H h ∧ SlR K ρ h.length H sl σ ∧ match ev sl h with
  | .ok d h' => ∃ ds, d = .tup ds ∧ ∀ ρ' H' vs, HR K ca ρ' H' h' → Ext ρ h.length H ρ' h'.length H' → Rels K ρ' h'.length H' ds vs → Q vs H'
  | .ex x h' => ∀ ρ' H' cls dd, HR K ca ρ' H' h' → Ext ρ h.length H ρ' h'.length H' → XRel K ca ρ' h'.length H' x cls dd → W cls dd σ H'
  | .stuck => False
end
def tst (ev : Sl → Hs → R D) : Sl → Hs → R D := fun sl h => (ev sl h).bind fun d h1 => R.ofO ((truth h1 d).map .bl) h1

section
variable {K : PySem.W.Frag} {ca : Nat → Addr} {W : WX} {σ : L2.St} {H : Hp} {Q Q' : VK} {ev : Sl → Hs → R D} {ρ : Rho} {h : Hs} {sl : Sl} {E : XK}
theorem tD.imp (t : tD K ca W ev σ H Q) (hq : ∀ v H', Q v H' → Q' v H') : tD K ca W ev σ H Q' := by
  obtain ⟨ρ, h, sl, r, s, p⟩ := t
  refine ⟨ρ, h, sl, r, s, ?_⟩
  cases e : ev sl h with
  | ok d h' => rw [e] at p; exact fun ρ' H' v r' e' q => hq _ _ (p ρ' H' v r' e' q)
  | ex x h' => rw [e] at p; exact p
  | stuck => rw [e] at p; exact p
/-- an expression, and what is done with its value -/
theorem seqP {g : D → Hs → R D} (r : HR K ca ρ H h) (s : SlR K ρ h.length H sl σ) (p : Post K ca ρ h.length H ((ev sl h).bind g) Q (fun cls d H' => W cls d σ H')) :
    tD K ca W ev σ H (fun v H1 => ∃ ρ1 h1 d, HR K ca ρ1 H1 h1 ∧ Ext ρ h.length H ρ1 h1.length H1 ∧ Rel K ρ1 h1.length H1 d v ∧ ev sl h = .ok d h1 ∧ Post K ca ρ1 h1.length H1 (g d h1) Q (fun cls d H' => W cls d σ H')) := by
  refine ⟨ρ, h, sl, r, s, ?_⟩
  cases e : ev sl h with
  | ok d h' => rw [e] at p; exact fun ρ' H' v r' e' q => ⟨ρ', h', d, r', e', q, rfl, Post.mono (r := g d h') p e' r'⟩
  | ex x h' => rw [e] at p; exact p
  | stuck => rw [e] at p; exact p
/-- an argument list -/
theorem seqA {g : List D → Hs → R D} (r : HR K ca ρ H h) (s : SlR K ρ h.length H sl σ) (p : Post K ca ρ h.length H ((ev sl h).bind fun d h1 => match d with | .tup xs => g xs h1 | _ => .stuck) Q (fun cls d H' => W cls d σ H')) :
    tA K ca W ev σ H (fun vs H1 => ∃ ρ1 h1 ds, HR K ca ρ1 H1 h1 ∧ Ext ρ h.length H ρ1 h1.length H1 ∧ Rels K ρ1 h1.length H1 ds vs ∧ ev sl h = .ok (.tup ds) h1 ∧ Post K ca ρ1 h1.length H1 (g ds h1) Q (fun cls d H' => W cls d σ H')) := by
  refine ⟨ρ, h, sl, r, s, ?_⟩
  cases e : ev sl h with
  | ok d h' =>
    rw [e] at p
    cases d with
    | tup ds => exact ⟨ds, rfl, fun ρ' H' vs r' e' q => ⟨ρ', h', ds, r', e', q, rfl, Post.mono (r := g ds h') p e' r'⟩⟩
    | _ => exact p.elim
  | ex x h' => rw [e] at p; exact p
  | stuck => rw [e] at p; exact p
theorem tA.imp {Q Q' : List V → Hp → Prop} (t : tA K ca W ev σ H Q) (hq : ∀ v H', Q v H' → Q' v H') : tA K ca W ev σ H Q' := by
  obtain ⟨ρ, h, sl, r, s, m⟩ := t
  refine ⟨ρ, h, sl, r, s, ?_⟩
  cases e : ev sl h with
  | ok d h' =>
    rw [e] at m
    obtain ⟨ds, e1, p⟩ := m
    exact ⟨ds, e1, fun ρ' H' vs r' e' q => hq _ _ (p ρ' H' vs r' e' q)⟩
  | ex x h' => rw [e] at m; exact m
  | stuck => rw [e] at m; exact m
end

theorem PE.imp {X : Cx} {e : Expr} {t t' : TE} (p : PE X e t) (h : ∀ σ H Q, t' σ H Q → t σ H Q) : PE X e t' := ⟨fun pins s σ H Q I w => p.run pins s σ H Q I (h σ H Q w)⟩
theorem PT.imp {X : Cx} {e : Expr} {t t' : TT} (p : PT X e t) (h : ∀ σ H Q, t' σ H Q → t σ H Q) : PT X e t' := ⟨fun pins s σ H Q I w => p.run pins s σ H Q I (h σ H Q w)⟩
theorem PW.imp {X : Cx} {e : Expr} {t t' : TT} (p : PW X e t) (h : ∀ σ H Q, t' σ H Q → t σ H Q) : PW X e t' := ⟨fun wh pins s σ H Q I w => p.run wh pins s σ H Q I (h σ H Q w)⟩
theorem PA.imp {X : Cx} {e : List Expr} {t t' : TA} (p : PA X e t) (h : ∀ σ H Q, t' σ H Q → t σ H Q) : PA X e t' := ⟨fun pos pins s σ H Q I w => p.run pos pins s σ H Q I (h σ H Q w)⟩
theorem PS.imp {X : Cx} {e : Stmt} {t t' : TS} (p : PS X e t) (h : ∀ D σ H, t' D σ H → t D σ H) : PS X e t' := ⟨fun pins s σ H D I w => p.run pins s σ H D I (h D σ H w)⟩
theorem PSs.imp {X : Cx} {e : List Stmt} {t t' : TS} (p : PSs X e t) (h : ∀ D σ H, t' D σ H → t D σ H) : PSs X e t' := ⟨fun pins s σ H D I w => p.run pins s σ H D I (h D σ H w)⟩

/-! ### the text -/
def starOk : Expr → Bool
  | .Starred _ _ => false
  | _ => true
theorem starEach_cons {e : Expr} {es : List Expr} {env : Env} (h : starOk e = true) : starEach (e :: es) env = (false, eval e env) :: starEach es env := by
  cases e <;> first | rfl | cases h
theorem star_any {pos : Pos} {env : Env} : ∀ {es : List Expr}, es.all starOk = true → (backTo pos (starEach es env)).any (·.1) = false
  | [], _ => rfl
  | e :: es, h => by
    rw [List.all_cons, Bool.and_eq_true] at h
    rw [starEach_cons h.1]
    show (false || (backTo pos (starEach es env)).any (·.1)) = false
    rw [star_any h.2]
    rfl
theorem star_all {pos : Pos} {env : Env} : ∀ {es : List Expr}, es.all starOk = true → (backTo pos (starEach es env)).all (fun x => !x.1) = true
  | [], _ => rfl
  | e :: es, h => by
    rw [List.all_cons, Bool.and_eq_true] at h
    rw [starEach_cons h.1]
    show (!false && (backTo pos (starEach es env)).all (fun x => !x.1)) = true
    rw [star_all h.2]
    rfl

structure Gn where
  fn : Str → Option Nat
  ar : Nat → Nat
  cls : Str → Option Nat
  blt : Str → Bool
  clf : Str → Option (Nat × Str × Str) := fun _ => none

def isVis (sc : Scope) (x : Str) : Bool := match sc.names.lookup x with
  | some .local => true
  | some .cell => true
  | some .free => true
  | _ => false
theorem isVis_of {sc : Scope} {x : Str} (h : isVis sc x = true) : Vis sc x := by
  unfold isVis at h
  split at h <;> first | exact .inl ‹_› | exact .inr (.inl ‹_›) | exact .inr (.inr ‹_›) | cases h
def isLoc (sc : Scope) (x : Str) : Bool := match sc.names.lookup x with
  | some .local => true
  | some .cell => true
  | _ => false
theorem isLoc_of {sc : Scope} {x : Str} (h : isLoc sc x = true) : Loc sc x := by
  unfold isLoc at h
  split at h <;> first | exact .inl ‹_› | exact .inr ‹_› | cases h
def isGl (sc : Scope) (x : Str) : Bool := match sc.names.lookup x with
  | some .globalImplicit => true
  | _ => false
theorem isGl_of {X : Cx} {sc : Scope} {x : Str} (e : X.env.scope = sc) (h : isGl sc x = true) : Gl X x := by
  unfold isGl at h
  split at h
  · show X.env.scope.names.lookup x = some .globalImplicit
    rw [e]; assumption
  · cases h
def noDbg (x : Str) : Bool := !(x == ("__debug__" : Str)) && !(x == ("__classdict__" : Str))
theorem noDbg_1 {x : Str} (h : noDbg x = true) : (x == ("__debug__" : Str)) = false := by
  unfold noDbg at h
  rw [Bool.and_eq_true, Bool.not_eq_true'] at h
  exact h.1
theorem noDbg_2 {x : Str} (h : noDbg x = true) : (x == ("__classdict__" : Str)) = false := by
  unfold noDbg at h
  rw [Bool.and_eq_true, Bool.not_eq_true', Bool.not_eq_true'] at h
  exact h.2

def biStr : Bi → String
  | .len => "len" | .int => "int" | .abs => "abs" | .max => "max" | .min => "min" | .sum => "sum" | .all => "all" | .any => "any" | .list _ => "list" | .tuple => "tuple" | .sorted _ => "sorted"
def biOk : Bi → Bool
  | .sorted _ => true
  | _ => true
def mtStr : Mt → String
  | .append => "append" | .extend => "extend" | .pop => "pop" | .split => "split"
def isSl : Expr → Bool
  | .Slice _ _ _ _ => true
  | _ => false
theorem plainIx_of {b : Expr} (h : isSl b = false) : PlainIx b := by
  intro o i
  cases b <;> first | rfl | cases h
def isCall0 : Expr → Bool
  | .Call _ [] [] _ => true
  | _ => false
theorem base_of {o : Expr} {attr : Str} {env : Env} (h : isCall0 o = false) : attributeBase o attr env (eval o env) = eval o env := by
  cases o with
  | Call f args kws pos =>
    cases args with
    | cons a r => cases f <;> rfl
    | nil =>
      cases kws with
      | cons k r => cases f <;> rfl
      | nil => cases h
  | _ => rfl
def plainT : Expr → Bool
  | .UnaryOp .Not _ _ => false
  | .BoolOp _ _ _ => false
  | .IfExp _ _ _ _ => false
  | .Compare _ _ _ _ => false
  | _ => true
theorem plainT_of {e : Expr} {env : Env} (h : plainT e = true) : ∀ whole, isTrue e env whole = (do let v ← whole; standAt e.pos; holding [v] (truthy v)) := by
  intro whole
  cases e with
  | UnaryOp op x pos => cases op <;> first | rfl | cases h
  | BoolOp _ _ _ => cases h
  | IfExp _ _ _ _ => cases h
  | Compare _ _ _ _ => cases h
  | _ => rfl
def isCmp : Expr → Bool
  | .Compare _ _ _ _ => true
  | _ => false

def tgOne : Tg → Bool
  | .nm _ => true
  | .tup _ => true
  | _ => false
/-- targets -/
def chkTg (N : List Str) (sc : Scope) : Tg → List Expr → Bool
  | .nm i, es => match es with
    | [.Name x _] => (N[i]? == some x) && isLoc sc x
    | _ => false
  | .nil, es => match es with
    | [] => true
    | _ => false
  | .cons a b, es => match es with
    | e :: r => chkTg N sc a [e] && chkTg N sc b r && starOk e && tgOne a
    | _ => false
  | .tup a, es => match es with
    | [.Tuple ts _ _] => chkTg N sc a ts
    | _ => false

def ownOf (N : List Str) (own : List Nat) : List (Str × Nat) := own.map fun i => (N.getD i Str.empty, i)
def isSet : Expr → Bool
  | .Set _ _ _ => true
  | _ => false
def isTup : Expr → Bool
  | .Tuple _ _ _ => true
  | _ => false
def isTrueB : E → Bool
  | .kB true => true
  | _ => false
/-- a target's slots are among the block's own -/
def tgIn (own : List Nat) : Tg → Bool
  | .nm i => decide (i ∈ own)
  | .nil => true
  | .cons a b => tgIn own a && tgIn own b
  | .tup a => tgIn own a
def itC (Γ : Gn) (sc : Scope) (k : ItK) (it tgE : Expr) (fe : Expr → Bool) (fa : List Expr → Bool) : Bool := match k, it with
  | .seq, it => fe it && !isSet it
  | .range1, .Call (.Name x _) [a] [] _ => decide (x = ("range" : Str)) && isGl sc x && Γ.blt x && fa [a]
  | .range2, .Call (.Name x _) [a, b] [] _ => decide (x = ("range" : Str)) && isGl sc x && Γ.blt x && fa [a, b]
  | .enum, .Call (.Name x _) [a] [] _ => decide (x = ("enumerate" : Str)) && isGl sc x && Γ.blt x && fa [a] && isTup tgE
  | .zip, .Call (.Name x _) [a, b] [] _ => decide (x = ("zip" : Str)) && isGl sc x && Γ.blt x && fa [a, b] && isTup tgE
  | _, _ => false
def tsC (cond : E) (ifs : List Expr) (f : Expr → Bool) : Bool := match ifs with
  | [] => isTrueB cond
  | [c] => f c
  | _ => false
mutual
def chkE (Γ : Gn) (N : List Str) : E → Scope → Bool → Expr → Bool
  | .var i, sc, _, e => match e with
    | .Name x _ => (N[i]? == some x) && isVis sc x && noDbg x
    | _ => false
  | .kN, _, _, e => match e with
    | .Constant .none _ _ => true
    | _ => false
  | .kB b, _, _, e => match e with
    | .Constant (.bool b') _ _ => b == b'
    | _ => false
  | .kI i, _, _, e => match e with
    | .Constant (.int i') _ _ => decide (i = i')
    | _ => false
  | .kS s, _, _, e => match e with
    | .Constant (.str s') _ _ => decide (s = s')
    | _ => false
  | .glob x, sc, _, e => match e with
    | .Name y _ => decide (x = y) && isGl sc y && noDbg y
    | _ => false
  | .bin _ op a b, sc, cm, e => match e with
    | .BinOp l o r _ => decide (op = o) && chkE Γ N a sc cm l && chkE Γ N b sc cm r
    | _ => false
  | .neg a, sc, cm, e => match e with
    | .UnaryOp .USub x _ => chkE Γ N a sc cm x
    | _ => false
  | .not a, sc, cm, e => match e with
    | .UnaryOp .Not x _ => chkE Γ N a sc cm x
    | _ => false
  | .and a b, sc, cm, e => match e with
    | .BoolOp .And (x :: y :: r) pos => chkE Γ N a sc cm x && (match r with | [] => chkE Γ N b sc cm y | _ => chkE Γ N b sc cm (.BoolOp .And (y :: r) pos))
    | _ => false
  | .or a b, sc, cm, e => match e with
    | .BoolOp .Or (x :: y :: r) pos => chkE Γ N a sc cm x && (match r with | [] => chkE Γ N b sc cm y | _ => chkE Γ N b sc cm (.BoolOp .Or (y :: r) pos))
    | _ => false
  | .cmp op a b, sc, cm, e => match e with
    | .Compare l [o] [r] _ => decide (op = o) && chkE Γ N a sc cm l && chkE Γ N b sc cm r && !behindInMarks o r
    | _ => false
  | .chain op op' a b c, sc, cm, e => match e with
    | .Compare l [o, o'] [m, r] _ => decide (op = o) && decide (op' = o') && chkE Γ N a sc cm l && chkE Γ N b sc cm m && chkE Γ N c sc cm r && !lastMarks [o, o'] [m, r]
    | _ => false
  | .ite t a b, sc, cm, e => match e with
    | .IfExp x y z _ => (chkT Γ N t sc cm x || ((plainT x || isCmp x) && chkE Γ N t sc cm x)) && chkE Γ N a sc cm y && chkE Γ N b sc cm z
    | _ => false
  | .nil, _, _, _ => false
  | .cons _ _, _, _, _ => false
  | .kv _ _ _, _, _, _ => false
  | .dic a, sc, cm, e => match e with
    | .Dict ks vs _ => cm && decide (ks.length ≤ 15) && chkP Γ N a sc cm ks vs
    | _ => false
  | .tup a, sc, cm, e => match e with
    | .Tuple es _ _ => chkA Γ N a sc cm es
    | _ => false
  | .lst _ a, sc, cm, e => match e with
    | .List es _ => chkA Γ N a sc cm es
    | _ => false
  | .ix a i, sc, cm, e => match e with
    | .Subscript o x _ => chkE Γ N a sc cm o && chkE Γ N i sc cm x && !isSl x
    | _ => false
  | .slice _ a lo hi, sc, cm, e => match e with
    | .Subscript o (.Slice l u none _) _ => chkE Γ N a sc cm o && (match l with | none => isKN lo | some l => !isKN lo && chkE Γ N lo sc cm l) && (match u with | none => isKN hi | some u => !isKN hi && chkE Γ N hi sc cm u)
    | _ => false
  | .bi f args, sc, cm, e => match e with
    | .Call (.Name x _) (a :: r) [] _ => decide (x = (biStr f : Str)) && biOk f && isGl sc x && Γ.blt x && cm && chkA Γ N args sc cm (a :: r)
    | _ => false
  | .isi t a, sc, cm, e => match e with
    | .Call (.Name x _) [o, .Name y _] [] _ => decide (x = ("isinstance" : Str)) && decide (y = (t : Str)) && decide (t ∈ tyNames) && isGl sc x && Γ.blt x && isGl sc y && Γ.blt y && chkE Γ N a sc cm o && starOk o
    | _ => false
  | .call f args, sc, cm, e => match e with
    | .Call (.Name x _) (a :: r) [] _ => (Γ.fn x == some f) && (Γ.ar f == r.length + 1) && isGl sc x && noDbg x && cm && chkA Γ N args sc cm (a :: r)
    | _ => false
  | .meth m o args, sc, cm, e => match e with
    | .Call (.Attribute x name ap) es [] cp => decide (name = (mtStr m : Str)) && chkE Γ N o sc cm x && !isCall0 x && (ap.endLine == cp.line) && decide (es.length < 29) && chkA Γ N args sc cm es
    | _ => false
  | .lc _ own tg k src cond elt, sc, cm, e => match e with
    | .ListComp el [⟨tgE, it, ifs, a⟩] scope _ => cm && (a == 0) && blkC N sc scope (ownOf N own) && decide ((ownOf N own).map (·.2) = own) && tgIn own tg && chkTg N scope tg [tgE] && tgOne tg
        && itC Γ sc k it tgE (fun e => chkE Γ N src sc cm e) (fun es => chkA Γ N src sc cm es)
        && tsC cond ifs (fun c => chkT Γ N cond scope cm c || ((plainT c || isCmp c) && chkE Γ N cond scope cm c))
        && chkE Γ N elt scope cm el
    | _ => false
  | .lc2 _ own own2 tg k src cond tg2 k2 src2 cond2 elt, sc, cm, e => match e with
    | .ListComp el [⟨tgE, it, ifs, a⟩, ⟨tgE2, it2, ifs2, a2⟩] scope _ => cm && (a == 0) && (a2 == 0) && blkC N sc scope (ownOf N own) && decide ((ownOf N own).map (·.2) = own) && own2.all (fun i => decide (i ∈ own)) && tgIn own tg && tgIn own2 tg2
        && chkTg N scope tg [tgE] && tgOne tg && chkTg N scope tg2 [tgE2] && tgOne tg2
        && itC Γ sc k it tgE (fun e => chkE Γ N src sc cm e) (fun es => chkA Γ N src sc cm es)
        && tsC cond ifs (fun c => chkT Γ N cond scope cm c || ((plainT c || isCmp c) && chkE Γ N cond scope cm c))
        && itC Γ scope k2 it2 tgE2 (fun e => chkE Γ N src2 scope cm e) (fun es => chkA Γ N src2 scope cm es)
        && tsC cond2 ifs2 (fun c => chkT Γ N cond2 scope cm c || ((plainT c || isCmp c) && chkE Γ N cond2 scope cm c))
        && chkE Γ N elt scope cm el
    | _ => false
def chkA (Γ : Gn) (N : List Str) : E → Scope → Bool → List Expr → Bool
  | .nil, _, _, es => match es with
    | [] => true
    | _ => false
  | .cons a b, sc, cm, es => match es with
    | e :: r => chkE Γ N a sc cm e && starOk e && chkA Γ N b sc cm r
    | _ => false
  | _, _, _, _ => false
def chkP (Γ : Gn) (N : List Str) : E → Scope → Bool → List (Option Expr) → List Expr → Bool
  | .nil, _, _, ks, vs => match ks, vs with
    | [], [] => true
    | _, _ => false
  | .kv a b r, sc, cm, ks, vs => match ks, vs with
    | some k :: ks, v :: vs => chkE Γ N a sc cm k && chkE Γ N b sc cm v && chkP Γ N r sc cm ks vs
    | _, _ => false
  | _, _, _, _, _ => false
def chkT (Γ : Gn) (N : List Str) : E → Scope → Bool → Expr → Bool
  | .not a, sc, cm, e => match e with
    | .UnaryOp .Not x _ => (chkT Γ N a sc cm x || ((plainT x || isCmp x) && chkE Γ N a sc cm x))
    | _ => false
  | .and a b, sc, cm, e => match e with
    | .BoolOp .And (x :: y :: r) pos => (chkT Γ N a sc cm x || ((plainT x || isCmp x) && chkE Γ N a sc cm x)) && (match r with | [] => (chkT Γ N b sc cm y || ((plainT y || isCmp y) && chkE Γ N b sc cm y)) | _ => chkT Γ N b sc cm (.BoolOp .And (y :: r) pos))
    | _ => false
  | .or a b, sc, cm, e => match e with
    | .BoolOp .Or (x :: y :: r) pos => (chkT Γ N a sc cm x || ((plainT x || isCmp x) && chkE Γ N a sc cm x)) && (match r with | [] => (chkT Γ N b sc cm y || ((plainT y || isCmp y) && chkE Γ N b sc cm y)) | _ => chkT Γ N b sc cm (.BoolOp .Or (y :: r) pos))
    | _ => false
  | _, _, _, _ => false
end
theorem chkE_nil {Γ : Gn} {N : List Str} {sc : Scope} {cm : Bool} {e : Expr} : chkE Γ N .nil sc cm e = false := by simp only [chkE]
end DI

/-! DI, part X: exceptions of own classes that keep two fields. -/
namespace DI
open PySem PySem.Spec PyProof.Rows L2
section
variable {X : Cx} {e : Expr} {es : List Expr} {ta : TA} {p1 p2 pos : Pos}
/-- what is known of a class above, by whose name __init__ is called -/
structure AboveC (K : PySem.W.Frag) (B : Addr) : Prop where
  ga : PySem.W.specialIn K (.ref B) "__getattribute__" = some (some (.builtin "type.__getattribute__"))
  rd : PySem.W.readsIn K B (.type "type") = true
  vi : PySem.W.findCls K (.ref B) (.type "type") "__init__" = some (.val (.builtin "ValueError.__init__"))
theorem pe_oinit {x : Str} {B : Addr} {pl : Sem Bool} (hg : Gl X x) (hm : X.mg x = some (.ref B)) (T : AboveC X.K B) (hd : (x == ("__debug__" : Str)) = false) (ha : PA X (e :: es) ta)
    (shape : eval (.Call (.Attribute (.Name x p1) "__init__" p2) (e :: es) [] pos) X.env = (do
        let o ← eval (.Name x p1) X.env
        standAt p2.atName
        let (g, fst) ← holding [o] (getMethod o "__init__" pl)
        callWith pos g fst (backTo pos (starEach (e :: es) X.env)) (backToKw pos (keywordEach [] X.env))) := by rfl)
    (st1 : starEach (e :: es) X.env = (false, eval e X.env) :: starEach es X.env := by rfl) (st2 : (backTo pos (starEach es X.env)).any (·.1) = false := by rfl) :
    PE X (.Call (.Attribute (.Name x p1) "__init__" p2) (e :: es) [] pos) (tVeI X.K ta) := ⟨fun pins s σ H Q I t => by
  refine PySem.W.methodCall_KW (ld_glob I hg hm ?_ hd) shape
  refine PySem.W.method_cls I.kIn T.ga (PySem.W.cls_value I.kIn T.rd T.vi (by decide +kernel) ?_)
  show wpAny _ _ (callWith pos (Value.builtin "ValueError.__init__") [] _ []) _ _ _
  refine callWith_method1 (thn (ha.run pos pins _ σ H _ (I.tok _) t) fun us s1 q => ?_) st1 st2
  obtain ⟨vs, H1, I1, r1, a, C, ws, ev, hl, TC, ea, q⟩ := q
  subst ev
  cases r1 with
  | @cons _ u0 _ ur ra rr =>
    obtain rfl : u0 = Value.ref a := ra
    have hw : ur.length ≤ sizeLine := by have := Paired.length rr; rw [sizeLine_eq]; omega
    exact oinit_ok TC I1 ea hw fun s2 J => ⟨.non, H1, J, rfl, q⟩⟩

/-- what __init__(self, u, v) does that keeps its arguments as fa and fb -/
def spInit (K : PySem.W.Frag) (fa fb : Str) : Sp := fun vs H Q _ => ∃ (a C : Addr) (u v : V), vs = [.ref a, u, v] ∧ OexC K C ∧ PySem.W.findIn K (.ref C) fa = some none ∧ PySem.W.findIn K (.ref C) fb = some none ∧ H a = some (exo a C none) ∧
  ∀ d, H d = none → d ≠ a → Q .non (upd (upd (upd H d (exd d [(fa, u)])) a (exo a C (some d))) d (exd d [(fb, v), (fa, u)]))
/-- the text of such an __init__ -/
def InitIs (b : List Stmt) (self n1 n2 fa fb : Str) : Prop := ∃ q1 q2 q3 q4 q5 q6 q7 q8 q9 q10 q11 q12 q13 q14 : Pos, (q2.endLine == q5.line) = true ∧
  b = [.Expr (.Call (.Attribute (.Name "RoadError" q1) "__init__" q2) [.Name self q3, .Name n2 q4] [] q5) q6, .Assign [.Attribute (.Name self q7) fa q8] (.Name n1 q9) q10, .Assign [.Attribute (.Name self q11) fb q12] (.Name n2 q13) q14]
theorem ans_same {K : PySem.W.Frag} {x t : Value} {H : Heap → Prop} (ty : ∀ (M : Model) (h : Heap), K.In h → H h → PySem.W.Looks M h (typeOf x) t) : PySem.Answers (fun s => K.In s.heap ∧ H s.heap) x t true := by
  intro dep tk prog w A R s hs
  obtain ⟨h0, g, d, tt, os⟩ := s
  obtain ⟨⟨kin, hh⟩, hq⟩ := hs
  have look := ty (model prog w) h0 kin hh
  unfold Builtin.«isinstance.nested»
  refine wpAny_bind (look.at ?_)
  rw [if_pos (by simp)]
  first
    | ((repeat lk); exact hq tt)
    | exact wpAny_bind (wpAny_rule (hq tt))
    | exact wpAny_bind (wpAny_rule (wpAny_pure (hq tt)))
/-- isinstance(e, C), e the exception that is caught, of the class C itself -/
theorem call_isX {a C : Addr} {oe : Obj} {cls : Value} {d : Option Addr} {pn : List (Addr × Obj)} (hz : Zc cls d oe) : CallR (X.suite a ((a, oe) :: pn)) (.builtin "isinstance") (fun xs H Q => cls = .ref C ∧ xs = [.ref a, .ref C] ∧ Q (.bl true) H) := by
  intro pins s σ H xs us Q I r q
  obtain ⟨ec, rfl, q⟩ := q
  cases r with
  | cons rx rr =>
    cases rr with
    | cons rt rr =>
      cases rr
      cases rx
      cases rt
      obtain ⟨hget, _⟩ := I.pin (a, oe) (List.mem_append.mpr (.inl List.mem_cons_self))
      have ty : ∀ (M : Model) (h : Heap), X.K.In h → h.get? a = some oe → PySem.W.Looks M h (typeOf (.ref a)) (.ref C) := fun M h _ hh A Q E s k q => wpAny_typeOf_ref (k _ _ hh) (by rw [hz.1, ec]; exact q)
      exact call_isinstance (S := fun _ R s => (X.K.In s.heap ∧ s.heap.get? a = some oe) ∧ ∀ tk, R (.ok (.ret (.bool true))) { s with toks := tk }) (fun prog w A R s hs => isinstance_outer (ans_same ty 0 _ prog w A R s hs) fun z => nomatch z)
        ⟨⟨I.kIn, hget⟩, fun tk => ⟨.bl true, H, I.kept (t' := tk) fun _ _ z => z, rfl, q⟩⟩
end
end DI

/-! DI, part F: expressions keep to their readings. -/
namespace DI
open PySem PySem.Spec PyProof.Rows L2

/-! ### where the code stands -/
structure OkX (W : WX) (k : Nat) (X : Cx) (N : List Str) (sc : Scope) (cm : Bool) : Prop where
  hN : X.N = N
  nd : N.Nodup
  vis : ∀ x, isVis sc x = true → Vis X.env.scope x
  loc : ∀ x, isLoc sc x = true → Loc X.env.scope x ∧ (X.fn x = true ∨ X.env.scope.names.lookup x = some .local)
  gl : ∀ x, isGl sc x = true → Gl X x
  blk : ∀ scope own, blkC N sc scope own = true → BlkOk N X.env.scope scope own
  calm : cm = true → X.calm = true ∧ Room (k + 2) X.A
  units : X.A.units + 65 < cLine
  tk : Takes X W

/-- what the module has: constants, built-ins, defs (by what they do), exception classes -/
structure ModF (G : Glob) (Γ : Gn) (Φ : Nat → List D → Hs → R D) (ca : Nat → Addr) (k : Nat) (P : Program) (w : World) (K : PySem.W.Frag) (mg : Str → Option Value) (base : Heap) : Prop where
  const : ∀ x d, G.const x = some d → ∃ v u, mg x = some u ∧ RelV v u ∧ ∀ ρ n H, Rel K ρ n H d v
  blt : ∀ x, Γ.blt x = true → mg x = none
  fn : ∀ x f, Γ.fn x = some f → ∃ a fd ps, mg x = some (.ref a) ∧ PySem.W.keepIn K (.ref a) = true ∧ Binds K fd ps [] ∧ ps.length = Γ.ar f ∧
    FnOk P w K mg base (L2.CX P w) (k + 2) a fd ps (fun vs H Q E => vs.length = ps.length ∧ ∃ ρ h ds, HR K ca ρ H h ∧ Rels K ρ h.length H ds vs ∧ Post K ca ρ h.length H (Φ f ds h) Q E)
  exc : ∀ x c, Γ.cls x = some c → mg x = some (.ref (ca c)) ∧ PySem.W.keepIn K (.ref (ca c)) = true ∧ PySem.W.excIn K (ca c) [.type "ValueError", .type "Exception", .type "BaseException", .type "object"] "ValueError.__new__" = true ∧
    PySem.W.subIn K (.ref (ca c)) (.type "BaseException") = some true ∧ PySem.W.typeIn K (.ref (ca c)) = some (.type "type")
  clsn : ∀ x c, Γ.cls x = some c → mg x = some (.ref (ca c))
  sub : ∀ c c' b, G.sub c c' = some b → PySem.W.exmOne K (.ref (ca c)) (.ref (ca c')) = some b
  clf : ∀ x c fa fb, Γ.clf x = some (c, fa, fb) → mg x = some (.ref (ca c)) ∧ OexC K (ca c) ∧ XfC K (ca c) ∧ PySem.W.findIn K (.ref (ca c)) fa = some none ∧ PySem.W.findIn K (.ref (ca c)) fb = some none ∧
    ∃ fI fd ps, PySem.W.findIn K (.ref (ca c)) "__init__" = some (some (.ref fI)) ∧ PySem.W.typeIn K (.ref fI) = some (.type "function") ∧ Binds K fd ps [] ∧ FnOk P w K mg base (L2.CX P w) 1 fI fd ps (spInit K fa fb)
abbrev MX (G : Glob) (Γ : Gn) (Φ : Nat → List D → Hs → R D) (ca : Nat → Addr) (k : Nat) (X : Cx) : Prop := ModF G Γ Φ ca k X.prog X.w X.K X.mg X.base

/-! ### targets -/
def tgR (K : PySem.W.Frag) (ca : Nat → Addr) (tg : Tg) (n : Nat) : List V → L2.St → Hp → (L2.St → Hp → Prop) → Prop := fun vs σ H Q => ∃ ρ h sl sl1 ds, HR K ca ρ H h ∧ SlR K ρ h.length H sl σ ∧ Rels K ρ h.length H ds vs ∧ setTg tg ds sl = some sl1 ∧
  ∀ σ', SlR K ρ h.length H sl1 σ' → (∀ own, tgIn own tg = true → wipe σ' own = wipe σ own) → Q σ' H
section
variable {X : Cx} {ca : Nat → Addr} {N : List Str} {sc : Scope} {cm : Bool} {W : WX} {k : Nat}
theorem wipe_set {σ : L2.St} {i : Nat} {v : Option V} : ∀ {own : List Nat}, i ∈ own → wipe (σ.set i v) own = wipe σ own
  | [], h => by cases h
  | j :: r, h => by
    show (wipe (σ.set i v) r).set j none = (wipe σ r).set j none
    by_cases hr : i ∈ r
    · rw [wipe_set hr]
    · have : i = j := by
        rcases List.mem_cons.mp h with e | e
        · exact e
        · exact absurd e hr
      subst this
      rw [wipe_set2 hr, List.set_set]
where
  wipe_set2 : ∀ {σ : L2.St} {i : Nat} {v : Option V} {own : List Nat}, i ∉ own → wipe (σ.set i v) own = (wipe σ own).set i v
    | _, _, _, [], _ => rfl
    | σ, i, v, j :: r, h => by
      show (wipe (σ.set i v) r).set j none = ((wipe σ r).set j none).set i v
      rw [wipe_set2 fun z => h (List.mem_cons_of_mem _ z), List.set_comm _ _ fun z => h (by rw [z]; exact List.mem_cons_self)]
theorem wipe_wipe {σ : L2.St} : ∀ {own : List Nat}, wipe (wipe σ own) own = wipe σ own
  | [] => rfl
  | j :: r => by
    show (wipe ((wipe σ r).set j none) r).set j none = (wipe σ r).set j none
    by_cases hr : j ∈ r
    · rw [wipe_set hr, wipe_wipe]
    · rw [wipe_set.wipe_set2 hr, wipe_wipe, List.set_set]
theorem SlR.wipe {K : PySem.W.Frag} {ρ : Rho} {n : Nat} {H : Hp} {sl : Sl} {σ : L2.St} (s : SlR K ρ n H sl σ) : ∀ own : List Nat, SlR K ρ n H (wipeD sl own) (L2.wipe σ own)
  | [] => s
  | i :: r => (SlR.wipe s r).wipe1 i

theorem assignEach_cons {e : Expr} {es : List Expr} {env : Env} (h : starOk e = true) : assignEach (e :: es) env = (false, assign e env) :: assignEach es env := by
  cases e <;> first | rfl | cases h
theorem chkTg_star : ∀ {tg : Tg} {es : List Expr}, chkTg N sc tg es = true → es.all starOk = true
  | .nm i, es, h => by
    simp only [chkTg] at h
    split at h
    · rfl
    · cases h
  | .nil, es, h => by
    simp only [chkTg] at h
    split at h
    · rfl
    · cases h
  | .cons a b, es, h => by
    simp only [chkTg] at h
    split at h
    · rw [Bool.and_eq_true, Bool.and_eq_true, Bool.and_eq_true] at h
      rw [List.all_cons, Bool.and_eq_true]
      exact ⟨h.1.2, chkTg_star h.1.1.2⟩
    · cases h
  | .tup a, es, h => by
    simp only [chkTg] at h
    split at h
    · rfl
    · cases h
theorem assignEach_find {env : Env} : ∀ {es : List Expr}, es.all starOk = true → (assignEach es env).findIdx? (·.1) = none ∧ (assignEach es env).length = es.length
  | [], _ => ⟨rfl, rfl⟩
  | e :: es, h => by
    rw [List.all_cons, Bool.and_eq_true] at h
    rw [assignEach_cons h.1]
    obtain ⟨h1, h2⟩ := assignEach_find (env := env) h.2
    refine ⟨?_, by simp [h2]⟩
    rw [List.findIdx?_cons, h1]
    rfl
theorem setTg_len : ∀ {tg : Tg} {ds : List D} {es : List Expr} {sl sl1 : Sl}, setTg tg ds sl = some sl1 → chkTg N sc tg es = true → ds.length = es.length
  | .nm i, ds, es, sl, sl1, h, hc => by
    simp only [chkTg] at hc
    simp only [setTg] at h
    split at hc
    · split at h
      · rfl
      · cases h
    · cases hc
  | .nil, ds, es, sl, sl1, h, hc => by
    simp only [chkTg] at hc
    simp only [setTg] at h
    split at hc
    · split at h
      · rfl
      · cases h
    · cases hc
  | .cons a b, ds, es, sl, sl1, h, hc => by
    simp only [chkTg] at hc
    simp only [setTg] at h
    split at hc
    · rw [Bool.and_eq_true, Bool.and_eq_true, Bool.and_eq_true] at hc
      split at h
      · split at h
        · simp [setTg_len h hc.1.1.2]
        · cases h
      · cases h
    · cases hc
  | .tup a, ds, es, sl, sl1, h, hc => by
    simp only [chkTg] at hc
    simp only [setTg] at h
    split at hc
    · split at h
      · rfl
      · rfl
      · rfl
      · cases h
    · cases hc

mutual
theorem pg_D (o : OkX W k X N sc cm) (hc : X.calm = true) : ∀ {tg : Tg} {e : Expr}, chkTg N sc tg [e] = true → tgOne tg = true → PG X e (fun v => tgR X.K ca tg 1 [v])
  | .nm i, e, h, _ => by
    simp only [chkTg] at h
    split at h
    · rename_i x pos z
      cases z
      rw [Bool.and_eq_true] at h
      have hx := o.loc x h.2
      have hN : X.N[i]? = some x := by rw [o.hN]; exact eq_of_beq h.1
      refine ⟨fun pins s σ H v u Q I r q => ?_⟩
      obtain ⟨ρ, hp, sl, sl1, ds, hr, hs, rs, e, q⟩ := q
      simp only [setTg] at e
      split at e
      · rename_i d
        cases e
        obtain ⟨v', ev, qd⟩ := rs.one
        cases ev
        refine (pg_name (o.hN ▸ o.nd) hN hx.1 hx.2).run pins s σ H v u Q I r ?_
        exact q _ (hs.set qd i) fun own ho => wipe_set (of_decide_eq_true ho)
      · cases e
    · cases h
  | .tup a, e, h, _ => by
    simp only [chkTg] at h
    split at h
    · rename_i ts k1 p1 z
      cases z
      have h1 := pgs_D o hc h
      have st := assignEach_find (env := X.env) (chkTg_star h)
      refine ⟨fun pins s σ H v u Q I r q => ?_⟩
      obtain ⟨ρ, hp, sl, sl1, ds, hr, hs, rs, e, q⟩ := q
      simp only [setTg] at e
      split at e
      · rename_i xs
        obtain ⟨v', ev, qd⟩ := rs.one
        cases ev
        obtain ⟨b, ws, rfl, hT, rs1⟩ := qd.isTup
        refine (pg_tup (n := ts.length) hc h1 st.2 st.1).run pins s σ H _ u Q I r ?_
        exact ⟨b, ws, rfl, hT, by rw [rs1.length]; exact setTg_len e h, ρ, hp, sl, sl1, xs, hr, hs, rs1, e, fun σ' hs' hw' => q σ' hs' hw'⟩
      · rename_i xs
        obtain ⟨v', ev, qd⟩ := rs.one
        cases ev
        cases qd with
        | lst hT hn rs1 =>
          refine (pg_lst (n := ts.length) hc h1 st.2 st.1).run pins s σ H _ u Q I r ?_
          exact ⟨_, _, rfl, SqL.of hT, by rw [rs1.length]; exact setTg_len e h, ρ, hp, sl, sl1, xs, hr, hs, rs1, e, fun σ' hs' hw' => q σ' hs' hw'⟩
      · rename_i xs
        obtain ⟨v', ev, qd⟩ := rs.one
        cases ev
        cases qd with
        | fro hT hn rs1 =>
          refine (pg_lst (n := ts.length) hc h1 st.2 st.1).run pins s σ H _ u Q I r ?_
          exact ⟨_, _, rfl, .inl (.inr hT), by rw [rs1.length]; exact setTg_len e h, ρ, hp, sl, sl1, xs, hr, hs, rs1, e, fun σ' hs' hw' => q σ' hs' hw'⟩
        | frk hT rs1 =>
          refine (pg_lst (n := ts.length) hc h1 st.2 st.1).run pins s σ H _ u Q I r ?_
          exact ⟨_, _, rfl, .inr hT, by rw [rs1.length]; exact setTg_len e h, ρ, hp, sl, sl1, xs, hr, hs, rs1, e, fun σ' hs' hw' => q σ' hs' hw'⟩
      · cases e
    · cases h
  | .nil, e, h, z => by cases z
  | .cons a b, e, h, z => by cases z
theorem pgs_D (o : OkX W k X N sc cm) (hc : X.calm = true) : ∀ {tg : Tg} {es : List Expr}, chkTg N sc tg es = true → PGs X es (tgR X.K ca tg es.length)
  | .nm i, es, h => by
    simp only [chkTg] at h
    split at h
    · rename_i x pos
      rw [Bool.and_eq_true] at h
      have hx := o.loc x h.2
      have hN : X.N[i]? = some x := by rw [o.hN]; exact eq_of_beq h.1
      refine ⟨fun pins s σ H vs us Q I r q => ?_⟩
      obtain ⟨ρ, hp, sl, sl1, ds, hr, hs, rs, e, q⟩ := q
      simp only [setTg] at e
      split at e
      · rename_i d
        cases e
        obtain ⟨v, rfl, qd⟩ := rs.one
        refine (pgs_cons (pg_name (o.hN ▸ o.nd) hN hx.1 hx.2) pgs_nil).run pins s σ H [v] us Q I r ?_
        refine ⟨v, [], rfl, rfl, q _ (hs.set qd i) fun own ho => ?_⟩
        exact wipe_set (of_decide_eq_true ho)
      · cases e
    · cases h
  | .nil, es, h => by
    simp only [chkTg] at h
    split at h
    · refine ⟨fun pins s σ H vs us Q I r q => ?_⟩
      obtain ⟨ρ, hp, sl, sl1, ds, hr, hs, rs, e, q⟩ := q
      simp only [setTg] at e
      split at e
      · cases e
        cases rs
        exact pgs_nil.run pins s σ H [] us Q I r ⟨rfl, q σ hs fun _ _ => rfl⟩
      · cases e
    · cases h
  | .cons a b, es, h => by
    simp only [chkTg] at h
    split at h
    · rename_i e1 es1
      rw [Bool.and_eq_true, Bool.and_eq_true, Bool.and_eq_true] at h
      have h1 := pg_D o hc h.1.1.1 h.2
      have h2 := pgs_D o hc h.1.1.2
      refine ⟨fun pins s σ H vs us Q I r q => ?_⟩
      obtain ⟨ρ, hp, sl, sl1, ds, hr, hs, rs, e, q⟩ := q
      simp only [setTg] at e
      split at e
      · rename_i d ds1
        split at e
        · rename_i sl2 e2
          cases rs with
          | cons qd rs =>
            cases r with
            | cons r rr =>
              rw [assignEach_cons h.1.2]
              have g1 := h1.run pins s σ H _ _ (fun σ1 H1 => H1 = H ∧ SlR X.K ρ hp.length H sl2 σ1 ∧ ∀ own, tgIn own a = true → wipe σ1 own = wipe σ own) I r
                ⟨ρ, hp, sl, sl2, [d], hr, hs, .cons qd .nil, e2, fun σ1 hs1 hw => ⟨rfl, hs1, hw⟩⟩
              refine assignInOrder_cons (thn g1 fun _ s1 hx => ?_)
              obtain ⟨σ1, H1, I1, eH, hs1, hw1⟩ := hx
              subst eH
              refine h2.run pins s1 σ1 H1 _ _ Q I1 rr ⟨ρ, hp, sl2, sl1, ds1, hr, hs1, rs, e, fun σ2 hs2 hw2 => q σ2 hs2 fun own ho => ?_⟩
              have ho' := Bool.and_eq_true_iff.mp ho
              rw [hw2 own ho'.2, hw1 own ho'.1]
        · cases e
      · cases e
    · cases h
  | .tup a, es, h => by
    simp only [chkTg] at h
    split at h
    · rename_i ts k1 p1
      have h1 := pgs_D o hc h
      have st := assignEach_find (env := X.env) (chkTg_star h)
      refine ⟨fun pins s σ H vs us Q I r q => ?_⟩
      obtain ⟨ρ, hp, sl, sl1, ds, hr, hs, rs, e, q⟩ := q
      simp only [setTg] at e
      split at e
      · rename_i xs
        obtain ⟨v, rfl, qd⟩ := rs.one
        obtain ⟨b, ws, rfl, hT, rs1⟩ := qd.isTup
        refine (pgs_cons (pg_tup (n := ts.length) hc h1 st.2 st.1) pgs_nil).run pins s σ H _ us Q I r ?_
        exact ⟨_, [], rfl, b, ws, rfl, hT, by rw [rs1.length]; exact setTg_len e h, ρ, hp, sl, sl1, xs, hr, hs, rs1, e, fun σ' hs' hw' => ⟨rfl, q σ' hs' hw'⟩⟩
      · rename_i xs
        obtain ⟨v, rfl, qd⟩ := rs.one
        cases qd with
        | lst hT hn rs1 =>
          refine (pgs_cons (pg_lst (n := ts.length) hc h1 st.2 st.1) pgs_nil).run pins s σ H _ us Q I r ?_
          exact ⟨_, [], rfl, _, _, rfl, SqL.of hT, by rw [rs1.length]; exact setTg_len e h, ρ, hp, sl, sl1, xs, hr, hs, rs1, e, fun σ' hs' hw' => ⟨rfl, q σ' hs' hw'⟩⟩
      · rename_i xs
        obtain ⟨v, rfl, qd⟩ := rs.one
        cases qd with
        | fro hT hn rs1 =>
          refine (pgs_cons (pg_lst (n := ts.length) hc h1 st.2 st.1) pgs_nil).run pins s σ H _ us Q I r ?_
          exact ⟨_, [], rfl, _, _, rfl, .inl (.inr hT), by rw [rs1.length]; exact setTg_len e h, ρ, hp, sl, sl1, xs, hr, hs, rs1, e, fun σ' hs' hw' => ⟨rfl, q σ' hs' hw'⟩⟩
        | frk hT rs1 =>
          refine (pgs_cons (pg_lst (n := ts.length) hc h1 st.2 st.1) pgs_nil).run pins s σ H _ us Q I r ?_
          exact ⟨_, [], rfl, _, _, rfl, .inr hT, by rw [rs1.length]; exact setTg_len e h, ρ, hp, sl, sl1, xs, hr, hs, rs1, e, fun σ' hs' hw' => ⟨rfl, q σ' hs' hw'⟩⟩
      · cases e
    · cases h
end
end
end DI

/-! DI, part G: what is walked; expressions keep to their readings. -/
namespace DI
open PySem PySem.Spec PyProof.Rows L2

structure ItOk (K : PySem.W.Frag) (ca : Nat → Addr) (ρ1 : Rho) (n1 : Nat) (H1 : Hp) (k : ItK) (v : D) (items : List D) (J : It) : Prop where
  go : ∀ ρ' H' h' i, HR K ca ρ' H' h' → ExtW ρ1 n1 H1 ρ' h'.length H' → itemsOf k v h' = some items → i < items.length → J.go i H'
  stop : ∀ ρ' H' h' i, HR K ca ρ' H' h' → ExtW ρ1 n1 H1 ρ' h'.length H' → itemsOf k v h' = some items → items.length ≤ i → J.stop i H'
  yld : ∀ ρ' H' h' i d x H'', HR K ca ρ' H' h' → ExtW ρ1 n1 H1 ρ' h'.length H' → itemsOf k v h' = some items → items[i]? = some d → J.yld i H' x H'' →
    HR K ca ρ' H'' h' ∧ Ext ρ' h'.length H' ρ' h'.length H'' ∧ Rel K ρ' h'.length H'' d x

def itR (K : PySem.W.Frag) (ca : Nat → Addr) (W : WX) (k : ItK) (ev : Sl → Hs → R D) : TI := fun σ H R => ∃ ρ h sl, HR K ca ρ H h ∧ SlR K ρ h.length H sl σ ∧ match ev sl h with
  | .ok v h1 => ∃ items, itemsOf k v h1 = some items ∧ ∀ ρ1 H1 J, HR K ca ρ1 H1 h1 → Ext ρ h.length H ρ1 h1.length H1 → ItOk K ca ρ1 h1.length H1 k v items J → R J H1
  | .ex x h' => ∀ ρ' H' cls dd, HR K ca ρ' H' h' → Ext ρ h.length H ρ' h'.length H' → XRel K ca ρ' h'.length H' x cls dd → W cls dd σ H'
  | .stuck => False

section
variable {K : PySem.W.Frag} {ca : Nat → Addr} {ρ ρ1 : Rho} {H H1 : Hp} {h h1 : Hs} {v : D} {x : V} {items : List D}
theorem it_tup {xs : List D} {a : Addr} {vs : List V} (r : HR K ca ρ1 H1 h1) (hs : SqT K H1 a vs) (rs : Rels K ρ1 h1.length H1 xs vs) : ItOk K ca ρ1 h1.length H1 .seq (.tup xs) xs (Itt K a) where
  go := fun ρ' H' h' i r' e' hi hl => by
    obtain ⟨d, hd⟩ : ∃ d, xs[i]? = some d := ⟨xs[i], List.getElem?_eq_getElem hl⟩
    obtain ⟨w, hw, _⟩ := rs.get hd
    exact ⟨vs, w, e'.sqT r hs, hw⟩
  stop := fun ρ' H' h' i r' e' hi hl => ⟨vs, e'.sqT r hs, by rw [rs.length]; exact hl⟩
  yld := fun ρ' H' h' i d x H'' r' e' hi hd hy => by
    obtain ⟨rfl, hy⟩ := hy
    obtain ⟨w, hw, qw⟩ := rs.get hd
    have := hy vs (e'.sqT r hs)
    rw [hw] at this
    cases this
    exact ⟨r', Ext.refl, qw.monoW e' r⟩
theorem it_lst {a : Addr} (r : HR K ca ρ1 H1 h1) (q : Rel K ρ1 h1.length H1 v (.ref a)) (hv : ∀ xs, v ≠ .tup xs) (e0 : seqOf h1 v = some items) : ItOk K ca ρ1 h1.length H1 .seq v items (Itl K a) := by
  have sq : ∀ ρ' H' h', HR K ca ρ' H' h' → ExtW ρ1 h1.length H1 ρ' h'.length H' → itemsOf .seq v h' = some items → ∃ vs, SqL K H' a vs ∧ Rels K ρ' h'.length H' items vs := fun ρ' H' h' r' e' hi => by
    have q' := q.monoW e' r
    have hi' : seqOf h' v = some items := by
      cases v with
      | str z => cases e0
      | _ => exact hi
    cases q' with
    | tup _ _ => exact absurd rfl (hv _)
    | lst q3 hn rs => cases hi'; exact ⟨_, SqL.of q3, rs⟩
    | fro q3 hn rs => cases hi'; exact ⟨_, .inl (.inr q3), rs⟩
    | frk q3 rs => cases hi'; exact ⟨_, .inr q3, rs⟩
    | ref hm =>
      simp only [seqOf] at hi'
      split at hi'
      · rename_i z
        cases hi'
        obtain ⟨vs, h1, h2⟩ := Rel.cellLst r' z
        exact ⟨vs, SqL.of h1, h2⟩
      · cases hi'
  exact {
    go := fun ρ' H' h' i r' e' hi hl => by
      obtain ⟨vs, hs, rs⟩ := sq ρ' H' h' r' e' hi
      obtain ⟨w, hw, _⟩ := rs.get (List.getElem?_eq_getElem hl)
      exact ⟨vs, w, hs, hw⟩
    stop := fun ρ' H' h' i r' e' hi hl => by
      obtain ⟨vs, hs, rs⟩ := sq ρ' H' h' r' e' hi
      exact ⟨vs, hs, by rw [rs.length]; exact hl⟩
    yld := fun ρ' H' h' i d x H'' r' e' hi hd hy => by
      obtain ⟨rfl, hy⟩ := hy
      obtain ⟨vs, hs, rs⟩ := sq ρ' _ h' r' e' hi
      obtain ⟨w, hw, qw⟩ := rs.get hd
      have := hy vs hs
      rw [hw] at this
      cases this
      exact ⟨r', Ext.refl, qw⟩ }
theorem it_str {z : Str} : ItOk K ca ρ1 h1.length H1 .seq (.str z) (z.cps.toList.map fun c => .str ⟨#[c]⟩) (Its z) where
  go := fun ρ' H' h' i r' e' hi hl => by
    show i < z.cps.size
    simpa using hl
  stop := fun ρ' H' h' i r' e' hi hl => by
    show z.cps.size ≤ i
    simpa using hl
  yld := fun ρ' H' h' i d x H'' r' e' hi hd hy => by
    obtain ⟨rfl, c, hc, rfl⟩ := hy
    rw [List.getElem?_map] at hd
    have : z.cps.toList[i]? = some c := by simpa using hc
    rw [this] at hd
    cases hd
    exact ⟨r', Ext.refl, .str _⟩
theorem rangeD_get {lo hi : Int} {i : Nat} {d : D} (e : (rangeD lo hi)[i]? = some d) : d = .int (lo + (i : Int)) := by
  unfold rangeD at e
  rw [List.getElem?_map] at e
  cases z : (List.range (hi - lo).toNat)[i]? with
  | none => rw [z] at e; cases e
  | some j =>
    rw [z] at e
    cases e
    have := (List.getElem?_eq_some_iff.mp z)
    obtain ⟨h1, h2⟩ := this
    rw [List.getElem_range] at h2
    rw [h2]
theorem it_range {lo hi : Int} {u : D} {k : ItK} : ItOk K ca ρ1 h1.length H1 k u (rangeD lo hi) (Itr lo (hi - lo).toNat) where
  go := fun ρ' H' h' i r' e' _ hl => by
    show i < (hi - lo).toNat
    simpa [rangeD] using hl
  stop := fun ρ' H' h' i r' e' _ hl => by
    show (hi - lo).toNat ≤ i
    simpa [rangeD] using hl
  yld := fun ρ' H' h' i d x H'' r' e' _ hd hy => by
    obtain ⟨rfl, rfl⟩ := hy
    rw [rangeD_get hd]
    exact ⟨r', Ext.refl, .int _⟩
theorem enumD_get : ∀ {xs : List D} {n i : Nat} {d : D}, (enumD n xs)[i]? = some d → ∃ x, xs[i]? = some x ∧ d = .tup [.int ((n + i : Nat) : Int), x]
  | [], n, i, d, e => by simp [enumD] at e
  | x :: xs, n, 0, d, e => by simp [enumD] at e; exact ⟨x, rfl, by simp [← e]⟩
  | x :: xs, n, i + 1, d, e => by
    simp only [enumD, List.getElem?_cons_succ] at e
    obtain ⟨y, h1, h2⟩ := enumD_get e
    exact ⟨y, by simpa using h1, by rw [h2]; congr 4; omega⟩
theorem enumD_len : ∀ {xs : List D} {n : Nat}, (enumD n xs).length = xs.length
  | [], _ => rfl
  | x :: xs, n => congrArg (· + 1) (enumD_len (n := n + 1))
theorem it_enum {a : Addr} {xs : List D} (r : HR K ca ρ1 H1 h1) (q : Rel K ρ1 h1.length H1 v (.ref a)) (e0 : isLst h1 v = some xs) : ItOk K ca ρ1 h1.length H1 .enum (.tup [v]) (enumD 0 xs) (Ite K a) := by
  have sq : ∀ ρ' H' h', HR K ca ρ' H' h' → ExtW ρ1 h1.length H1 ρ' h'.length H' → itemsOf .enum (.tup [v]) h' = some (enumD 0 xs) → ∃ ys vs, SqL K H' a vs ∧ Rels K ρ' h'.length H' ys vs ∧ enumD 0 ys = enumD 0 xs := fun ρ' H' h' r' e' hi => by
    have q' := q.monoW e' r
    simp only [itemsOf] at hi
    cases e1 : isLst h' v with
    | none => rw [e1] at hi; cases hi
    | some ys =>
      rw [e1] at hi
      obtain ⟨b, vs, eb, h2, rs⟩ := q'.isLst r' e1
      cases eb
      exact ⟨ys, vs, SqL.of h2, rs, Option.some.inj hi⟩
  exact {
    go := fun ρ' H' h' i r' e' hi hl => by
      obtain ⟨ys, vs, hs, rs, ee⟩ := sq ρ' H' h' r' e' hi
      have hl' : i < ys.length := by rw [← ee, enumD_len] at hl; exact hl
      obtain ⟨w, hw, _⟩ := rs.get (List.getElem?_eq_getElem hl')
      exact ⟨vs, w, hs, hw⟩
    stop := fun ρ' H' h' i r' e' hi hl => by
      obtain ⟨ys, vs, hs, rs, ee⟩ := sq ρ' H' h' r' e' hi
      have hl' : ys.length ≤ i := by rw [← ee, enumD_len] at hl; exact hl
      exact ⟨vs, hs, by rw [rs.length]; exact hl'⟩
    yld := fun ρ' H' h' i d x H'' r' e' hi hd hy => by
      obtain ⟨T, y, rfl, hT, rfl, hy⟩ := hy
      obtain ⟨ys, vs, hs, rs, ee⟩ := sq ρ' H' h' r' e' hi
      rw [← ee] at hd
      obtain ⟨dx, h2, rfl⟩ := enumD_get hd
      obtain ⟨w, hw, qw⟩ := rs.get h2
      have := hy vs hs
      rw [hw] at this
      cases this
      obtain ⟨r2, e2⟩ := r'.new hT (.tup [.int (i : Nat), y])
      refine ⟨r2, e2, .tup (.inl (.inl upd_same)) (.cons ?_ (.cons (qw.mono e2 r') .nil))⟩
      rw [Nat.zero_add]
      exact .int _ }
theorem zipD_get : ∀ {xs ys : List D} {i : Nat} {d : D}, (zipD xs ys)[i]? = some d → ∃ x y, xs[i]? = some x ∧ ys[i]? = some y ∧ d = .tup [x, y]
  | [], ys, i, d, e => by cases ys <;> simp [zipD] at e
  | x :: xs, [], i, d, e => by simp [zipD] at e
  | x :: xs, y :: ys, 0, d, e => by simp [zipD] at e; exact ⟨x, y, rfl, rfl, e.symm⟩
  | x :: xs, y :: ys, i + 1, d, e => by
    simp only [zipD, List.getElem?_cons_succ] at e
    obtain ⟨a, b, h1, h2, h3⟩ := zipD_get e
    exact ⟨a, b, by simpa using h1, by simpa using h2, h3⟩
theorem zipD_len : ∀ {xs ys : List D}, (zipD xs ys).length = min xs.length ys.length
  | [], ys => by cases ys <;> simp [zipD]
  | x :: xs, [] => by simp [zipD]
  | x :: xs, y :: ys => by simp only [zipD, List.length_cons, zipD_len (xs := xs) (ys := ys)]; omega
theorem it_zip {a b : Addr} {v2 : D} {xs ys : List D} (r : HR K ca ρ1 H1 h1) (q : Rel K ρ1 h1.length H1 v (.ref a)) (q2 : Rel K ρ1 h1.length H1 v2 (.ref b)) (e0 : isLst h1 v = some xs) (e1 : isLst h1 v2 = some ys) :
    ItOk K ca ρ1 h1.length H1 .zip (.tup [v, v2]) (zipD xs ys) (Itz K a b) := by
  have sq : ∀ ρ' H' h', HR K ca ρ' H' h' → ExtW ρ1 h1.length H1 ρ' h'.length H' → itemsOf .zip (.tup [v, v2]) h' = some (zipD xs ys) → ∃ xs' ys' vs ws, SqL K H' a vs ∧ SqL K H' b ws ∧ Rels K ρ' h'.length H' xs' vs ∧ Rels K ρ' h'.length H' ys' ws ∧ zipD xs' ys' = zipD xs ys := fun ρ' H' h' r' e' hi => by
    have q' := q.monoW e' r
    have q2' := q2.monoW e' r
    simp only [itemsOf] at hi
    split at hi
    · rename_i xs' ys' z1 z2
      obtain ⟨b1, vs, eb, h2, rs⟩ := q'.isLst r' z1
      cases eb
      obtain ⟨b2, ws, eb, h3, rs2⟩ := q2'.isLst r' z2
      cases eb
      exact ⟨xs', ys', vs, ws, SqL.of h2, SqL.of h3, rs, rs2, Option.some.inj hi⟩
    · cases hi
  exact {
    go := fun ρ' H' h' i r' e' hi hl => by
      obtain ⟨xs', ys', vs, ws, hs, hs2, rs, rs2, ee⟩ := sq ρ' H' h' r' e' hi
      rw [← ee, zipD_len] at hl
      obtain ⟨w, hw, _⟩ := rs.get (List.getElem?_eq_getElem (show i < xs'.length by omega))
      obtain ⟨u, hu, _⟩ := rs2.get (List.getElem?_eq_getElem (show i < ys'.length by omega))
      exact ⟨vs, ws, w, u, hs, hs2, hw, hu⟩
    stop := fun ρ' H' h' i r' e' hi hl => by
      obtain ⟨xs', ys', vs, ws, hs, hs2, rs, rs2, ee⟩ := sq ρ' H' h' r' e' hi
      rw [← ee, zipD_len] at hl
      exact ⟨vs, ws, hs, hs2, by rw [rs.length, rs2.length]; omega⟩
    yld := fun ρ' H' h' i d x H'' r' e' hi hd hy => by
      obtain ⟨T, y, z, rfl, hT, rfl, hy, hz⟩ := hy
      obtain ⟨xs', ys', vs, ws, hs, hs2, rs, rs2, ee⟩ := sq ρ' H' h' r' e' hi
      rw [← ee] at hd
      obtain ⟨dx, dy, h2, h3, rfl⟩ := zipD_get hd
      obtain ⟨w, hw, qw⟩ := rs.get h2
      obtain ⟨u, hu, qu⟩ := rs2.get h3
      have t1 := hy vs hs
      have t2 := hz ws hs2
      rw [hw] at t1
      rw [hu] at t2
      cases t1
      cases t2
      obtain ⟨r2, e2⟩ := r'.new hT (.tup [y, z])
      exact ⟨r2, e2, .tup (.inl (.inl upd_same)) (.cons (qw.mono e2 r') (.cons (qu.mono e2 r') .nil))⟩ }
end

theorem Rel.seqL {K : PySem.W.Frag} {ca : Nat → Addr} {ρ : Rho} {H : Hp} {h : Hs} {d : D} {v : V} {xs : List D} (q : Rel K ρ h.length H d v) (r : HR K ca ρ H h) (hv : ∀ xs, d ≠ .tup xs) (e : seqOf h d = some xs) : ∃ a vs, v = .ref a ∧ SqL K H a vs ∧ Rels K ρ h.length H xs vs := by
  cases q with
  | tup _ _ => exact absurd rfl (hv _)
  | lst q hn rs => cases e; exact ⟨_, _, rfl, SqL.of q, rs⟩
  | fro q hn rs => cases e; exact ⟨_, _, rfl, .inl (.inr q), rs⟩
  | frk q rs => cases e; exact ⟨_, _, rfl, .inr q, rs⟩
  | ref hm =>
    simp only [seqOf] at e
    split at e
    · rename_i z
      cases e
      obtain ⟨vs, h1, h2⟩ := Rel.cellLst r z
      exact ⟨_, vs, rfl, SqL.of h1, h2⟩
    · cases e
  | non => cases e
  | bl _ => cases e
  | int _ => cases e
  | str _ => cases e
/-! ### what is walked, by its text -/
section
variable {X : Cx} {ca : Nat → Addr} {W : WX} {tg : Expr} {ev : Sl → Hs → R D}
theorem pi_seqD {l : Expr} (hl : PE X l (tD X.K ca W ev)) : PI X tg l (itR X.K ca W .seq ev) := by
  refine ⟨fun pins s σ H R I hw => ?_⟩
  obtain ⟨ρ, h, sl, r, hs, m⟩ := hw
  cases e : ev sl h with
  | stuck => rw [e] at m; exact m.elim
  | ex x h' =>
    rw [e] at m
    exact (pi_tup hl).run pins s σ H R I ⟨ρ, h, sl, r, hs, by rw [e]; exact m⟩
  | ok v h1 =>
    rw [e] at m
    obtain ⟨items, hi, m⟩ := m
    cases v with
    | str z =>
      cases hi
      exact (pi_str hl).run pins s σ H R I ⟨ρ, h, sl, r, hs, by
        rw [e]
        intro ρ' H' v r' e' q
        exact ⟨z, q.isStr, m ρ' H' _ r' e' it_str⟩⟩
    | tup xs =>
      cases hi
      exact (pi_tup hl).run pins s σ H R I ⟨ρ, h, sl, r, hs, by
        rw [e]
        intro ρ' H' v r' e' q
        obtain ⟨a, vs, rfl, q1, rs⟩ := q.isTup
        exact ⟨a, rfl, ⟨vs, q1⟩, m ρ' H' _ r' e' (it_tup r' q1 rs)⟩⟩
    | non => cases hi
    | bl _ => cases hi
    | int _ => cases hi
    | lst xs =>
      exact (pi_list hl).run pins s σ H R I ⟨ρ, h, sl, r, hs, by
        rw [e]
        intro ρ' H' v r' e' q
        obtain ⟨a, vs, rfl, q1, rs⟩ := q.seqL r' (fun _ => D.noConfusion) hi
        exact ⟨a, rfl, ⟨vs, q1⟩, m ρ' H' _ r' e' (it_lst r' q (fun _ => D.noConfusion) hi)⟩⟩
    | fro xs =>
      exact (pi_list hl).run pins s σ H R I ⟨ρ, h, sl, r, hs, by
        rw [e]
        intro ρ' H' v r' e' q
        obtain ⟨a, vs, rfl, q1, rs⟩ := q.seqL r' (fun _ => D.noConfusion) hi
        exact ⟨a, rfl, ⟨vs, q1⟩, m ρ' H' _ r' e' (it_lst r' q (fun _ => D.noConfusion) hi)⟩⟩
    | ref k =>
      exact (pi_list hl).run pins s σ H R I ⟨ρ, h, sl, r, hs, by
        rw [e]
        intro ρ' H' v r' e' q
        obtain ⟨a, vs, rfl, q1, rs⟩ := q.seqL r' (fun _ => D.noConfusion) hi
        exact ⟨a, rfl, ⟨vs, q1⟩, m ρ' H' _ r' e' (it_lst r' q (fun _ => D.noConfusion) hi)⟩⟩

/-- an argument list ahead of an iterator -/
theorem argI {σ : L2.St} {H : Hp} {R : It → Hp → Prop} {k : ItK} (hk : ∀ v h items, itemsOf k v h = some items → ∃ xs, v = .tup xs) (hw : itR X.K ca W k ev σ H R) :
    tA X.K ca W ev σ H (fun vs H1 => ∃ ρ1 h1 ds items, HR X.K ca ρ1 H1 h1 ∧ Rels X.K ρ1 h1.length H1 ds vs ∧ itemsOf k (.tup ds) h1 = some items ∧ ∀ J, ItOk X.K ca ρ1 h1.length H1 k (.tup ds) items J → R J H1) := by
  obtain ⟨ρ, h, sl, r, hs, m⟩ := hw
  refine ⟨ρ, h, sl, r, hs, ?_⟩
  cases e : ev sl h with
  | ok d h' =>
    rw [e] at m
    obtain ⟨items, hi, m⟩ := m
    obtain ⟨xs, rfl⟩ := hk _ _ _ hi
    exact ⟨xs, rfl, fun ρ' H' vs r' e' q => ⟨ρ', h', xs, items, r', q, hi, fun J hJ => m ρ' H' J r' e' hJ⟩⟩
  | ex x h' => rw [e] at m; exact m
  | stuck => rw [e] at m; exact m
theorem pi_range1D {a : Expr} {p pos : Pos} (hg : Gl X "range") (hm : X.mg "range" = none) (hst : starOk a = true) (ha : PA X [a] (tA X.K ca W ev)) :
    PI X tg (.Call (.Name "range" p) [a] [] pos) (itR X.K ca W .range1 ev) := by
  have hk : ∀ v h items, itemsOf .range1 v h = some items → ∃ xs, v = .tup xs := fun v h items e => by
    simp only [itemsOf] at e
    split at e <;> first | exact ⟨_, rfl⟩ | cases e
  refine ⟨fun pins s σ H R I hw => (pi_range1 hg hm ha (starEach_cons hst)).run pins s σ H R I ((argI hk hw).imp fun vs H1 q => ?_)⟩
  obtain ⟨ρ1, h1, ds, items, r1, rs, hi, m⟩ := q
  simp only [itemsOf] at hi
  split at hi
  · rename_i n e
    cases e
    split at hi
    · rename_i hn
      cases hi
      obtain ⟨v, rfl, q⟩ := rs.one
      exact ⟨n, by rw [q.isInt], hn.1, hn.2, by have := m _ (it_range (lo := 0) (hi := n)); rw [Int.sub_zero] at this; exact this⟩
    · cases hi
  · cases hi
theorem pi_range2D {a b : Expr} {p pos : Pos} (hg : Gl X "range") (hm : X.mg "range" = none) (hst : starOk a = true) (hst2 : starOk b = true) (ha : PA X [a, b] (tA X.K ca W ev)) :
    PI X tg (.Call (.Name "range" p) [a, b] [] pos) (itR X.K ca W .range2 ev) := by
  have hk : ∀ v h items, itemsOf .range2 v h = some items → ∃ xs, v = .tup xs := fun v h items e => by
    simp only [itemsOf] at e
    split at e <;> first | exact ⟨_, rfl⟩ | cases e
  refine ⟨fun pins s σ H R I hw => (pi_range2 hg hm ha (by rw [starEach_cons hst, starEach_cons hst2]; rfl) (starEach_cons hst2)).run pins s σ H R I ((argI hk hw).imp fun vs H1 q => ?_)⟩
  obtain ⟨ρ1, h1, ds, items, r1, rs, hi, m⟩ := q
  simp only [itemsOf] at hi
  split at hi
  · rename_i n n' e
    cases e
    split at hi
    · rename_i hn
      cases hi
      obtain ⟨v, w, rfl, q, q2⟩ := rs.two
      exact ⟨n, n', by rw [q.isInt, q2.isInt], hn, m _ it_range⟩
    · cases hi
  · cases hi
theorem pi_enumD {a : Expr} {elts : List Expr} {kk : Nat} {tp p pos : Pos} (hg : Gl X "enumerate") (hm : X.mg "enumerate" = none) (hst : starOk a = true) (ha : PA X [a] (tA X.K ca W ev)) :
    PI X (.Tuple elts kk tp) (.Call (.Name "enumerate" p) [a] [] pos) (itR X.K ca W .enum ev) := by
  have hk : ∀ v h items, itemsOf .enum v h = some items → ∃ xs, v = .tup xs := fun v h items e => by
    simp only [itemsOf] at e
    split at e <;> first | exact ⟨_, rfl⟩ | cases e
  refine ⟨fun pins s σ H R I hw => (pi_enum hg hm ha (starEach_cons hst)).run pins s σ H R I ((argI hk hw).imp fun vs H1 q => ?_)⟩
  obtain ⟨ρ1, h1, ds, items, r1, rs, hi, m⟩ := q
  have hi0 := hi
  simp only [itemsOf] at hi
  split at hi
  · rename_i x e
    cases e
    cases e1 : isLst h1 x with
    | none => rw [e1] at hi; cases hi
    | some xs =>
      rw [e1] at hi
      cases hi
      obtain ⟨v, rfl, q⟩ := rs.one
      obtain ⟨b, ws, rfl, h2, rs2⟩ := q.isLst r1 e1
      exact ⟨b, ws, rfl, SqL.of h2, m _ (it_enum r1 q e1)⟩
  · cases hi
theorem pi_zipD {a b : Expr} {elts : List Expr} {kk : Nat} {tp p pos : Pos} (hg : Gl X "zip") (hm : X.mg "zip" = none) (hst : starOk a = true) (hst2 : starOk b = true) (ha : PA X [a, b] (tA X.K ca W ev)) :
    PI X (.Tuple elts kk tp) (.Call (.Name "zip" p) [a, b] [] pos) (itR X.K ca W .zip ev) := by
  have hk : ∀ v h items, itemsOf .zip v h = some items → ∃ xs, v = .tup xs := fun v h items e => by
    simp only [itemsOf] at e
    split at e <;> first | exact ⟨_, rfl⟩ | cases e
  refine ⟨fun pins s σ H R I hw => (pi_zip hg hm ha (by rw [starEach_cons hst, starEach_cons hst2]) (star_any (by simp [hst2]))).run pins s σ H R I ((argI hk hw).imp fun vs H1 q => ?_)⟩
  obtain ⟨ρ1, h1, ds, items, r1, rs, hi, m⟩ := q
  simp only [itemsOf] at hi
  split at hi
  · rename_i x y e
    cases e
    split at hi
    · rename_i xs ys e1 e2
      cases hi
      obtain ⟨v, w, rfl, q, q2⟩ := rs.two
      obtain ⟨b, ws, rfl, h2, rs2⟩ := q.isLst r1 e1
      obtain ⟨b2, ws2, rfl, h3, rs3⟩ := q2.isLst r1 e2
      exact ⟨b, b2, ws, ws2, rfl, SqL.of h2, SqL.of h3, m _ (it_zip r1 q q2 e1 e2)⟩
    · cases hi
  · cases hi
end
end DI

/-! DI, part H: each expression's rule. -/
namespace DI
open PySem PySem.Spec PyProof.Rows L2

section
variable {X : Cx} {ca : Nat → Addr} {W : WX} {N : List Str} {sc : Scope} {cm : Bool} {k : Nat} {G : Glob} {Γ : Gn} {Φ : Nat → List D → Hs → R D}
variable {a b c : Expr} {ea eb ec : Sl → Hs → R D} {pos : Pos}

theorem d_var (o : OkX W k X N sc cm) {i : Nat} {x : Str} (hN : N[i]? = some x) (hv : isVis sc x = true) (hd : noDbg x = true) : PE X (.Name x pos) (tD X.K ca W (evE G Φ (.var i))) := by
  refine PE.imp (pe_var (o.hN ▸ hN) (o.vis x hv) (noDbg_1 hd) (noDbg_2 hd)) fun σ H Q t => ?_
  obtain ⟨ρ, h, sl, r, s, p⟩ := t
  simp only [evE] at p
  split at p
  · rename_i d e
    obtain ⟨v, e1, q⟩ := s.2 i d e
    exact ⟨v, e1, p.now r q⟩
  · exact p.elim
theorem d_const {e : Expr} {v : V} {d : D} (hp : PE X e (tC v)) (hq : ∀ ρ n H, Rel X.K ρ n H d v) : PE X e (tD X.K ca W (fun _ h => .ok d h)) := by
  refine PE.imp hp fun σ H Q t => ?_
  obtain ⟨ρ, h, sl, r, s, p⟩ := t
  exact p.now r (hq _ _ _)
theorem d_glob (m : MX G Γ Φ ca k X) {x : Str} (hg : Gl X x) (hd : noDbg x = true) : PE X (.Name x pos) (tD X.K ca W (evE G Φ (.glob x))) := by
  refine ⟨fun pins s σ H Q I t => ?_⟩
  obtain ⟨ρ, h, sl, r, sr, p⟩ := t
  simp only [evE] at p
  obtain ⟨d, e, p⟩ := p.ofO
  obtain ⟨v, u, h1, h2, h3⟩ := m.const x d e
  exact (pe_glob hg h1 h2 (noDbg_1 hd)).run pins s σ H Q I (p.now r (h3 _ _ _))

theorem d_bin2 {op : R2} {f : D → D → Hs → R D} {e : Expr} (hp : ∀ {ta tb : TE}, PE X a ta → PE X b tb → PE X e (tOp op ta tb)) (hf : ∀ x y H Q, rBin X.K ca f x y H Q → op x y H Q)
    (ha : PE X a (tD X.K ca W ea)) (hb : PE X b (tD X.K ca W eb)) : PE X e (tD X.K ca W fun sl h => (ea sl h).bind fun x h1 => (eb sl h1).bind fun y h2 => f x y h2) := by
  refine PE.imp (hp ha hb) fun σ H Q t => ?_
  obtain ⟨ρ, h, sl, r, s, p⟩ := t
  refine tD.imp (seqP r s p) fun v H1 q => ?_
  obtain ⟨ρ1, h1, d, r1, e1, qd, _, p1⟩ := q
  refine tD.imp (seqP r1 (s.mono e1 r) p1) fun v2 H2 q => ?_
  obtain ⟨ρ2, h2, d2, r2, e2, qd2, _, p2⟩ := q
  exact hf _ _ _ _ ⟨ρ2, h2, d, d2, _, r2, qd.mono e2 r1, qd2, p2⟩
theorem d_bin (fl : Bool) {op : Operator} (ha : PE X a (tD X.K ca W ea)) (hb : PE X b (tD X.K ca W eb)) : PE X (.BinOp a op b pos) (tD X.K ca W fun sl h => (ea sl h).bind fun x h1 => (eb sl h1).bind fun y h2 => binD fl op x y h2) :=
  d_bin2 (fun ha hb => pe_op (op_binD (ca := ca) fl op) ha hb) (fun _ _ _ _ h => h) ha hb
theorem d_ix (o : OkX W k X N sc cm) (hs : isSl b = false) (ha : PE X a (tD X.K ca W ea)) (hb : PE X b (tD X.K ca W eb)) : PE X (.Subscript a b pos) (tD X.K ca W fun sl h => (ea sl h).bind fun x h1 => (eb sl h1).bind fun y h2 => ixD x y h2) :=
  d_bin2 (fun ha hb => pe_ix (ix_D (ca := ca) o.units) ha hb (plainIx_of hs)) (fun _ _ _ _ h => h) ha hb
theorem d_cmp (o : OkX W k X N sc cm) {op : CmpOp} (hm : behindInMarks op b = false) (ha : PE X a (tD X.K ca W ea)) (hb : PE X b (tD X.K ca W eb)) : PE X (.Compare a [op] [b] pos) (tD X.K ca W fun sl h => (ea sl h).bind fun x h1 => (eb sl h1).bind fun y h2 => cmpD op x y h2) :=
  d_bin2 (fun ha hb => pe_cmpR (op_cmpD (ca := ca) op o.units) ha hb hm) (fun x y H Q h => by
    obtain ⟨ρ, h, d, e, E, r, q1, q2, p⟩ := h
    unfold cmpD at p
    obtain ⟨k, hk, p⟩ := p.ofO
    cases e1 : cmpO op d e h with
    | none => rw [e1] at hk; cases hk
    | some j => rw [e1] at hk; cases hk; exact ⟨ρ, h, d, e, j, r, q1, q2, e1, p.now r (.bl _)⟩) ha hb
theorem t_cmp (o : OkX W k X N sc cm) {op : CmpOp} (hm : behindInMarks op b = false) (ha : PE X a (tD X.K ca W ea)) (hb : PE X b (tD X.K ca W eb)) : PT X (.Compare a [op] [b] pos) (tTest (tD X.K ca W (tst fun sl h => (ea sl h).bind fun x h1 => (eb sl h1).bind fun y h2 => cmpD op x y h2))) := by
  refine PT.imp (pt_cmpR (op_cmpD (ca := ca) op o.units) ha hb hm) fun σ H Q t => ?_
  obtain ⟨ρ, h, sl, r, s, p⟩ := t
  have e0 : tst (fun sl h => (ea sl h).bind fun x h1 => (eb sl h1).bind fun y h2 => cmpD op x y h2) sl h = (ea sl h).bind fun x h1 => (eb sl h1).bind fun y h2 => cmpD op x y h2 := by
    unfold tst
    dsimp only
    cases e1 : ea sl h with
    | ok x h1 =>
      show ((eb sl h1).bind fun y h2 => cmpD op x y h2).bind _ = (eb sl h1).bind fun y h2 => cmpD op x y h2
      cases e2 : eb sl h1 with
      | ok y h2 =>
        show (cmpD op x y h2).bind _ = cmpD op x y h2
        unfold cmpD
        cases e3 : cmpO op x y h2 <;> rfl
      | ex _ _ => rfl
      | stuck => rfl
    | ex _ _ => rfl
    | stuck => rfl
  rw [e0] at p
  refine tD.imp (seqP r s p) fun v H1 q => ?_
  obtain ⟨ρ1, h1, d, r1, e1, qd, _, p1⟩ := q
  refine tD.imp (seqP r1 (s.mono e1 r) p1) fun v2 H2 q => ?_
  obtain ⟨ρ2, h2, d2, r2, e2, qd2, _, p2⟩ := q
  unfold cmpD at p2
  obtain ⟨k, hk, p2⟩ := p2.ofO
  cases e3 : cmpO op d d2 h2 with
  | none => rw [e3] at hk; cases hk
  | some j => rw [e3] at hk; cases hk; exact ⟨ρ2, h2, d, d2, j, r2, qd.mono e2 r1, qd2, e3, p2.now r2 (.bl _)⟩

/-- the chain's value -/
def chainE (op op' : CmpOp) (ea eb ec : Sl → Hs → R D) : Sl → Hs → R D := fun sl h => (ea sl h).bind fun x h1 => (eb sl h1).bind fun y h2 => match cmpO op x y h2 with
  | some true => (ec sl h2).bind fun z h3 => cmpD op' y z h3
  | some false => .ok (.bl false) h2
  | none => .stuck
theorem chain_red {op op' : CmpOp} {σ : L2.St} {H : Hp} {Q : VK} (t : tD X.K ca W (chainE op op' ea eb ec) σ H Q) : tChain (rCmp X.K ca op) (rCmp X.K ca op') (tD X.K ca W ea) (tD X.K ca W eb) (tD X.K ca W ec) σ H Q := by
  obtain ⟨ρ, h, sl, r, s, p⟩ := t
  refine tD.imp (seqP r s p) fun v H1 q => ?_
  obtain ⟨ρ1, h1, d, r1, e1, qd, _, p1⟩ := q
  refine tD.imp (seqP r1 (s.mono e1 r) p1) fun v2 H2 q => ?_
  obtain ⟨ρ2, h2, d2, r2, e2, qd2, _, p2⟩ := q
  split at p2
  · rename_i e3
    refine ⟨ρ2, h2, d, d2, true, r2, qd.mono e2 r1, qd2, e3, true, rfl, ?_⟩
    show tD X.K ca W ec σ H2 _
    refine tD.imp (seqP r2 ((s.mono e1 r).mono e2 r1) p2) fun v3 H3 q => ?_
    obtain ⟨ρ3, h3, d3, r3, e4, qd3, _, p3⟩ := q
    unfold cmpD at p3
    obtain ⟨k, hk, p3⟩ := p3.ofO
    cases e5 : cmpO op' d2 d3 h3 with
    | none => rw [e5] at hk; cases hk
    | some j => rw [e5] at hk; cases hk; exact ⟨ρ3, h3, d2, d3, j, r3, qd2.mono e4 r2, qd3, e5, p3.now r3 (.bl _)⟩
  · rename_i e3
    exact ⟨ρ2, h2, d, d2, false, r2, qd.mono e2 r1, qd2, e3, false, rfl, p2.now r2 (.bl _)⟩
  · exact p2.elim
theorem d_chain (o : OkX W k X N sc cm) {op op' : CmpOp} (hm : lastMarks [op, op'] [b, c] = false) (ha : PE X a (tD X.K ca W ea)) (hb : PE X b (tD X.K ca W eb)) (hc : PE X c (tD X.K ca W ec)) :
    PE X (.Compare a [op, op'] [b, c] pos) (tD X.K ca W (chainE op op' ea eb ec)) :=
  PE.imp (pe_chain (op_cmpD (ca := ca) op o.units) (op_cmpD (ca := ca) op' o.units) ha hb hc hm) fun σ H Q t => chain_red t
theorem t_chain (o : OkX W k X N sc cm) {op op' : CmpOp} (hm : lastMarks [op, op'] [b, c] = false) (ha : PE X a (tD X.K ca W ea)) (hb : PE X b (tD X.K ca W eb)) (hc : PE X c (tD X.K ca W ec)) :
    PT X (.Compare a [op, op'] [b, c] pos) (tTest (tD X.K ca W (tst (chainE op op' ea eb ec)))) := by
  refine PT.imp (pt_chain (op_cmpD (ca := ca) op o.units) (op_cmpD (ca := ca) op' o.units) ha hb hc hm) fun σ H Q t => ?_
  obtain ⟨ρ, h, sl, r, s, p⟩ := t
  refine chain_red ⟨ρ, h, sl, r, s, ?_⟩
  have e0 : tst (chainE op op' ea eb ec) sl h = chainE op op' ea eb ec sl h := by
    unfold tst chainE
    cases e1 : ea sl h with
    | ok x h1 =>
      show ((eb sl h1).bind _).bind _ = (eb sl h1).bind _
      cases e2 : eb sl h1 with
      | ok y h2 =>
        show R.bind (match cmpO op x y h2 with
          | some true => (ec sl h2).bind fun z h3 => cmpD op' y z h3
          | some false => .ok (.bl false) h2
          | none => .stuck) _ = (match cmpO op x y h2 with
          | some true => (ec sl h2).bind fun z h3 => cmpD op' y z h3
          | some false => .ok (.bl false) h2
          | none => .stuck)
        split
        · cases e4 : ec sl h2 with
          | ok z h3 =>
            show (cmpD op' y z h3).bind _ = cmpD op' y z h3
            unfold cmpD
            cases e3 : cmpO op' y z h3 <;> rfl
          | ex _ _ => rfl
          | stuck => rfl
        · rfl
        · rfl
      | ex _ _ => rfl
      | stuck => rfl
    | ex _ _ => rfl
    | stuck => rfl
  rw [e0] at p
  exact p

theorem d_neg (ha : PE X a (tD X.K ca W ea)) : PE X (.UnaryOp .USub a pos) (tD X.K ca W fun sl h => (ea sl h).bind fun x h1 => match x with | .int i => .ok (.int (-i)) h1 | _ => .stuck) := by
  refine PE.imp (pe_un un_neg ha) fun σ H Q t => ?_
  obtain ⟨ρ, h, sl, r, s, p⟩ := t
  refine tD.imp (seqP r s p) fun v H1 q => ?_
  obtain ⟨ρ1, h1, d, r1, e1, qd, _, p1⟩ := q
  split at p1
  · exact ⟨_, qd.isInt, p1.now r1 (.int _)⟩
  · exact p1.elim
theorem d_not (ha : PE X a (tD X.K ca W ea)) : PE X (.UnaryOp .Not a pos) (tD X.K ca W fun sl h => (ea sl h).bind fun x h1 => R.ofO ((truth h1 x).map fun b => .bl (!b)) h1) := by
  refine PE.imp (pe_notT ha) fun σ H Q t => ?_
  obtain ⟨ρ, h, sl, r, s, p⟩ := t
  refine tD.imp (seqP r s p) fun v H1 q => ?_
  obtain ⟨ρ1, h1, d, r1, e1, qd, _, p1⟩ := q
  obtain ⟨k, hk, p1⟩ := p1.ofO
  cases e3 : truth h1 d with
  | none => rw [e3] at hk; cases hk
  | some j => rw [e3] at hk; cases hk; exact ⟨j, qd.truth r1 e3, p1.now r1 (.bl _)⟩
def andE (ea eb : Sl → Hs → R D) : Sl → Hs → R D := fun sl h => (ea sl h).bind fun x h1 => match truth h1 x with
  | some true => eb sl h1
  | some false => .ok x h1
  | none => .stuck
def orE (ea eb : Sl → Hs → R D) : Sl → Hs → R D := fun sl h => (ea sl h).bind fun x h1 => match truth h1 x with
  | some true => .ok x h1
  | some false => eb sl h1
  | none => .stuck
theorem d_and {rest : List Expr} (ha : PE X a (tD X.K ca W ea)) (hb : PE X (.BoolOp .And (b :: rest) pos) (tD X.K ca W eb)) : PE X (.BoolOp .And (a :: b :: rest) pos) (tD X.K ca W (andE ea eb)) := by
  refine PE.imp (pe_andT ha hb) fun σ H Q t => ?_
  obtain ⟨ρ, h, sl, r, s, p⟩ := t
  refine tD.imp (seqP r s p) fun v H1 q => ?_
  obtain ⟨ρ1, h1, d, r1, e1, qd, _, p1⟩ := q
  split at p1
  · rename_i e3
    exact ⟨true, qd.truth r1 e3, ρ1, h1, sl, r1, s.mono e1 r, p1⟩
  · rename_i e3
    exact ⟨false, qd.truth r1 e3, p1.now r1 qd⟩
  · exact p1.elim
theorem d_or {rest : List Expr} (ha : PE X a (tD X.K ca W ea)) (hb : PE X (.BoolOp .Or (b :: rest) pos) (tD X.K ca W eb)) : PE X (.BoolOp .Or (a :: b :: rest) pos) (tD X.K ca W (orE ea eb)) := by
  refine PE.imp (pe_orT ha hb) fun σ H Q t => ?_
  obtain ⟨ρ, h, sl, r, s, p⟩ := t
  refine tD.imp (seqP r s p) fun v H1 q => ?_
  obtain ⟨ρ1, h1, d, r1, e1, qd, _, p1⟩ := q
  split at p1
  · rename_i e3
    exact ⟨true, qd.truth r1 e3, p1.now r1 qd⟩
  · rename_i e3
    exact ⟨false, qd.truth r1 e3, ρ1, h1, sl, r1, s.mono e1 r, p1⟩
  · exact p1.elim

/-- a test's answer -/
abbrev tT (K : PySem.W.Frag) (ca : Nat → Addr) (W : WX) (ev : Sl → Hs → R D) : TT := tTest (tD K ca W (tst ev))
theorem tst_seq {ev : Sl → Hs → R D} {σ : L2.St} {H : Hp} {Q : Bool → Hp → Prop} {ρ : Rho} {h : Hs} {sl : Sl} (r : HR X.K ca ρ H h) (s : SlR X.K ρ h.length H sl σ)
    (m : match tst ev sl h with
      | .ok d h' => ∃ b, d = .bl b ∧ ∀ ρ' H', HR X.K ca ρ' H' h' → Ext ρ h.length H ρ' h'.length H' → Q b H'
      | .ex x h' => ∀ ρ' H' cls dd, HR X.K ca ρ' H' h' → Ext ρ h.length H ρ' h'.length H' → XRel X.K ca ρ' h'.length H' x cls dd → W cls dd σ H'
      | .stuck => False) : tT X.K ca W ev σ H Q := by
  refine ⟨ρ, h, sl, r, s, ?_⟩
  cases e : tst ev sl h with
  | ok d h' =>
    rw [e] at m
    obtain ⟨b, rfl, m⟩ := m
    intro ρ' H' v r' e' q
    exact ⟨b, q.isBl, m ρ' H' r' e'⟩
  | ex x h' => rw [e] at m; exact m
  | stuck => rw [e] at m; exact m
/-- what a test's reading leaves -/
theorem seqT {ev : Sl → Hs → R D} {σ : L2.St} {H : Hp} {Q : VK} {ρ : Rho} {h : Hs} {sl : Sl} {g : Bool → Hs → R D} (r : HR X.K ca ρ H h) (s : SlR X.K ρ h.length H sl σ)
    (p : Post X.K ca ρ h.length H ((ev sl h).bind fun x h1 => match truth h1 x with | some b => g b h1 | none => .stuck) Q (fun cls d H' => W cls d σ H')) :
    tT X.K ca W ev σ H (fun b H1 => ∃ ρ1 h1, HR X.K ca ρ1 H1 h1 ∧ Ext ρ h.length H ρ1 h1.length H1 ∧ Post X.K ca ρ1 h1.length H1 (g b h1) Q (fun cls d H' => W cls d σ H')) := by
  refine tst_seq r s ?_
  unfold tst
  cases e : ev sl h with
  | ok d h' =>
    rw [e] at p
    simp only [R.bind] at p ⊢
    cases e1 : truth h' d with
    | none => rw [e1] at p; exact p.elim
    | some b =>
      rw [e1] at p
      exact ⟨b, rfl, fun ρ' H' r' e' => ⟨ρ', h', r', e', Post.mono p e' r'⟩⟩
  | ex x h' => rw [e] at p; exact p
  | stuck => rw [e] at p; exact p

theorem t_plain {e : Expr} (h : plainT e = true) (ha : PE X e (tD X.K ca W ea)) : PT X e (tT X.K ca W ea) := by
  refine PT.imp (pt_truth ha (plainT_of h)) fun σ H Q t => ?_
  obtain ⟨ρ, h, sl, r, s, p⟩ := t
  refine tD.imp (seqP r s p) fun v H1 q => ?_
  obtain ⟨ρ1, h1, d, r1, e1, qd, _, p1⟩ := q
  obtain ⟨k, hk, p1⟩ := p1.ofO
  cases e3 : truth h1 d with
  | none => rw [e3] at hk; cases hk
  | some j =>
    rw [e3] at hk; cases hk
    obtain ⟨b, eb, q⟩ := p1.now r1 (.bl _)
    cases eb
    exact ⟨_, qd.truth r1 e3, q⟩
theorem tT_elim {ev : Sl → Hs → R D} {σ : L2.St} {H : Hp} {Q : Bool → Hp → Prop} (t : tT X.K ca W ev σ H Q) : ∃ ρ h sl, HR X.K ca ρ H h ∧ SlR X.K ρ h.length H sl σ ∧
    Post X.K ca ρ h.length H (tst ev sl h) (fun x H' => ∃ b, x = .bl b ∧ Q b H') (fun cls d H' => W cls d σ H') := t
theorem t_not (ha : PT X a (tT X.K ca W ea)) : PT X (.UnaryOp .Not a pos) (tT X.K ca W fun sl h => (ea sl h).bind fun x h1 => R.ofO ((truth h1 x).map fun b => .bl (!b)) h1) := by
  refine PT.imp (pt_not ha) fun σ H Q t => ?_
  obtain ⟨ρ, h, sl, r, s, p⟩ := tT_elim t
  refine tst_seq r s ?_
  unfold tst at p ⊢
  dsimp only at p ⊢
  cases e : ea sl h with
  | ok d h' =>
    rw [e] at p
    simp only [R.bind] at p ⊢
    cases e1 : truth h' d with
    | none => rw [e1] at p; exact p.elim
    | some b =>
      rw [e1] at p
      refine ⟨b, rfl, fun ρ' H' r' e' => ?_⟩
      obtain ⟨b', eb, q⟩ := p ρ' H' _ r' e' (.bl _)
      cases eb
      exact q
  | ex x h' => rw [e] at p; exact p
  | stuck => rw [e] at p; exact p
theorem t_and {rest : List Expr} (ha : PT X a (tT X.K ca W ea)) (hb : PW X (.BoolOp .And (b :: rest) pos) (tT X.K ca W eb)) : PW X (.BoolOp .And (a :: b :: rest) pos) (tT X.K ca W (andE ea eb)) := by
  refine PW.imp (pw_and ha hb) fun σ H Q t => ?_
  obtain ⟨ρ, h, sl, r, s, p⟩ := tT_elim t
  refine tst_seq r s ?_
  unfold tst at p ⊢
  unfold andE at p
  cases e : ea sl h with
  | ok d h' =>
    rw [e] at p
    simp only [R.bind] at p ⊢
    cases e1 : truth h' d with
    | none => rw [e1] at p; exact p.elim
    | some b =>
      rw [e1] at p
      refine ⟨b, rfl, fun ρ' H' r' e' => ?_⟩
      cases b with
      | true =>
        show tT X.K ca W eb σ H' Q
        exact ⟨ρ', h', sl, r', s.mono e' r, Post.mono p e' r'⟩
      | false =>
        show Q false H'
        simp only [e1] at p
        obtain ⟨b', eb, q⟩ := p ρ' H' (.bl false) r' e' (.bl _)
        cases eb
        exact q
  | ex x h' => rw [e] at p; exact p
  | stuck => rw [e] at p; exact p
theorem t_or {rest : List Expr} (ha : PT X a (tT X.K ca W ea)) (hb : PW X (.BoolOp .Or (b :: rest) pos) (tT X.K ca W eb)) : PW X (.BoolOp .Or (a :: b :: rest) pos) (tT X.K ca W (orE ea eb)) := by
  refine PW.imp (pw_or ha hb) fun σ H Q t => ?_
  obtain ⟨ρ, h, sl, r, s, p⟩ := tT_elim t
  refine tst_seq r s ?_
  unfold tst at p ⊢
  unfold orE at p
  cases e : ea sl h with
  | ok d h' =>
    rw [e] at p
    simp only [R.bind] at p ⊢
    cases e1 : truth h' d with
    | none => rw [e1] at p; exact p.elim
    | some b =>
      rw [e1] at p
      refine ⟨b, rfl, fun ρ' H' r' e' => ?_⟩
      cases b with
      | false =>
        show tT X.K ca W eb σ H' Q
        exact ⟨ρ', h', sl, r', s.mono e' r, Post.mono p e' r'⟩
      | true =>
        show Q true H'
        simp only [e1] at p
        obtain ⟨b', eb, q⟩ := p ρ' H' (.bl true) r' e' (.bl _)
        cases eb
        exact q
  | ex x h' => rw [e] at p; exact p
  | stuck => rw [e] at p; exact p

def iteE (et ea eb : Sl → Hs → R D) : Sl → Hs → R D := fun sl h => (et sl h).bind fun x h1 => match truth h1 x with
  | some true => ea sl h1
  | some false => eb sl h1
  | none => .stuck
theorem d_ite (hc : PT X c (tT X.K ca W ec)) (ha : PE X a (tD X.K ca W ea)) (hb : PE X b (tD X.K ca W eb)) : PE X (.IfExp c a b pos) (tD X.K ca W (iteE ec ea eb)) := by
  refine PE.imp (pe_ifExp hc ha hb) fun σ H Q t => ?_
  obtain ⟨ρ, h, sl, r, s, p⟩ := t
  have p' : Post X.K ca ρ h.length H ((ec sl h).bind fun x h1 => match truth h1 x with | some b => (if b = true then ea sl h1 else eb sl h1) | none => .stuck) Q (fun cls d H' => W cls d σ H') := by
    have : iteE ec ea eb sl h = (ec sl h).bind fun x h1 => match truth h1 x with | some b => (if b = true then ea sl h1 else eb sl h1) | none => .stuck := by
      unfold iteE
      congr 1
      funext x h1
      cases truth h1 x with
      | none => rfl
      | some b => cases b <;> rfl
    rw [this] at p
    exact p
  have t := seqT (g := fun b h1 => if b = true then ea sl h1 else eb sl h1) r s p'
  refine tD.imp t fun v H1 q => ?_
  obtain ⟨b, eb', ρ1, h1, r1, e1, p1⟩ := q
  refine ⟨b, eb', ?_⟩
  cases b with
  | true => exact ⟨ρ1, h1, sl, r1, s.mono e1 r, p1⟩
  | false => exact ⟨ρ1, h1, sl, r1, s.mono e1 r, p1⟩
end
end DI

/-! DI, part I: argument lists, displays, slices, calls, methods. -/
namespace DI
open PySem PySem.Spec PyProof.Rows L2

section
variable {X : Cx} {ca : Nat → Addr} {W : WX} {N : List Str} {sc : Scope} {cm : Bool} {k : Nat} {G : Glob} {Γ : Gn} {Φ : Nat → List D → Hs → R D}
variable {a b c : Expr} {ea eb ec : Sl → Hs → R D} {pos : Pos} {es : List Expr}

theorem a_nil : PA X [] (tA X.K ca W fun _ h => .ok (.tup []) h) := by
  refine PA.imp pa_nil fun σ H Q t => ?_
  obtain ⟨ρ, h, sl, r, s, ds, e, m⟩ := t
  cases e
  exact m ρ H [] r Ext.refl .nil
def consE (ea eb : Sl → Hs → R D) : Sl → Hs → R D := fun sl h => (ea sl h).bind fun x h1 => (eb sl h1).bind fun y h2 => match y with
  | .tup ys => .ok (.tup (x :: ys)) h2
  | _ => .stuck
theorem a_cons (hst : starOk a = true) (ha : PE X a (tD X.K ca W ea)) (hb : PA X es (tA X.K ca W eb)) : PA X (a :: es) (tA X.K ca W (consE ea eb)) := by
  refine PA.imp (pa_cons ha hb (starEach_cons hst)) fun σ H Q t => ?_
  obtain ⟨ρ, h, sl, r, s, m⟩ := t
  unfold consE at m
  refine ⟨ρ, h, sl, r, s, ?_⟩
  cases e1 : ea sl h with
  | stuck => rw [e1] at m; exact m
  | ex x h' => rw [e1] at m; exact m
  | ok x h1 =>
    rw [e1] at m
    intro ρ1 H1 v r1 x1 q1
    refine ⟨ρ1, h1, sl, r1, s.mono x1 r, ?_⟩
    simp only [R.bind] at m
    cases e2 : eb sl h1 with
    | stuck => rw [e2] at m; exact m
    | ex x h' => rw [e2] at m; exact fun ρ' H' c d r' x' q' => m ρ' H' c d r' (x1.trans r1 rfl x') q'
    | ok y h2 =>
      rw [e2] at m
      simp only at m
      cases y with
      | tup ys =>
        obtain ⟨ds, e3, m⟩ := m
        cases e3
        exact ⟨ys, rfl, fun ρ2 H2 vs r2 x2 q2 => m ρ2 H2 (v :: vs) r2 (x1.trans r1 rfl x2) (.cons (q1.mono x2 r1) q2)⟩
      | _ => exact m.elim

/-! the pairs of a dict display -/
def flat2 : List (V × V) → List V
  | [] => []
  | (x, y) :: r => x :: y :: flat2 r
def kvE (ea eb ec : Sl → Hs → R D) : Sl → Hs → R D := fun sl h => (ea sl h).bind fun x h1 => (eb sl h1).bind fun y h2 => (ec sl h2).bind fun z h3 => match z with
  | .tup zs => .ok (.tup (x :: y :: zs)) h3
  | _ => .stuck
theorem pr_nil {σ : L2.St} {H : Hp} {Q : List V → Hp → Prop} (t : tA X.K ca W (fun _ h => .ok (.tup []) h) σ H Q) : tPairs [] σ H fun ps H1 => Q (flat2 ps) H1 := by
  obtain ⟨ρ, h, sl, r, s, ds, e, m⟩ := t
  cases e
  exact m ρ H [] r Ext.refl .nil
theorem pr_kv {ec : Sl → Hs → R D} {trs : List (TE × TE)} (hr : ∀ (σ : L2.St) (H : Hp) (Q : List V → Hp → Prop), tA X.K ca W ec σ H Q → tPairs trs σ H fun ps H1 => Q (flat2 ps) H1) {σ : L2.St} {H : Hp} {Q : List V → Hp → Prop} (t : tA X.K ca W (kvE ea eb ec) σ H Q) :
    tPairs ((tD X.K ca W ea, tD X.K ca W eb) :: trs) σ H fun ps H1 => Q (flat2 ps) H1 := by
  obtain ⟨ρ, h, sl, r, s, m⟩ := t
  unfold kvE at m
  refine ⟨ρ, h, sl, r, s, ?_⟩
  cases e1 : ea sl h with
  | stuck => rw [e1] at m; exact m
  | ex x h' => rw [e1] at m; exact m
  | ok x h1 =>
    rw [e1] at m
    intro ρ1 H1 v r1 x1 q1
    refine ⟨ρ1, h1, sl, r1, s.mono x1 r, ?_⟩
    simp only [R.bind] at m
    cases e2 : eb sl h1 with
    | stuck => rw [e2] at m; exact m
    | ex x h' => rw [e2] at m; exact fun ρ' H' c d r' x' q' => m ρ' H' c d r' (x1.trans r1 rfl x') q'
    | ok y h2 =>
      rw [e2] at m
      intro ρ2 H2 u r2 x2 q2
      have x12 := x1.trans r1 rfl x2
      refine hr σ H2 (fun vs H3 => Q (v :: u :: vs) H3) ⟨ρ2, h2, sl, r2, (s.mono x1 r).mono x2 r1, ?_⟩
      simp only at m
      cases e3 : ec sl h2 with
      | stuck => rw [e3] at m; exact m
      | ex x h' => rw [e3] at m; exact fun ρ' H' c d r' x' q' => m ρ' H' c d r' (x12.trans r2 rfl x') q'
      | ok z h3 =>
        rw [e3] at m
        simp only at m
        cases z with
        | tup zs =>
          obtain ⟨ds, e4, m⟩ := m
          cases e4
          exact ⟨zs, rfl, fun ρ3 H3 vs r3 x3 q3 => m ρ3 H3 (v :: u :: vs) r3 (x12.trans r2 rfl x3) (.cons ((q1.mono x2 r1).mono x3 r2) (.cons (q2.mono x3 r2) q3))⟩
        | _ => exact m.elim

theorem d_tup {n : Nat} (ha : PA X es (tA X.K ca W ea)) : PE X (.Tuple es n pos) (tD X.K ca W fun sl h => (ea sl h).bind fun x h1 => match x with | .tup xs => if xs.length ≤ lim then .ok (.tup xs) h1 else .stuck | _ => .stuck) := by
  refine PE.imp (pe_tup ha) fun σ H Q t => ?_
  obtain ⟨ρ, h, sl, r, s, p⟩ := t
  refine tA.imp (seqA (g := fun xs h1 => if xs.length ≤ lim then .ok (.tup xs) h1 else .stuck) r s p) fun vs H1 q => ?_
  obtain ⟨ρ1, h1, ds, r1, x1, rs, _, p1⟩ := q
  split at p1
  · rename_i hl
    exact ⟨by rw [rs.length]; exact hl, p1.newTup r1 rs⟩
  · exact p1.elim
theorem d_lst (fl : Bool) (ha : PA X es (tA X.K ca W ea)) : PE X (.List es pos) (tD X.K ca W fun sl h => (ea sl h).bind fun x h1 => match x with | .tup xs => mkL fl xs h1 | _ => .stuck) := by
  refine PE.imp (pe_lst ha) fun σ H Q t => ?_
  obtain ⟨ρ, h, sl, r, s, p⟩ := t
  refine tA.imp (seqA (g := fun xs h1 => mkL fl xs h1) r s p) fun vs H1 q => ?_
  obtain ⟨ρ1, h1, ds, r1, x1, rs, _, p1⟩ := q
  refine ⟨?_, p1.newLst r1 rs⟩
  unfold mkL at p1
  split at p1
  · rename_i hl
    rw [rs.length]; exact hl
  · exact p1.elim

/-- a part of a slice -/
theorem po_D {o : Option Expr} {out : Bool} (h : (o = none ∧ out = true ∧ ea = fun _ h => .ok .non h) ∨ ∃ e, o = some e ∧ out = false ∧ PE X e (tD X.K ca W ea)) :
    PO X o (fun σ H Q => ∃ ρ h sl, HR X.K ca ρ H h ∧ SlR X.K ρ h.length H sl σ ∧ match ea sl h with
      | .ok d h' => ∃ l, partD out d = some l ∧ ∀ ρ' H', HR X.K ca ρ' H' h' → Ext ρ h.length H ρ' h'.length H' → Q l H'
      | .ex x h' => ∀ ρ' H' cls dd, HR X.K ca ρ' H' h' → Ext ρ h.length H ρ' h'.length H' → XRel X.K ca ρ' h'.length H' x cls dd → W cls dd σ H'
      | .stuck => False) := by
  rcases h with ⟨rfl, rfl, rfl⟩ | ⟨e, rfl, rfl, he⟩
  · refine ⟨fun pins s σ H Q I t => po_none.run pins s σ H Q I ?_⟩
    obtain ⟨ρ, h, sl, r, sr, l, e1, m⟩ := t
    cases e1
    exact m ρ H r Ext.refl
  · refine ⟨fun pins s σ H Q I t => (po_some he).run pins s σ H Q I ?_⟩
    obtain ⟨ρ, h, sl, r, sr, m⟩ := t
    refine ⟨ρ, h, sl, r, sr, ?_⟩
    cases e1 : ea sl h with
    | stuck => rw [e1] at m; exact m
    | ex x h' => rw [e1] at m; exact m
    | ok d h' =>
      rw [e1] at m
      obtain ⟨l, e2, m⟩ := m
      intro ρ' H' v r' x' q
      cases d with
      | int i => cases e2; exact ⟨i, q.isInt, m ρ' H' r' x'⟩
      | _ => cases e2
theorem d_slice (fl : Bool) {lo hi : Option Expr} {p2 : Pos} {o1 o2 : Bool} (ha : PE X a (tD X.K ca W ea))
    (hl : (lo = none ∧ o1 = true ∧ eb = fun _ h => .ok .non h) ∨ ∃ e, lo = some e ∧ o1 = false ∧ PE X e (tD X.K ca W eb))
    (hh : (hi = none ∧ o2 = true ∧ ec = fun _ h => .ok .non h) ∨ ∃ e, hi = some e ∧ o2 = false ∧ PE X e (tD X.K ca W ec)) :
    PE X (.Subscript a (.Slice lo hi none p2) pos) (tD X.K ca W fun sl h => (ea sl h).bind fun x h1 => (eb sl h1).bind fun l h2 => match partD o1 l with
      | some l' => (ec sl h2).bind fun u h3 => match partD o2 u with
        | some u' => sliceD fl x l' u' h3
        | none => .stuck
      | none => .stuck) := by
  refine PE.imp (pe_slice (sl_D (ca := ca) fl) ha (po_D hl) (po_D hh)) fun σ H Q t => ?_
  obtain ⟨ρ, h, sl, r, s, p⟩ := t
  refine tD.imp (seqP r s p) fun v H1 q => ?_
  obtain ⟨ρ1, h1, d, r1, x1, qd, _, p1⟩ := q
  refine ⟨ρ1, h1, sl, r1, s.mono x1 r, ?_⟩
  cases e2 : eb sl h1 with
  | stuck => rw [e2] at p1; exact p1
  | ex x h' => rw [e2] at p1; exact p1
  | ok l h2 =>
    rw [e2] at p1
    simp only [R.bind] at p1
    cases el : partD o1 l with
    | none => rw [el] at p1; exact p1.elim
    | some l' =>
      rw [el] at p1
      simp only at p1
      refine ⟨l', el, fun ρ2 H2 r2 x2 => ?_⟩
      have p2' := Post.mono p1 x2 r2
      refine ⟨ρ2, h2, sl, r2, (s.mono x1 r).mono x2 r1, ?_⟩
      cases e3 : ec sl h2 with
      | stuck => rw [e3] at p2'; exact p2'
      | ex x h' => rw [e3] at p2'; exact p2'
      | ok u h3 =>
        rw [e3] at p2'
        simp only at p2'
        cases eu : partD o2 u with
        | none => rw [eu] at p2'; exact p2'.elim
        | some u' =>
          rw [eu] at p2'
          exact ⟨u', eu, fun ρ3 H3 r3 x3 => ⟨ρ3, h3, d, _, r3, (qd.mono x2 r1).mono x3 r2, Post.mono p2' x3 r3⟩⟩

/-! ### calls -/
theorem d_cb {e : Expr} {f : List D → Hs → R D} {rr : List V → Hp → VK → Prop} (hp : ∀ {t : TA}, PA X es t → PE X e (tCB rr t)) (hf : ∀ vs H Q, rBi X.K ca f vs H Q → rr vs H Q) (ha : PA X es (tA X.K ca W ea)) :
    PE X e (tD X.K ca W fun sl h => (ea sl h).bind fun x h1 => match x with | .tup xs => f xs h1 | _ => .stuck) := by
  refine PE.imp (hp ha) fun σ H Q t => ?_
  obtain ⟨ρ, h, sl, r, s, p⟩ := t
  refine tA.imp (seqA r s p) fun vs H1 q => ?_
  obtain ⟨ρ1, h1, ds, r1, x1, rs, _, p1⟩ := q
  exact hf _ _ _ ⟨ρ1, h1, ds, _, r1, rs, p1⟩
theorem d_bi (f : Bi) (hok : biOk f = true) (hc : X.calm = true) {p : Pos} (hg : Gl X (biStr f)) (hm : X.mg (biStr f) = none) (hst : (a :: es).all starOk = true) (ha : PA X (a :: es) (tA X.K ca W ea)) :
    PE X (.Call (.Name (biStr f) p) (a :: es) [] pos) (tD X.K ca W fun sl h => (ea sl h).bind fun x h1 => match x with | .tup xs => biD f xs h1 | _ => .stuck) := by
  rw [List.all_cons, Bool.and_eq_true] at hst
  have h1 := starEach_cons (env := X.env) (es := es) hst.1
  have h2 := star_any (env := X.env) (pos := pos) hst.2
  cases f with
  | len => exact d_cb (f := biLen) (fun ha => pe_callB bi_len hg hm (by decide +kernel) ha (by decide +kernel) (by decide +kernel) h1 h2) (fun _ _ _ h => h) ha
  | int => exact d_cb (f := biInt) (fun ha => pe_callTy bi_int hg hm (by decide +kernel) ha (by decide +kernel) (by decide +kernel) h1 h2) (fun _ _ _ h => h) ha
  | abs => exact d_cb (f := biAbs) (fun ha => pe_callB bi_abs hg hm (by decide +kernel) ha (by decide +kernel) (by decide +kernel) h1 h2) (fun _ _ _ h => h) ha
  | max => exact d_cb (f := biMax) (fun ha => pe_callB (bi_max hc) hg hm (by decide +kernel) ha (by decide +kernel) (by decide +kernel) h1 h2) (fun _ _ _ h => h) ha
  | min => exact d_cb (f := biMin) (fun ha => pe_callB (bi_min hc) hg hm (by decide +kernel) ha (by decide +kernel) (by decide +kernel) h1 h2) (fun _ _ _ h => h) ha
  | sum => exact d_cb (f := biSum) (fun ha => pe_callB (bi_sum hc) hg hm (by decide +kernel) ha (by decide +kernel) (by decide +kernel) h1 h2) (fun _ _ _ h => h) ha
  | all => exact d_cb (f := biAll) (fun ha => pe_callB (bi_all hc) hg hm (by decide +kernel) ha (by decide +kernel) (by decide +kernel) h1 h2) (fun _ _ _ h => h) ha
  | any => exact d_cb (f := biAny) (fun ha => pe_callB (bi_any hc) hg hm (by decide +kernel) ha (by decide +kernel) (by decide +kernel) h1 h2) (fun _ _ _ h => h) ha
  | list c => exact d_cb (f := biList c) (fun ha => pe_callTy (x := "list") (bi_list c) hg hm (by decide +kernel) ha (by decide +kernel) (by decide +kernel) h1 h2) (fun _ _ _ h => h) ha
  | tuple => exact d_cb (f := biTuple) (fun ha => pe_callTy bi_tuple hg hm (by decide +kernel) ha (by decide +kernel) (by decide +kernel) h1 h2) (fun _ _ _ h => h) ha
  | sorted c => exact d_cb (f := biSorted c) (fun ha => pe_callB (x := "sorted") (bi_sorted c hc) hg hm (by decide +kernel) ha (by decide +kernel) (by decide +kernel) h1 h2) (fun _ _ _ h => h) ha
theorem boot_ty : ∀ t ∈ tyNames, bootBuiltins (t : Str) = some (.type t) := by decide +kernel
theorem ty_ne : ∀ t ∈ tyNames, ((t : Str) ≠ "__name__") ∧ ((t : Str) == ("__debug__" : Str)) = false := by decide +kernel
theorem d_isi {t : String} (ht : t ∈ tyNames) {p p2 : Pos} (hg : Gl X "isinstance") (hm : X.mg "isinstance" = none) (hg2 : Gl X t) (hm2 : X.mg t = none) (hst : starOk a = true) (ha : PE X a (tD X.K ca W ea)) :
    PE X (.Call (.Name "isinstance" p) [a, .Name t p2] [] pos) (tD X.K ca W fun sl h => (ea sl h).bind fun x h1 => isiD t x h1) := by
  have hb : PE X (.Name t p2) (tC (.ty t)) := pe_bltn hg2 hm2 (boot_ty t ht) rfl (ty_ne t ht).1 (ty_ne t ht).2
  refine PE.imp (pe_callB (bi_isi (ca := ca) ht) hg hm (by decide +kernel) (pa_cons ha (pa_cons hb pa_nil) (starEach_cons hst)) (by decide +kernel) (by decide +kernel) (starEach_cons hst) (star_any rfl)) fun σ H Q t => ?_
  obtain ⟨ρ, h, sl, r, s, p⟩ := t
  refine tD.imp (seqP r s p) fun v H1 q => ?_
  obtain ⟨ρ1, h1, d, r1, x1, qd, _, p1⟩ := q
  exact ⟨ρ1, h1, d, v, _, r1, qd, rfl, p1⟩
theorem d_call (o : OkX W k X N sc cm) (m : MX G Γ Φ ca k X) (hr : Room (k + 2) X.A) {x : Str} {f : Nat} (hf : Γ.fn x = some f) (har : Γ.ar f = es.length + 1) (hlen : ∀ sl h ds h', ea sl h = .ok (.tup ds) h' → ds.length = es.length + 1)
    {p : Pos} (hg : Gl X x) (hd : noDbg x = true) (hst : (a :: es).all starOk = true) (ha : PA X (a :: es) (tA X.K ca W ea)) :
    PE X (.Call (.Name x p) (a :: es) [] pos) (tD X.K ca W fun sl h => (ea sl h).bind fun x h1 => match x with | .tup xs => Φ f xs h1 | _ => .stuck) := by
  rw [List.all_cons, Bool.and_eq_true] at hst
  obtain ⟨fa, fd, ps, h1, h2, h3, h4, h5⟩ := m.fn x f hf
  refine PE.imp (pe_callS h5 hr hg h1 h2 h3 (fun σ => passAt o.tk σ) ha (noDbg_1 hd) (starEach_cons hst.1) (star_any hst.2)) fun σ H Q t => ?_
  obtain ⟨ρ, h, sl, r, s, p⟩ := t
  refine tA.imp (seqA r s p) fun vs H1 q => ?_
  obtain ⟨ρ1, h1, ds, r1, x1, rs, e1, p1⟩ := q
  exact ⟨by rw [rs.length, hlen _ _ _ _ e1, h4, har], ρ1, h1, ds, r1, rs, p1⟩

/-! ### methods of built-in types -/
theorem Rel.tyV {K : PySem.W.Frag} {ρ : Rho} {H : Hp} {h : Hs} {d : D} {x : V} {T : String} (q : Rel K ρ h.length H d x) (r : HR K ca ρ H h) (ht : tyOf h d = some T) (hT : T = "list" ∨ T = "dict" ∨ T = "str") : L2.tyV K T x H := by
  cases q with
  | non => cases ht; rcases hT with h | h | h <;> exact absurd h (by decide)
  | bl b => cases ht; rcases hT with h | h | h <;> exact absurd h (by decide)
  | int i => cases ht; rfl
  | str s => cases ht; rfl
  | tup q rs => cases ht; rcases hT with h | h | h <;> exact absurd h (by decide)
  | lst q hn rs => cases ht; exact .inl ⟨rfl, _, SqL.of q⟩
  | fro q hn rs => cases ht
  | frk q rs => cases ht
  | ref hm =>
    simp only [tyOf] at ht
    split at ht
    · rename_i z
      cases ht
      obtain ⟨vs, h1, _⟩ := Rel.cellLst r z
      exact .inl ⟨rfl, _, SqL.of h1⟩
    · rename_i z
      cases ht
      obtain ⟨kv, h1, _⟩ := r.cell _ _ z
      exact .inr (.inr (.inl ⟨rfl, .inl ⟨_, h1⟩⟩))
    · cases ht
def methE (T : String) (f : D → List D → Hs → R D) (eo ea : Sl → Hs → R D) : Sl → Hs → R D := fun sl h => (eo sl h).bind fun x h1 => if tyOf h1 x = some T then (ea sl h1).bind fun y h2 => match y with
      | .tup ys => f x ys h2
      | _ => .stuck
    else .stuck
theorem d_mt (f : D → List D → Hs → R D) {T : String} {name : Str} {id : String} {o : Expr} {eo : Sl → Hs → R D} {ap : Pos} (pa : PlainAttrs T) (slot : Slot T name id) (hty : typeOf (.builtin id) = pure (.type "method_descriptor")) (hm : MtR X id (rMt X.K ca f))
    (hT : T = "list" ∨ T = "dict" ∨ T = "str")
    (hb : isCall0 o = false) (hline : (ap.endLine == pos.line) = true) (hst : es.all starOk = true) (hn : es.length < 29) (ho : PE X o (tD X.K ca W eo)) (ha : PA X es (tA X.K ca W ea)) (h0 : es = [] → ea = fun _ h => .ok (.tup []) h) :
    PE X (.Call (.Attribute o name ap) es [] pos) (tD X.K ca W (methE T f eo ea)) := by
  cases es with
  | nil =>
    refine PE.imp (pe_bm0 pa slot hty hm ho (base_of hb) hline) fun σ H Q t => ?_
    obtain ⟨ρ, h, sl, r, s, p⟩ := t
    rw [h0 rfl] at p
    refine tD.imp (seqP r s p) fun v H1 q => ?_
    obtain ⟨ρ1, h1, d, r1, x1, qd, _, p1⟩ := q
    split at p1
    · rename_i ht
      exact ⟨qd.tyV r1 ht hT, ρ1, h1, d, [], _, r1, qd, .nil, p1⟩
    · exact p1.elim
  | cons a es =>
    have hst' := hst
    rw [List.all_cons, Bool.and_eq_true] at hst'
    have hfew : ((backTo pos (starEach (a :: es) X.env)).all (fun x => !x.1) && (backToKw pos (keywordEach [] X.env)).all (fun x => x.1.isSome)
      && decide ((a :: es).length + ([] : List Keyword).length + (if ([] : List Keyword).isEmpty then 0 else 1) < 30)) = true := by
      rw [star_all hst]
      show (true && true && decide ((a :: es).length + 0 + 0 < 30)) = true
      rw [decide_eq_true (by omega)]
      rfl
    refine PE.imp (pe_bm pa slot hty hm ho ha (base_of hb) hfew hline (starEach_cons hst'.1) (star_any hst'.2)) fun σ H Q t => ?_
    obtain ⟨ρ, h, sl, r, s, p⟩ := t
    refine tD.imp (seqP r s p) fun v H1 q => ?_
    obtain ⟨ρ1, h1, d, r1, x1, qd, _, p1⟩ := q
    split at p1
    · rename_i ht
      refine ⟨qd.tyV r1 ht hT, tA.imp (seqA (g := fun ys h2 => f d ys h2) r1 (s.mono x1 r) p1) fun vs H2 q => ?_⟩
      obtain ⟨ρ2, h2, ds, r2, x2, rs, _, p2⟩ := q
      exact ⟨ρ2, h2, d, ds, _, r2, qd.mono x2 r1, rs, p2⟩
    · exact p1.elim
theorem d_meth (m : Mt) {o : Expr} {eo : Sl → Hs → R D} {ap : Pos} (hb : isCall0 o = false) (hline : (ap.endLine == pos.line) = true) (hst : es.all starOk = true) (hn : es.length < 29) (ho : PE X o (tD X.K ca W eo)) (ha : PA X es (tA X.K ca W ea)) (h0 : es = [] → ea = fun _ h => .ok (.tup []) h) :
    PE X (.Call (.Attribute o (mtStr m) ap) es [] pos) (tD X.K ca W (methE (mtTy m) (mtD m) eo ea)) := by
  cases m with
  | append => exact d_mt mtAppend PySem.F.plainAttrs_list PySem.F.slot_list_append PySem.F.type_list_append mt_appendD (.inl rfl) hb hline hst hn ho ha h0
  | extend => exact d_mt mtExtend PySem.F.plainAttrs_list PySem.F.slot_list_extend PySem.F.type_list_extend mt_extendD (.inl rfl) hb hline hst hn ho ha h0
  | pop => exact d_mt mtPop PySem.F.plainAttrs_list PySem.F.slot_list_pop PySem.F.type_list_pop mt_popD (.inl rfl) hb hline hst hn ho ha h0
  | split => exact d_mt mtSplit PySem.F.plainAttrs_str PySem.F.slot_str_split PySem.F.type_str_split mt_splitD (.inr (.inr rfl)) hb hline hst hn ho ha h0
end
end DI

/-! DI, part J: comprehensions. -/
namespace DI
open PySem PySem.Spec PyProof.Rows L2

section
variable {X : Cx} {ca : Nat → Addr} {W : WX} {N : List Str} {sc : Scope} {cm : Bool} {k : Nat}

theorem lookup_relabel {env : Env} : ∀ {names : List (Str × NameKind)} {x : Str} {kd : NameKind}, names.lookup x = some kd →
    (names.map fun (n, k) => if (k == NameKind.free && env.scope.kind == .function && env.kindOf n == some .cell) then (n, NameKind.cell) else (n, k)).lookup x = some kd ∨
    (kd = .free ∧ (names.map fun (n, k) => if (k == NameKind.free && env.scope.kind == .function && env.kindOf n == some .cell) then (n, NameKind.cell) else (n, k)).lookup x = some .cell)
  | [], _, _, h => by simp at h
  | (n, kk) :: r, x, kd, h => by
    have ih := @lookup_relabel env r x kd
    show List.lookup x ((if (kk == NameKind.free && env.scope.kind == .function && env.kindOf n == some .cell) = true then (n, NameKind.cell) else (n, kk)) :: _) = _ ∨ _ ∧
      List.lookup x ((if (kk == NameKind.free && env.scope.kind == .function && env.kindOf n == some .cell) = true then (n, NameKind.cell) else (n, kk)) :: _) = _
    cases hx : x == n with
    | true =>
      simp only [List.lookup_cons, hx] at h
      cases h
      by_cases hc : (kk == NameKind.free && env.scope.kind == .function && env.kindOf n == some .cell) = true
      · have : kk = .free := by
          simp only [Bool.and_eq_true, beq_iff_eq] at hc
          exact hc.1.1
        refine .inr ⟨this, ?_⟩
        rw [if_pos hc]; simp [List.lookup_cons, hx]
      · refine .inl ?_
        rw [if_neg hc]; simp [List.lookup_cons, hx]
    | false =>
      simp only [List.lookup_cons, hx] at h
      have := ih h
      by_cases hc : (kk == NameKind.free && env.scope.kind == .function && env.kindOf n == some .cell) = true
      · rw [if_pos hc]; simp only [List.lookup_cons, hx]; exact this
      · rw [if_neg hc]; simp only [List.lookup_cons, hx]; exact this

/-- within a comprehension -/
theorem OkX.inBlk (o : OkX W k X N sc true) {scope : Scope} (s : Shared) (H : Hp) (C : Addr) (cl : List (Str × Addr)) (fp : List Addr) :
    OkX (fun _ _ _ _ => False) k (X.blk s H scope (compEnvC scope cl C X.env) fp) N scope true where
  hN := o.hN
  nd := o.nd
  vis := fun x hx => by
    unfold isVis at hx
    have lk := @lookup_relabel X.env scope.names x
    show ((relabel scope X.env).names.lookup x = _ ∨ _ = _ ∨ _ = _)
    split at hx
    · rcases lk ‹_› with h | ⟨h, _⟩
      · exact .inl h
      · cases h
    · rcases lk ‹_› with h | ⟨h, _⟩
      · exact .inr (.inl h)
      · cases h
    · rcases lk ‹_› with h | ⟨_, h⟩
      · exact .inr (.inr h)
      · exact .inr (.inl h)
    · cases hx
  loc := fun x hx => by
    unfold isLoc at hx
    have lk := @lookup_relabel X.env scope.names x
    split at hx
    · rcases lk ‹_› with h | ⟨h, _⟩
      · exact ⟨.inl h, .inr h⟩
      · cases h
    · rename_i z
      rcases lk z with h | ⟨h, _⟩
      · refine ⟨.inr h, .inl ?_⟩
        show (scope.names.lookup x == some .cell) = true
        rw [z]; rfl
      · cases h
    · cases hx
  gl := fun x hx => by
    unfold isGl at hx
    have lk := @lookup_relabel X.env scope.names x
    split at hx
    · rcases lk ‹_› with h | ⟨h, _⟩
      · exact h
      · cases h
    · cases hx
  blk := fun scope' own h => by
    have h0 := blkOk_by h
    refine ⟨h0.kind, h0.uniq, h0.ix, fun y hy hf => ?_, h0.own⟩
    have lk := @lookup_relabel X.env scope.names y.1
    rcases h0.free y hy hf with z | z
    · rcases lk z with h | ⟨h, _⟩
      · exact .inl h
      · cases h
    · rcases lk z with h | ⟨_, h⟩
      · exact .inr h
      · exact .inl h
  calm := fun _ => o.calm rfl
  units := o.units
  tk := takes0

def stillE (k : ItK) (v : D) (items : List D) : Hs → Bool := fun h2 => decide (itemsOf k v h2 = some items)
def turnE (own : List Nat) (tg : Tg) (ec ee : Sl → Hs → R D) (sl : Sl) : D → Hs → R (Option D) := fun x h2 => match setTg tg [x] (wipeD sl own) with
  | some sl2 => (ec sl2 h2).calm.bind fun t h3 => match truth h3 t with
    | some true => (ee sl2 h3).calm.bind fun y h4 => .ok (some y) h4
    | some false => .ok none h3
    | none => .stuck
  | none => .stuck
def lcE (fl : Bool) (own : List Nat) (tg : Tg) (k : ItK) (es ec ee : Sl → Hs → R D) : Sl → Hs → R D := fun sl h => (es sl h).bind fun v h1 => match itemsOf k v h1 with
  | some items => (lcLoop (stillE k v items) (turnE own tg ec ee sl) items [] h1).bind fun ys h5 => mkL fl ys h5
  | none => .stuck

theorem tst_bl {ev : Sl → Hs → R D} {sl : Sl} {h : Hs} : (∃ b, ev = fun _ h => .ok (.bl b) h) → True := fun _ => trivial

/-! ### the list that grows is hidden -/
def hid (ρ : Rho) (p : Addr) : Rho := ⟨ρ.f, fun a => ρ.Z a ∨ a = p⟩
section
variable {K : PySem.W.Frag} {ρ : Rho} {H : Hp} {h : Hs} {p : Addr} {o : HO} {n : Nat}
theorem HR.hide (r : HR K ca ρ H h) (hp : H p = none) (us : List V) : HR K ca (hid ρ p) (upd H p (.lst us)) h ∧ Ext ρ h.length H (hid ρ p) h.length (upd H p (.lst us)) := by
  generalize ho : HO.lst us = o
  have e : Ext ρ h.length H (hid ρ p) h.length (upd H p o) := ⟨Nat.le_refl _, fun _ _ => rfl, fun m h1 h2 => absurd h2 (Nat.not_lt.mpr h1), fun a o' ha _ => by
    rw [upd_ne (ne_of_none ha hp)]; exact ha, fun a z => .inl z, fun a z => by
      rcases z with z | z
      · exact .inl z
      · rw [z]; exact .inr hp⟩
  refine ⟨⟨r.inj, fun i c hc => (r.cell i c hc).mono e r fun o' ha => by rw [upd_ne (ne_of_none ha hp)]; exact ha, fun z hz => ?_⟩, e⟩
  rcases hz with hz | hz
  · exact ⟨let ⟨o', q⟩ := (r.zt z hz).1; ⟨o', by rw [upd_ne (ne_of_none q hp)]; exact q⟩, (r.zt z hz).2⟩
  · rw [hz]
    exact ⟨⟨us, by rw [upd_same, ho]⟩, r.newNe hp⟩
mutual
theorem Rel.atZ (hz : ρ.Z p) (hp : ∃ ws, H p = some (.lst ws)) {d : D} {v : V} (q : Rel K ρ n H d v) : Rel K ρ n (upd H p o) d v := by
  cases q with
  | non => exact .non
  | bl b => exact .bl b
  | int i => exact .int i
  | str s => exact .str s
  | ref hm => exact .ref hm
  | tup q rs =>
    refine .tup ?_ (Rels.atZ hz hp rs)
    obtain ⟨ws, hw⟩ := hp
    rcases q with (q | ⟨o, q⟩) | q
    · refine .inl (.inl ?_)
      rw [upd_ne (ne_of q hw (by intro z; cases z))]; exact q
    · refine .inl (.inr ⟨o, ?_⟩)
      rw [upd_ne (ne_of q hw (by intro z; cases z))]; exact q
    · exact .inr q
  | lst q hn rs =>
    refine .lst ?_ hn (Rels.atZ hz hp rs)
    rw [upd_ne (fun z => hn.2 (by rw [z]; exact hz))]; exact q
  | fro q hn rs =>
    obtain ⟨o, q⟩ := q
    refine .fro ⟨o, ?_⟩ hn (Rels.atZ hz hp rs)
    rw [upd_ne (fun z => hn.2 (by rw [z]; exact hz))]; exact q
  | frk q rs => exact .frk q (Rels.atZ hz hp rs)
theorem Rels.atZ (hz : ρ.Z p) (hp : ∃ ws, H p = some (.lst ws)) {d : List D} {v : List V} (q : Rels K ρ n H d v) : Rels K ρ n (upd H p o) d v := by
  cases q with
  | nil => exact .nil
  | cons q rs => exact .cons (Rel.atZ hz hp q) (Rels.atZ hz hp rs)
end
theorem Rkv.atZ (hz : ρ.Z p) (hp : ∃ ws, H p = some (.lst ws)) {κ : Type} : ∀ {ds : List (κ × D)} {vs : List (κ × V)}, Rkv K ρ n H ds vs → Rkv K ρ n (upd H p o) ds vs
  | _, _, .nil => .nil
  | _, _, .cons q rs => .cons (q.atZ hz hp) (Rkv.atZ hz hp rs)
theorem HR.atZ (r : HR K ca ρ H h) (hz : ρ.Z p) (hp : ∃ ws, H p = some (.lst ws)) {us : List V} : HR K ca ρ (upd H p (.lst us)) h where
  inj := r.inj
  cell := fun i c hc => by
    have ne : ρ i ≠ p := (r.zt p hz).2 i (List.getElem?_eq_some_iff.mp hc).1
    have q := r.cell i c hc
    cases c with
    | lst xs => obtain ⟨vs, e1, q⟩ := q; exact ⟨vs, by rw [upd_ne ne]; exact e1, q.atZ hz hp⟩
    | dic kvs => obtain ⟨vs, e1, q⟩ := q; exact ⟨vs, by rw [upd_ne ne]; exact e1, q.atZ hz hp⟩
    | ins c fs => obtain ⟨dx, vs, e1, q⟩ := q; exact ⟨dx, vs, by rw [upd_ne ne]; exact e1, q.atZ hz hp⟩
  zt := fun z hz' => ⟨by
    by_cases e : z = p
    · exact ⟨us, by rw [e, upd_same]⟩
    · rw [upd_ne e]; exact (r.zt z hz').1, (r.zt z hz').2⟩
/-- .. and no more -/
def drp (ρ : Rho) (p : Addr) : Rho := ⟨ρ.f, fun a => ρ.Z a ∧ a ≠ p⟩
mutual
theorem Rel.drp {d : D} {v : V} (q : Rel K ρ n H d v) : Rel K (drp ρ p) n H d v := by
  cases q with
  | non => exact .non
  | bl b => exact .bl b
  | int i => exact .int i
  | str s => exact .str s
  | ref hm => exact .ref (ρ := DI.drp ρ p) hm
  | tup q rs => exact .tup q (Rels.drp rs)
  | lst q hn rs => exact .lst q ⟨hn.1, fun z => hn.2 z.1⟩ (Rels.drp rs)
  | fro q hn rs => exact .fro q ⟨hn.1, fun z => hn.2 z.1⟩ (Rels.drp rs)
  | frk q rs => exact .frk q (Rels.drp rs)
theorem Rels.drp {d : List D} {v : List V} (q : Rels K ρ n H d v) : Rels K (drp ρ p) n H d v := by
  cases q with
  | nil => exact .nil
  | cons q rs => exact .cons (Rel.drp q) (Rels.drp rs)
end
theorem Rkv.drp {κ : Type} : ∀ {ds : List (κ × D)} {vs : List (κ × V)}, Rkv K ρ n H ds vs → Rkv K (drp ρ p) n H ds vs
  | _, _, .nil => .nil
  | _, _, .cons q rs => .cons q.drp (Rkv.drp rs)
theorem HR.drp (r : HR K ca ρ H h) : HR K ca (drp ρ p) H h where
  inj := r.inj
  cell := fun i c hc => by
    have q := r.cell i c hc
    cases c with
    | lst xs => obtain ⟨vs, e1, q⟩ := q; exact ⟨vs, e1, q.drp⟩
    | dic kvs => obtain ⟨vs, e1, q⟩ := q; exact ⟨vs, e1, q.drp⟩
    | ins c fs => obtain ⟨dx, vs, e1, q⟩ := q; exact ⟨dx, vs, e1, q.drp⟩
  zt := fun z hz => r.zt z hz.1
theorem Ext.drp {ρ0 : Rho} {n0 : Nat} {H0 : Hp} (e : Ext ρ0 n0 H0 ρ n H) (hp : ¬ ρ0.Z p) : Ext ρ0 n0 H0 (drp ρ p) n H :=
  ⟨e.le, e.agree, e.fresh, e.keep, fun a z => ⟨e.z1 a z, fun w => hp (by rw [← w]; exact z)⟩, fun a z => e.z2 a z.1⟩
end

mutual
theorem Rel.grow {K : PySem.W.Frag} {ρ : Rho} {n : Nat} {H : Hp} {p : Addr} (hz : ρ.Z p) {d : D} {v : V} (q : Rel K ρ n H d v) : Rel K (ext1 (DI.drp ρ p) n p) (n + 1) H d v := by
  cases q with
  | non => exact .non
  | bl b => exact .bl b
  | int i => exact .int i
  | str s => exact .str s
  | ref hm =>
    have e := ext1_ne (ρ := DI.drp ρ p) (k := n) (p := p) (Nat.ne_of_lt hm)
    have := Rel.ref (K := K) (ρ := ext1 (DI.drp ρ p) n p) (n := n + 1) (H := H) (Nat.lt_succ_of_lt hm)
    rw [e] at this
    exact this
  | tup q rs => exact .tup q (Rels.grow hz rs)
  | lst q hn rs => exact .lst q ⟨grow_ne hz hn, fun z => hn.2 z.1⟩ (Rels.grow hz rs)
  | fro q hn rs => exact .fro q ⟨grow_ne hz hn, fun z => hn.2 z.1⟩ (Rels.grow hz rs)
  | frk q rs => exact .frk q (Rels.grow hz rs)
theorem Rels.grow {K : PySem.W.Frag} {ρ : Rho} {n : Nat} {H : Hp} {p : Addr} (hz : ρ.Z p) {d : List D} {v : List V} (q : Rels K ρ n H d v) : Rels K (ext1 (DI.drp ρ p) n p) (n + 1) H d v := by
  cases q with
  | nil => exact .nil
  | cons q rs => exact .cons (Rel.grow hz q) (Rels.grow hz rs)
theorem grow_ne {ρ : Rho} {n : Nat} {p a : Addr} (hz : ρ.Z p) (hn : (∀ m, m < n → ρ m ≠ a) ∧ ¬ ρ.Z a) : ∀ m, m < n + 1 → (ext1 (DI.drp ρ p) n p) m ≠ a := fun m hm => by
  by_cases h3 : m = n
  · rw [h3, ext1_same]; exact fun w => hn.2 (w ▸ hz)
  · rw [ext1_ne h3]; exact hn.1 m (by omega)
end
theorem Rkv.grow {K : PySem.W.Frag} {ρ : Rho} {n : Nat} {H : Hp} {p : Addr} (hz : ρ.Z p) {κ : Type} : ∀ {ds : List (κ × D)} {vs : List (κ × V)}, Rkv K ρ n H ds vs → Rkv K (ext1 (DI.drp ρ p) n p) (n + 1) H ds vs
  | _, _, .nil => .nil
  | _, _, .cons q rs => .cons (q.grow hz) (Rkv.grow hz rs)
/-- a list laid behind H0 becomes a value: a cell, or frozen -/
theorem Post.lstDone {K : PySem.W.Frag} {ρ0 ρ : Rho} {n0 : Nat} {H0 H : Hp} {h : Hs} {fl : Bool} {xs : List D} {vs : List V} {p : Addr} {Q : VK} {E : XK} (q : Post K ca ρ0 n0 H0 (mkL fl xs h) Q E) (hp : H0 p = none) (hz : ¬ ρ0.Z p)
    (r : HR K ca ρ H h) (e : Ext ρ0 n0 H0 ρ h.length H) (hzp : ρ.Z p) (hH : H p = some (.lst vs)) (rs : Rels K ρ h.length H xs vs) : Q (.ref p) H := by
  have out := (r.zt p hzp).2
  have r1 := r.drp (p := p)
  have e1 := e.drp hz
  have rs1 := rs.drp (p := p)
  unfold mkL at q
  split at q
  · cases fl with
    | false => exact q _ H _ r1 e1 (.lst hH ⟨out, fun z => z.2 rfl⟩ rs1)
    | true =>
      have e2 : Ext ρ0 n0 H0 (ext1 (drp ρ p) h.length p) (h ++ [Cell.lst xs]).length H := by
        refine ⟨by have := e.le; simp; omega, fun m hm => ?_, fun m h1 h2 => ?_, e1.keep, e1.z1, e1.z2⟩
        · rw [ext1_ne (by have := e.le; omega)]; exact e1.agree m hm
        · by_cases h3 : m = h.length
          · rw [h3, ext1_same]; exact hp
          · rw [ext1_ne h3]; exact e1.fresh m h1 (by simp at h2; omega)
      have r2 : HR K ca (ext1 (drp ρ p) h.length p) H (h ++ [Cell.lst xs]) := by
        refine ⟨fun i j hi hj z => ?_, fun i c hi => ?_, fun z hz' => ?_⟩
        · simp at hi hj
          by_cases h1 : i = h.length
          · by_cases h2 : j = h.length
            · omega
            · rw [h1, ext1_same, ext1_ne h2] at z
              exact absurd z.symm (out j (by omega))
          · by_cases h2 : j = h.length
            · rw [h2, ext1_same, ext1_ne h1] at z
              exact absurd z (out i (by omega))
            · rw [ext1_ne h1, ext1_ne h2] at z
              exact r.inj i j (by omega) (by omega) z
        · have hl : (h ++ [Cell.lst xs]).length = h.length + 1 := by simp
          rw [hl]
          by_cases h1 : i < h.length
          · rw [List.getElem?_append_left h1] at hi
            rw [ext1_ne (Nat.ne_of_lt h1)]
            have q := r.cell i c hi
            cases c with
            | lst xs => obtain ⟨vs, e1, q⟩ := q; exact ⟨vs, e1, Rels.grow hzp q⟩
            | dic kvs => obtain ⟨vs, e1, q⟩ := q; exact ⟨vs, e1, Rkv.grow hzp q⟩
            | ins c fs => obtain ⟨dx, vs, e1, q⟩ := q; exact ⟨dx, vs, e1, Rkv.grow hzp q⟩
          · have h2 : i = h.length := by
              have := (List.getElem?_eq_some_iff.mp hi).1
              simp at this; omega
            subst h2
            simp at hi
            subst hi
            rw [ext1_same]
            exact ⟨vs, hH, Rels.grow hzp rs⟩
        · have q := r1.zt z hz'
          refine ⟨q.1, fun m hm => ?_⟩
          simp at hm
          by_cases h3 : m = h.length
          · rw [h3, ext1_same]; exact fun w => hz'.2 w.symm
          · rw [ext1_ne h3]; exact q.2 m (by omega)
      have := q _ H (.ref p) r2 e2 (by
        have : (V.ref p) = V.ref (ext1 (drp ρ p) h.length p h.length) := by rw [ext1_same]
        rw [this]
        exact .ref (by simp))
      exact this
  · exact q.elim
end
end DI

/-! DI, part U (under way): a dict that was laid empty becomes a cell. -/
namespace DI
open PySem PySem.Spec PyProof.Rows L2
section
variable {K : PySem.W.Frag} {ca : Nat → Addr} {ρ : Rho} {H : Hp} {h : Hs} {p : Addr} {o : HO} {n : Nat}
theorem neD {a : Addr} {u : HO} (hp : ∃ kv, H p = some (.dK kv)) (ha : H a = some u) (hu : ∀ kv, u ≠ .dK kv) : a ≠ p := fun e => by
  obtain ⟨kv, hp⟩ := hp
  rw [e, hp] at ha
  cases ha
  exact hu _ rfl
theorem outD {a : Addr} (hn : (∀ m, m < n → ρ m ≠ a) ∧ ¬ ρ.Z a) (ha : a ≠ p) : (∀ m, m < n + 1 → (ext1 ρ n p) m ≠ a) ∧ ¬ (ext1 ρ n p).Z a := ⟨fun m hm => by
  by_cases h3 : m = n
  · rw [h3, ext1_same]; exact ha.symm
  · rw [ext1_ne h3]; exact hn.1 m (by omega), hn.2⟩
mutual
theorem Rel.newD (hp : ∃ kv, H p = some (.dK kv)) {d : D} {v : V} (q : Rel K ρ n H d v) : Rel K (ext1 ρ n p) (n + 1) (upd H p o) d v := by
  cases q with
  | non => exact .non
  | bl b => exact .bl b
  | int i => exact .int i
  | str s => exact .str s
  | ref hm =>
    have e := ext1_ne (ρ := ρ) (k := n) (p := p) (Nat.ne_of_lt hm)
    have := Rel.ref (K := K) (ρ := ext1 ρ n p) (n := n + 1) (H := upd H p o) (Nat.lt_succ_of_lt hm)
    rw [e] at this
    exact this
  | tup q rs =>
    refine .tup ?_ (Rels.newD hp rs)
    rcases q with (q | ⟨ob, q⟩) | q
    · exact .inl (.inl (by rw [upd_ne (neD hp q (fun _ => HO.noConfusion))]; exact q))
    · exact .inl (.inr ⟨ob, by rw [upd_ne (neD hp q (fun _ => HO.noConfusion))]; exact q⟩)
    · exact .inr q
  | lst q hn rs =>
    have ne := neD hp q (fun _ => HO.noConfusion)
    exact .lst (by rw [upd_ne ne]; exact q) (outD hn ne) (Rels.newD hp rs)
  | fro q hn rs =>
    obtain ⟨ob, q⟩ := q
    have ne := neD hp q (fun _ => HO.noConfusion)
    exact .fro ⟨ob, by rw [upd_ne ne]; exact q⟩ (outD hn ne) (Rels.newD hp rs)
  | frk q rs => exact .frk q (Rels.newD hp rs)
theorem Rels.newD (hp : ∃ kv, H p = some (.dK kv)) {d : List D} {v : List V} (q : Rels K ρ n H d v) : Rels K (ext1 ρ n p) (n + 1) (upd H p o) d v := by
  cases q with
  | nil => exact .nil
  | cons q rs => exact .cons (Rel.newD hp q) (Rels.newD hp rs)
end
theorem Rkv.newD (hp : ∃ kv, H p = some (.dK kv)) {κ : Type} : ∀ {ds : List (κ × D)} {vs : List (κ × V)}, Rkv K ρ n H ds vs → Rkv K (ext1 ρ n p) (n + 1) (upd H p o) ds vs
  | _, _, .nil => .nil
  | _, _, .cons q rs => .cons (q.newD hp) (Rkv.newD hp rs)
theorem HR.newD (r : HR K ca ρ H h) (hp : ∃ kv, H p = some (.dK kv)) (out : ∀ m, m < h.length → ρ m ≠ p) (nz : ¬ ρ.Z p) {kvs : List (L2.Key × D)} {kv' : List (L2.Key × V)} (q : Rkv K ρ h.length H kvs kv') :
    HR K ca (ext1 ρ h.length p) (upd H p (.dK kv')) (h ++ [.dic kvs]) := by
  refine ⟨fun i j hi hj z => ?_, fun i c hi => ?_, fun z hz' => ?_⟩
  · simp at hi hj
    by_cases h1 : i = h.length
    · by_cases h2 : j = h.length
      · omega
      · rw [h1, ext1_same, ext1_ne h2] at z
        exact absurd z.symm (out j (by omega))
    · by_cases h2 : j = h.length
      · rw [h2, ext1_same, ext1_ne h1] at z
        exact absurd z (out i (by omega))
      · rw [ext1_ne h1, ext1_ne h2] at z
        exact r.inj i j (by omega) (by omega) z
  · have hl : (h ++ [Cell.dic kvs]).length = h.length + 1 := by simp
    rw [hl]
    by_cases h1 : i < h.length
    · rw [List.getElem?_append_left h1] at hi
      rw [ext1_ne (Nat.ne_of_lt h1)]
      have q := r.cell i c hi
      have ne := out i h1
      cases c with
      | lst xs => obtain ⟨vs, e1, q⟩ := q; exact ⟨vs, by rw [upd_ne ne]; exact e1, Rels.newD hp q⟩
      | dic kvs => obtain ⟨vs, e1, q⟩ := q; exact ⟨vs, by rw [upd_ne ne]; exact e1, Rkv.newD hp q⟩
      | ins c fs => obtain ⟨dx, vs, e1, q⟩ := q; exact ⟨dx, vs, by rw [upd_ne ne]; exact e1, Rkv.newD hp q⟩
    · have h2 : i = h.length := by
        have := (List.getElem?_eq_some_iff.mp hi).1
        simp at this; omega
      subst h2
      simp at hi
      subst hi
      rw [ext1_same]
      exact ⟨kv', upd_same, Rkv.newD hp q⟩
  · have q := r.zt z hz'
    obtain ⟨ws, q1⟩ := q.1
    have ne : z ≠ p := fun e => nz (e ▸ hz')
    refine ⟨⟨ws, by rw [upd_ne ne]; exact q1⟩, fun m hm => ?_⟩
    simp at hm
    by_cases h3 : m = h.length
    · rw [h3, ext1_same]; exact ne.symm
    · rw [ext1_ne h3]; exact q.2 m (by omega)
theorem Ext.newD {ρ0 : Rho} {n0 : Nat} {H0 : Hp} {o0 : HO} (e : Ext ρ0 n0 (upd H0 p o0) ρ n H) (hp : H0 p = none) : Ext ρ0 n0 H0 (ext1 ρ n p) (n + 1) (upd H p o) where
  le := by have := e.le; omega
  agree := fun m hm => by rw [ext1_ne (by have := e.le; omega)]; exact e.agree m hm
  fresh := fun m h1 h2 => by
    by_cases h3 : m = n
    · rw [h3, ext1_same]; exact hp
    · rw [ext1_ne h3]
      have q := e.fresh m h1 (by omega)
      by_cases h4 : ρ m = p
      · rw [h4]; exact hp
      · rw [upd_ne h4] at q; exact q
  keep := fun a u ha hn => by
    have ne := ne_of_none ha hp
    rw [upd_ne ne]
    exact e.keep a u (by rw [upd_ne ne]; exact ha) hn
  z1 := e.z1
  z2 := fun a h => by
    rcases e.z2 a h with q | q
    · exact .inl q
    · refine .inr ?_
      by_cases h4 : a = p
      · rw [h4]; exact hp
      · rw [upd_ne h4] at q; exact q
theorem pairs_rel : ∀ {xs : List D} {kvs : List (L2.Key × D)} {ps : List (V × V)} {vs : List V}, Rels K ρ n H xs vs → flat2 ps = vs → pairsOf xs = some kvs → ∃ kv' : List (L2.Key × V), ps = kv'.map (fun kv => (kV kv.1, kv.2)) ∧ Rkv K ρ n H kvs kv'
  | [], kvs, ps, vs, rs, e, h => by
    cases h
    cases rs
    cases ps with
    | nil => exact ⟨[], rfl, .nil⟩
    | cons p r => cases e
  | [x], kvs, ps, vs, rs, e, h => by cases x <;> simp [pairsOf] at h
  | x :: y :: r, kvs, ps, vs, rs, e, h => by
    cases rs with
    | cons q1 rs => cases rs with
      | cons q2 rs => cases ps with
        | nil => cases e
        | cons p pr =>
          obtain ⟨p1, p2⟩ := p
          cases e
          cases x <;> first | (simp [pairsOf] at h; done) | skip
          all_goals
            simp only [pairsOf, Option.map_eq_some_iff] at h
            obtain ⟨k2, h2, rfl⟩ := h
            obtain ⟨kv', e1, e2⟩ := pairs_rel rs rfl h2
            cases q1
            first
              | exact ⟨(Sum.inl _, _) :: kv', by rw [e1]; rfl, .cons q2 e2⟩
              | exact ⟨(Sum.inr _, _) :: kv', by rw [e1]; rfl, .cons q2 e2⟩
theorem flat2_inj : ∀ {a b : List (V × V)}, flat2 a = flat2 b → a = b
  | [], [], _ => rfl
  | [], (_, _) :: _, h => by cases h
  | (_, _) :: _, [], h => by cases h
  | (x, y) :: a, (z, u) :: b, h => by
    simp only [flat2, List.cons.injEq] at h
    obtain ⟨h1, h2, h3⟩ := h
    rw [h1, h2, flat2_inj h3]
theorem pairs_as {K : PySem.W.Frag} {W : WX} {ea : Sl → Hs → R D} {trs : List (TE × TE)} (hr : ∀ (σ : L2.St) (H : Hp) (Q : List V → Hp → Prop), tA K ca W ea σ H Q → tPairs trs σ H fun ps H1 => Q (flat2 ps) H1) {σ : L2.St} {H : Hp} {Q' : List (V × V) → Hp → Prop}
    (t : tA K ca W ea σ H fun vs H1 => ∀ ps, flat2 ps = vs → Q' ps H1) : tPairs trs σ H Q' := by
  have h := hr σ H _ t
  have e : (fun ps H1 => ∀ ps', flat2 ps' = flat2 ps → Q' ps' H1) = Q' := by
    funext ps H1
    exact propext ⟨fun h => h ps rfl, fun h ps' e => by rw [flat2_inj e]; exact h⟩
  rw [← e]
  exact h
theorem Rkv.fold : ∀ {more : List (L2.Key × D)} {more' : List (L2.Key × V)} {acc : List (L2.Key × D)} {acc' : List (L2.Key × V)}, Rkv K ρ n H more more' → Rkv K ρ n H acc acc' →
    Rkv K ρ n H (more.foldl (fun acc kv => putA acc kv.1 kv.2) acc) (more'.foldl (fun acc kv => putK acc kv.1 kv.2) acc')
  | [], _, _, _, .nil, q => q
  | (k, d) :: r, _, acc, acc', .cons (v := v) (vs := vs) qd rs, q => Rkv.fold (more := r) (more' := vs) (acc := putA acc k d) (acc' := putK acc' k v) rs (Rkv.put qd q)
theorem Rkv.merge {kvs : List (L2.Key × D)} {kv' : List (L2.Key × V)} (q : Rkv K ρ n H kvs kv') : Rkv K ρ n H (mergeD kvs) (mergeK [] kv') := Rkv.fold q .nil
theorem d_dic {X : Cx} {W : WX} {ea : Sl → Hs → R D} {ks : List (Option Expr)} {vs : List Expr} {pos : Pos} {trs : List (TE × TE)} (hp : PPs X pos ks vs trs) (hall : ks.all (·.isSome) = true) (hl : ks.length = vs.length) (h0 : ks ≠ []) (h15 : ks.length ≤ 15)
    (hr : ∀ (σ : L2.St) (H : Hp) (Q : List V → Hp → Prop), tA X.K ca W ea σ H Q → tPairs trs σ H fun ps H1 => Q (flat2 ps) H1) :
    PE X (.Dict ks vs pos) (tD X.K ca W fun sl h => (ea sl h).bind fun x h1 => match x with | .tup xs => dispD xs h1 | _ => .stuck) := by
  refine PE.imp (pe_disp hp hall hl h0 h15) fun σ H Q t => ?_
  obtain ⟨ρ, h, sl, r, s, m⟩ := t
  intro p hpn
  obtain ⟨r0, e0⟩ := r.new hpn (.dK [])
  have m0 := Post.mono (r := R.bind _ _) m e0 r0
  refine pairs_as hr (tA.imp (seqA (g := fun xs h1 => dispD xs h1) r0 (s.mono e0 r) m0) fun us H2 q ps eps => ?_)
  obtain ⟨ρ2, h2, ds, r2, x2, rs, eqv, m2⟩ := q
  have hp2 : H2 p = some (.dK []) := x2.keep _ _ upd_same (r.newNe hpn)
  refine ⟨hp2, ?_⟩
  unfold dispD at m2
  split at m2
  · rename_i kvs ek
    split at m2
    · rename_i h15'
      obtain ⟨kv', e1, q⟩ := pairs_rel rs eps ek
      have out : ∀ m, m < h2.length → ρ2 m ≠ p := x2.out upd_same (r.newNe hpn)
      have nz : ¬ ρ2.Z p := x2.outZ upd_same (r.newZ hpn)
      refine ⟨kv', e1, by rw [q.length]; exact h15', ?_⟩
      have r3 := r2.newD ⟨_, hp2⟩ out nz q.merge
      have e3 : Ext ρ h.length H (ext1 ρ2 h2.length p) (h2.length + 1) (upd H2 p (.dK (mergeK [] kv'))) := Ext.newD x2 hpn
      have hl1 : (h2 ++ [Cell.dic (mergeD kvs)]).length = h2.length + 1 := by simp
      simp only [eqv, R.bind, dispD, ek] at m
      rw [if_pos h15'] at m
      refine m _ _ (.ref p) r3 (by rw [hl1]; exact e3) ?_
      have : (V.ref p) = V.ref (ext1 ρ2 h2.length p h2.length) := by rw [ext1_same]
      rw [this, hl1]
      exact .ref (by omega)
    · exact m2.elim
  · exact m2.elim
theorem d_dic0 {X : Cx} {W : WX} {pos : Pos} : PE X (.Dict [] [] pos) (tD X.K ca W fun _ h => .ok (.ref h.length) (h ++ [.dic []])) := PE.imp pe_dnewK fun σ H Q t => by
  obtain ⟨ρ, h, sl, r, s, m⟩ := t
  intro p hp
  obtain ⟨r1, e1⟩ := r.cellNew hp (.dic []) (.dK []) fun ρ' n' _ => ⟨[], upd_same, .nil⟩
  have h1 : (ext1 ρ h.length p) h.length = p := ext1_same
  refine m (ext1 ρ h.length p) _ (.ref p) r1 e1 ?_
  have h2 : V.ref p = V.ref (ext1 ρ h.length p h.length) := by rw [ext1_same]
  rw [h2]
  exact .ref (by simp)
end
end DI

/-! DI, part K: a comprehension's turns. -/
namespace DI
open PySem PySem.Spec PyProof.Rows L2

section
variable {X : Cx} {ca : Nat → Addr} {W : WX} {N : List Str} {sc : Scope} {cm : Bool} {k : Nat}
theorem Ext.updZ {ρ0 ρ : Rho} {n0 n : Nat} {H0 H : Hp} {p : Addr} {o : HO} (e : Ext ρ0 n0 H0 ρ n H) (hp : H0 p = none) : Ext ρ0 n0 H0 ρ n (upd H p o) :=
  ⟨e.le, e.agree, e.fresh, fun a o' ha hn => by rw [upd_ne (ne_of_none ha hp)]; exact e.keep a o' ha hn, e.z1, e.z2⟩

theorem ExtW.updZ {ρ0 ρ : Rho} {n0 n : Nat} {H0 H : Hp} {p : Addr} {o : HO} (e : ExtW ρ0 n0 H0 ρ n H) (hp : ρ0.Z p) : ExtW ρ0 n0 H0 ρ n (upd H p o) :=
  ⟨e.le, e.agree, e.fresh, fun a o' ha hn hz => by rw [upd_ne (fun z => hz (by rw [z]; exact hp))]; exact e.keep a o' ha hn hz, e.z1, e.z2⟩
theorem ExtW.trans {K : PySem.W.Frag} {ρ ρ1 ρ2 : Rho} {n1 n2 : Nat} {H H1 H2 : Hp} {h h1 : Hs} (e1 : ExtW ρ h.length H ρ1 n1 H1) (r : HR K ca ρ1 H1 h1) (hn : n1 = h1.length) (r0 : HR K ca ρ H h) (e2 : ExtW ρ1 n1 H1 ρ2 n2 H2) : ExtW ρ h.length H ρ2 n2 H2 where
  le := Nat.le_trans e1.le e2.le
  agree := fun m hm => (e2.agree m (Nat.lt_of_lt_of_le hm e1.le)).trans (e1.agree m hm)
  fresh := fun m h1' h2' => by
    by_cases hm : m < n1
    · rw [e2.agree m hm]; exact e1.fresh m h1' hm
    · have q := e2.fresh m (Nat.not_lt.mp hm) h2'
      cases z : H (ρ2 m) with
      | none => rfl
      | some o =>
        by_cases hk : ∃ k, k < h.length ∧ ρ k = ρ2 m
        · obtain ⟨k, k1, k2⟩ := hk
          have k3 : k < h1.length := hn ▸ Nat.lt_of_lt_of_le k1 e1.le
          obtain ⟨o', q', _⟩ := r.there k3
          rw [e1.agree k k1, k2, q] at q'
          cases q'
        · by_cases hz : ρ.Z (ρ2 m)
          · obtain ⟨⟨ws, q'⟩, _⟩ := r.zt _ (e1.z1 _ hz)
            rw [q] at q'; cases q'
          · have := e1.keep _ _ z (fun m' hm' z' => hk ⟨m', hm', z'⟩) hz
            rw [q] at this
            cases this
  keep := fun a o ha hn' hz => e2.keep a o (e1.keep a o ha hn' hz) (e1.out ha hn') (e1.outZ ha hz)
  z1 := fun a h => e2.z1 a (e1.z1 a h)
  z2 := fun a h' => by
    rcases e2.z2 a h' with q | q
    · exact e1.z2 a q
    · by_cases hz : ρ.Z a
      · exact .inl hz
      · refine .inr ?_
        cases z : H a with
        | none => rfl
        | some o =>
          by_cases hk : ∃ k, k < h.length ∧ ρ k = a
          · obtain ⟨k, k1, k2⟩ := hk
            obtain ⟨o', q', _⟩ := r.there (hn ▸ Nat.lt_of_lt_of_le k1 e1.le)
            rw [e1.agree k k1, k2, q] at q'
            cases q'
          · have := e1.keep _ _ z (fun m' hm' z' => hk ⟨m', hm', z'⟩) hz
            rw [q] at this
            cases this
theorem SlR.monoW {K : PySem.W.Frag} {ρ ρ1 : Rho} {n1 : Nat} {H H1 : Hp} {h : Hs} {sl : Sl} {σ : L2.St} (s : SlR K ρ h.length H sl σ) (e : ExtW ρ h.length H ρ1 n1 H1) (r : HR K ca ρ H h) : SlR K ρ1 n1 H1 sl σ :=
  ⟨s.1, fun i d hd => let ⟨v, e1, q⟩ := s.2 i d hd; ⟨v, e1, q.monoW e r⟩⟩

theorem lc_turns {own : List Nat} {tg : Tg} {gt : TG} {ik : ItK} {ec ee : Sl → Hs → R D} {tt : TT}
    (hgt : ∀ x σ H Q, (∃ ρ h sl sl1 d, HR X.K ca ρ H h ∧ SlR X.K ρ h.length H sl σ ∧ Rel X.K ρ h.length H d x ∧ setTg tg [d] sl = some sl1 ∧ ∀ σ', SlR X.K ρ h.length H sl1 σ' → (∀ own, tgIn own tg = true → wipe σ' own = wipe σ own) → Q σ' H) → gt x σ H Q)
    (htt : ∀ σ H Q, tT X.K ca (fun _ _ _ _ => False) ec σ H Q → tt σ H Q) (hown : tgIn own tg = true)
    {v : D} {items : List D} {J : It} {ρ0 : Rho} {H0 : Hp} {h0 : Hs} (r0 : HR X.K ca ρ0 H0 h0) (hJ : ItOk X.K ca ρ0 h0.length H0 ik v items J)
    {fl : Bool} {sl : Sl} {σ : L2.St} {Q : VK} {E : XK} {Dl : Addr} (hD : H0 Dl = none) (hs : SlR X.K ρ0 h0.length H0 sl σ)
    (p : Post X.K ca ρ0 h0.length H0 ((lcLoop (stillE ik v items) (turnE own tg ec ee sl) items [] h0).bind fun ys h5 => mkL fl ys h5) Q E) :
    ∃ Wd : Nat → Nat → Hp → Prop, (∃ m, Wd 0 m (upd H0 Dl (.lst []))) ∧ ∀ i m H, Wd i m H → (J.stop i H ∧ Q (.ref Dl) H) ∨ (J.go i H ∧ ∃ Nx : Hp → Prop, (∀ H', Nx H' → ∃ m', m' < m ∧ Wd (i + 1) m' H') ∧
      ∀ x H', J.yld i H x H' → gt x (wipe σ own) H' fun σ2 H2 => wipe σ2 own = wipe σ own ∧ tt σ2 H2 fun b H3 => if b = true then tD X.K ca (fun _ _ _ _ => False) ee σ2 H3 fun y H4 => ∃ acc, H4 Dl = some (.lst acc) ∧ acc.length < sizeLine ∧ Nx (upd H4 Dl (.lst (acc ++ [y]))) else Nx H3) := by
  have hz0 : ¬ ρ0.Z Dl := r0.newZ hD
  let Wd : Nat → Nat → Hp → Prop := fun i m H => i ≤ items.length ∧ m = items.length - i ∧ ∃ ρ h acc vs, HR X.K ca ρ H h ∧ Ext ρ0 h0.length H0 ρ h.length H ∧ ρ.Z Dl ∧ H Dl = some (.lst vs) ∧ Rels X.K ρ h.length H acc vs ∧
    Post X.K ca ρ0 h0.length H0 ((lcLoop (stillE ik v items) (turnE own tg ec ee sl) (items.drop i) acc h).bind fun ys h5 => mkL fl ys h5) Q E
  refine ⟨Wd, ⟨items.length, Nat.zero_le _, rfl, ?_⟩, fun i m H hW => ?_⟩
  · obtain ⟨r1, e1⟩ := r0.hide hD []
    exact ⟨hid ρ0 Dl, h0, [], [], r1, e1, .inr rfl, upd_same, .nil, p⟩
  · obtain ⟨hi, rfl, ρ, h, acc, vs, r, e, hz, hH, ra, p⟩ := hW
    by_cases hl : i < items.length
    · -- a turn
      refine .inr ?_
      have hd : items.drop i = items[i] :: items.drop (i + 1) := List.drop_eq_getElem_cons hl
      rw [hd] at p
      unfold lcLoop at p
      by_cases hst : stillE ik v items h = true
      · rw [if_pos hst] at p
        have hst' : itemsOf ik v h = some items := of_decide_eq_true hst
        refine ⟨hJ.go ρ H h i r e.toW hst' hl, fun H' => Wd (i + 1) (items.length - (i + 1)) H', fun H' hN => ⟨_, by omega, hN⟩, fun x H' hy => ?_⟩
        obtain ⟨r1, e1, qx⟩ := hJ.yld ρ H h i items[i] x H' r e.toW hst' (List.getElem?_eq_getElem hl) hy
        have e01 := e.trans r rfl e1
        have hH1 : H' Dl = some (.lst vs) := e1.keep _ _ hH (r.zt Dl hz).2
        have s1 := hs.mono e01 r0
        unfold turnE at p
        cases h1 : setTg tg [items[i]] (wipeD sl own) with
        | none => rw [h1] at p; exact p.elim
        | some sl2 =>
          rw [h1] at p
          simp only at p
          refine hgt _ _ _ _ ⟨ρ, h, wipeD sl own, sl2, items[i], r1, SlR.wipe s1 own, qx, h1, fun σ2 s2 hw => ?_⟩
          refine ⟨(hw own hown).trans wipe_wipe, htt _ _ _ (tst_seq r1 s2 ?_)⟩
          unfold tst
          cases h2 : ec sl2 h with
          | stuck => rw [h2] at p; exact p.elim
          | ex x h' => rw [h2] at p; exact p.elim
          | ok t h3 =>
            rw [h2] at p
            simp only [R.calm, R.bind] at p ⊢
            cases h4 : truth h3 t with
            | none => rw [h4] at p; exact p.elim
            | some b =>
              rw [h4] at p
              refine ⟨b, rfl, fun ρ3 H3 r3 e3 => ?_⟩
              have e03 := e01.trans r1 rfl e3
              have hz3 := e3.z1 _ hz
              have hH3 : H3 Dl = some (.lst vs) := e3.keep _ _ hH1 (r1.zt Dl hz).2
              have ra3 := (ra.mono e1 r).mono e3 r1
              cases b with
              | false =>
                show Wd (i + 1) (items.length - (i + 1)) H3
                exact ⟨hl, rfl, ρ3, h3, acc, vs, r3, e03, hz3, hH3, ra3, p⟩
              | true =>
                show tD X.K ca (fun _ _ _ _ => False) ee σ2 H3 _
                refine ⟨ρ3, h3, sl2, r3, s2.mono e3 r1, ?_⟩
                cases h5 : ee sl2 h3 with
                | stuck => rw [h5] at p; exact p.elim
                | ex x h' => rw [h5] at p; exact p.elim
                | ok y h6 =>
                  rw [h5] at p
                  simp only at p
                  intro ρ4 H4 w r4 e4 qw
                  have e04 := e03.trans r3 rfl e4
                  have hz4 := e4.z1 _ hz3
                  have hH4 : H4 Dl = some (.lst vs) := e4.keep _ _ hH3 (r3.zt Dl hz3).2
                  by_cases hlen : acc.length < lim
                  · rw [if_pos hlen] at p
                    refine ⟨vs, hH4, by rw [ra3.length]; exact hlen, hl, rfl, ρ4, h6, acc ++ [y], vs ++ [w], r4.atZ hz4 ⟨vs, hH4⟩, e04.updZ hD, hz4, upd_same, ?_, p⟩
                    exact ((ra3.mono e4 r3).atZ hz4 ⟨vs, hH4⟩).append (.cons (qw.atZ hz4 ⟨vs, hH4⟩) .nil)
                  · rw [if_neg hlen] at p; exact p.elim
      · rw [if_neg hst] at p; exact p.elim
    · -- the end
      refine .inl ?_
      have hi' : i = items.length := by omega
      subst hi'
      rw [List.drop_length] at p
      unfold lcLoop at p
      by_cases hst : stillE ik v items h = true
      · rw [if_pos hst] at p
        exact ⟨hJ.stop ρ H h _ r e.toW (of_decide_eq_true hst) (Nat.le_refl _), Post.lstDone p hD hz0 r e hz hH ra⟩
      · rw [if_neg hst] at p; exact p.elim

/-- [elt for tg in .. if cond] -/
theorem d_lcCore {own : List Nat} {tg : Tg} {gt : TG} {ik : ItK} {es ec ee : Sl → Hs → R D} {tt : TT} {fl : Bool}
    (hgt : ∀ x σ H Q, (∃ ρ h sl sl1 d, HR X.K ca ρ H h ∧ SlR X.K ρ h.length H sl σ ∧ Rel X.K ρ h.length H d x ∧ setTg tg [d] sl = some sl1 ∧ ∀ σ', SlR X.K ρ h.length H sl1 σ' → (∀ own, tgIn own tg = true → wipe σ' own = wipe σ own) → Q σ' H) → gt x σ H Q)
    (htt : ∀ σ H Q, tT X.K ca (fun _ _ _ _ => False) ec σ H Q → tt σ H Q) (hown : tgIn own tg = true) {σ : L2.St} {H : Hp} {Q : VK} (t : tD X.K ca W (lcE fl own tg ik es ec ee) σ H Q) :
    tLc (itR X.K ca W ik es) gt tt (tD X.K ca (fun _ _ _ _ => False) ee) own σ H Q := by
  obtain ⟨ρ, h, sl, r, s, p⟩ := t
  unfold lcE at p
  refine ⟨ρ, h, sl, r, s, ?_⟩
  cases e : es sl h with
  | stuck => rw [e] at p; exact p
  | ex x h' => rw [e] at p; exact p
  | ok v h1 =>
    rw [e] at p
    simp only [R.bind] at p
    cases hi : itemsOf ik v h1 with
    | none => rw [hi] at p; exact p.elim
    | some items =>
      rw [hi] at p
      refine ⟨items, hi, fun ρ1 H1 J r1 e1 hJ Dl hD => ?_⟩
      exact lc_turns hgt htt hown r1 hJ hD (s.mono e1 r) (Post.mono (r := R.bind _ _) p e1 r1)
/-- the turns of an inner loop; what is done behind it: kt -/
theorem lc_inner {own : List Nat} {tg : Tg} {gt : TG} {ik : ItK} {ec ee : Sl → Hs → R D} {tt : TT}
    (hgt : ∀ x σ H Q, (∃ ρ h sl sl1 d, HR X.K ca ρ H h ∧ SlR X.K ρ h.length H sl σ ∧ Rel X.K ρ h.length H d x ∧ setTg tg [d] sl = some sl1 ∧ ∀ σ', SlR X.K ρ h.length H sl1 σ' → (∀ own, tgIn own tg = true → wipe σ' own = wipe σ own) → Q σ' H) → gt x σ H Q)
    (htt : ∀ σ H Q, tT X.K ca (fun _ _ _ _ => False) ec σ H Q → tt σ H Q) (hown : tgIn own tg = true)
    {v : D} {items : List D} {J : It} {ρ0 : Rho} {H0 : Hp} {n0 : Nat} {ρ1 : Rho} {H1 : Hp} {h1 : Hs} (r1 : HR X.K ca ρ1 H1 h1) (e1 : Ext ρ0 n0 H0 ρ1 h1.length H1) (hJ : ItOk X.K ca ρ1 h1.length H1 ik v items J)
    {sl : Sl} {σ : L2.St} {Q : VK} {E : XK} {Dl : Addr} {kt : List D → Hs → R D} {Fin : Hp → Prop} (hD : H0 Dl = none) (hs : SlR X.K ρ1 h1.length H1 sl σ) (hz1 : ρ1.Z Dl) {acc1 : List D} {vs1 : List V} (hH1 : H1 Dl = some (.lst vs1)) (ra1 : Rels X.K ρ1 h1.length H1 acc1 vs1)
    (p : Post X.K ca ρ0 n0 H0 ((lcLoop (stillE ik v items) (turnE own tg ec ee sl) items acc1 h1).bind kt) Q E)
    (hfin : ∀ ρ H h acc vs, HR X.K ca ρ H h → Ext ρ0 n0 H0 ρ h.length H → ρ.Z Dl → H Dl = some (.lst vs) → Rels X.K ρ h.length H acc vs → Post X.K ca ρ0 n0 H0 (kt acc h) Q E → Fin H) :
    ∃ Wd : Nat → Nat → Hp → Prop, (∃ m, Wd 0 m H1) ∧ ∀ i m H, Wd i m H → (J.stop i H ∧ Fin H) ∨ (J.go i H ∧ ∃ Nx : Hp → Prop, (∀ H', Nx H' → ∃ m', m' < m ∧ Wd (i + 1) m' H') ∧
      ∀ x H', J.yld i H x H' → gt x (wipe σ own) H' fun σ2 H2 => wipe σ2 own = wipe σ own ∧ tt σ2 H2 fun b H3 => if b = true then tD X.K ca (fun _ _ _ _ => False) ee σ2 H3 fun y H4 => ∃ acc, H4 Dl = some (.lst acc) ∧ acc.length < sizeLine ∧ Nx (upd H4 Dl (.lst (acc ++ [y]))) else Nx H3) := by
  let Wd : Nat → Nat → Hp → Prop := fun i m H => i ≤ items.length ∧ m = items.length - i ∧ ∃ ρ h acc vs, HR X.K ca ρ H h ∧ Ext ρ0 n0 H0 ρ h.length H ∧ ExtW ρ1 h1.length H1 ρ h.length H ∧ ρ.Z Dl ∧ H Dl = some (.lst vs) ∧ Rels X.K ρ h.length H acc vs ∧
    Post X.K ca ρ0 n0 H0 ((lcLoop (stillE ik v items) (turnE own tg ec ee sl) (items.drop i) acc h).bind kt) Q E
  refine ⟨Wd, ⟨items.length, Nat.zero_le _, rfl, ρ1, h1, acc1, vs1, r1, e1, Ext.refl.toW, hz1, hH1, ra1, p⟩, fun i m H hW => ?_⟩
  obtain ⟨hi, rfl, ρ, h, acc, vs, r, e, ew, hz, hH, ra, p⟩ := hW
  by_cases hl : i < items.length
  · -- a turn
    refine .inr ?_
    have hd : items.drop i = items[i] :: items.drop (i + 1) := List.drop_eq_getElem_cons hl
    rw [hd] at p
    unfold lcLoop at p
    by_cases hst : stillE ik v items h = true
    · rw [if_pos hst] at p
      have hst' : itemsOf ik v h = some items := of_decide_eq_true hst
      refine ⟨hJ.go ρ H h i r ew hst' hl, fun H' => Wd (i + 1) (items.length - (i + 1)) H', fun H' hN => ⟨_, by omega, hN⟩, fun x H' hy => ?_⟩
      obtain ⟨r2, e2, qx⟩ := hJ.yld ρ H h i items[i] x H' r ew hst' (List.getElem?_eq_getElem hl) hy
      have e02 := e.trans r rfl e2
      have ew2 := ew.trans r rfl r1 e2.toW
      have hH2 : H' Dl = some (.lst vs) := e2.keep _ _ hH (r.zt Dl hz).2
      have s2 := hs.monoW ew2 r1
      unfold turnE at p
      cases h1' : setTg tg [items[i]] (wipeD sl own) with
      | none => rw [h1'] at p; exact p.elim
      | some sl2 =>
        rw [h1'] at p
        simp only at p
        refine hgt _ _ _ _ ⟨ρ, h, wipeD sl own, sl2, items[i], r2, SlR.wipe s2 own, qx, h1', fun σ2 s2 hw => ?_⟩
        refine ⟨(hw own hown).trans wipe_wipe, htt _ _ _ (tst_seq r2 s2 ?_)⟩
        unfold tst
        cases h2 : ec sl2 h with
        | stuck => rw [h2] at p; exact p.elim
        | ex x h' => rw [h2] at p; exact p.elim
        | ok t h3 =>
          rw [h2] at p
          simp only [R.calm, R.bind] at p ⊢
          cases h4 : truth h3 t with
          | none => rw [h4] at p; exact p.elim
          | some b =>
            rw [h4] at p
            refine ⟨b, rfl, fun ρ3 H3 r3 e3 => ?_⟩
            have e03 := e02.trans r2 rfl e3
            have ew3 := ew2.trans r2 rfl r1 e3.toW
            have hz3 := e3.z1 _ hz
            have hH3 : H3 Dl = some (.lst vs) := e3.keep _ _ hH2 (r2.zt Dl hz).2
            have ra3 := (ra.mono e2 r).mono e3 r2
            cases b with
            | false =>
              show Wd (i + 1) (items.length - (i + 1)) H3
              exact ⟨hl, rfl, ρ3, h3, acc, vs, r3, e03, ew3, hz3, hH3, ra3, p⟩
            | true =>
              show tD X.K ca (fun _ _ _ _ => False) ee σ2 H3 _
              refine ⟨ρ3, h3, sl2, r3, s2.mono e3 r2, ?_⟩
              cases h5 : ee sl2 h3 with
              | stuck => rw [h5] at p; exact p.elim
              | ex x h' => rw [h5] at p; exact p.elim
              | ok y h6 =>
                rw [h5] at p
                simp only at p
                intro ρ4 H4 w r4 e4 qw
                have e04 := e03.trans r3 rfl e4
                have ew4 := ew3.trans r3 rfl r1 e4.toW
                have hz4 := e4.z1 _ hz3
                have hH4 : H4 Dl = some (.lst vs) := e4.keep _ _ hH3 (r3.zt Dl hz3).2
                by_cases hlen : acc.length < lim
                · rw [if_pos hlen] at p
                  refine ⟨vs, hH4, by rw [ra3.length]; exact hlen, hl, rfl, ρ4, h6, acc ++ [y], vs ++ [w], r4.atZ hz4 ⟨vs, hH4⟩, e04.updZ hD, ew4.updZ hz1, hz4, upd_same, ?_, p⟩
                  exact ((ra3.mono e4 r3).atZ hz4 ⟨vs, hH4⟩).append (.cons (qw.atZ hz4 ⟨vs, hH4⟩) .nil)
                · rw [if_neg hlen] at p; exact p.elim
    · rw [if_neg hst] at p; exact p.elim
  · -- the end
    refine .inl ?_
    have hi' : i = items.length := by omega
    subst hi'
    rw [List.drop_length] at p
    unfold lcLoop at p
    by_cases hst : stillE ik v items h = true
    · rw [if_pos hst] at p
      exact ⟨hJ.stop ρ H h _ r ew (of_decide_eq_true hst) (Nat.le_refl _), hfin ρ H h acc vs r e hz hH ra p⟩
    · rw [if_neg hst] at p; exact p.elim
def turn2E (own own2 : List Nat) (tg : Tg) (ec : Sl → Hs → R D) (tg2 : Tg) (ik2 : ItK) (es2 ec2 ee : Sl → Hs → R D) (sl : Sl) : D → List D → Hs → R (List D) := fun x acc h2 => match setTg tg [x] (wipeD sl own) with
    | some sl2 => (ec sl2 h2).calm.bind fun t h3 => match truth h3 t with
      | some true => (es2 sl2 h3).calm.bind fun v2 h4 => match itemsOf ik2 v2 h4 with
        | some items2 => lcLoop (stillE ik2 v2 items2) (turnE own2 tg2 ec2 ee sl2) items2 acc h4
        | none => .stuck
      | some false => .ok acc h3
      | none => .stuck
    | none => .stuck
def lc2E (fl : Bool) (own own2 : List Nat) (tg : Tg) (ik : ItK) (es ec : Sl → Hs → R D) (tg2 : Tg) (ik2 : ItK) (es2 ec2 ee : Sl → Hs → R D) : Sl → Hs → R D := fun sl h => (es sl h).bind fun v h1 => match itemsOf ik v h1 with
    | some items => (lc2Loop (stillE ik v items) (turn2E own own2 tg ec tg2 ik2 es2 ec2 ee sl) items [] h1).bind fun ys h5 => mkL fl ys h5
    | none => .stuck
theorem R.bind_assoc {α β γ : Type} (r : R α) (f : α → Hs → R β) (g : β → Hs → R γ) : (r.bind f).bind g = r.bind fun a h => (f a h).bind g := by
  cases r <;> rfl
theorem lc2_turns {own own2 : List Nat} {tg tg2 : Tg} {gt gt2 : TG} {ik ik2 : ItK} {ec es2 ec2 ee : Sl → Hs → R D} {tt tt2 : TT}
    (hgt : ∀ x σ H Q, (∃ ρ h sl sl1 d, HR X.K ca ρ H h ∧ SlR X.K ρ h.length H sl σ ∧ Rel X.K ρ h.length H d x ∧ setTg tg [d] sl = some sl1 ∧ ∀ σ', SlR X.K ρ h.length H sl1 σ' → (∀ own, tgIn own tg = true → wipe σ' own = wipe σ own) → Q σ' H) → gt x σ H Q)
    (htt : ∀ σ H Q, tT X.K ca (fun _ _ _ _ => False) ec σ H Q → tt σ H Q) (hown : tgIn own tg = true)
    (hgt2 : ∀ x σ H Q, (∃ ρ h sl sl1 d, HR X.K ca ρ H h ∧ SlR X.K ρ h.length H sl σ ∧ Rel X.K ρ h.length H d x ∧ setTg tg2 [d] sl = some sl1 ∧ ∀ σ', SlR X.K ρ h.length H sl1 σ' → (∀ own, tgIn own tg2 = true → wipe σ' own = wipe σ own) → Q σ' H) → gt2 x σ H Q)
    (htt2 : ∀ σ H Q, tT X.K ca (fun _ _ _ _ => False) ec2 σ H Q → tt2 σ H Q) (hown2 : tgIn own2 tg2 = true)
    {v : D} {items : List D} {J : It} {ρ0 : Rho} {H0 : Hp} {h0 : Hs} (r0 : HR X.K ca ρ0 H0 h0) (hJ : ItOk X.K ca ρ0 h0.length H0 ik v items J)
    {fl : Bool} {sl : Sl} {σ : L2.St} {Q : VK} {E : XK} {Dl : Addr} (hD : H0 Dl = none) (hs : SlR X.K ρ0 h0.length H0 sl σ)
    (p : Post X.K ca ρ0 h0.length H0 ((lc2Loop (stillE ik v items) (turn2E own own2 tg ec tg2 ik2 es2 ec2 ee sl) items [] h0).bind fun ys h5 => mkL fl ys h5) Q E) :
    ∃ Wd : Nat → Nat → Hp → Prop, (∃ m, Wd 0 m (upd H0 Dl (.lst []))) ∧ ∀ i m H, Wd i m H → (J.stop i H ∧ Q (.ref Dl) H) ∨ (J.go i H ∧ ∃ Nx : Hp → Prop, (∀ H', Nx H' → ∃ m', m' < m ∧ Wd (i + 1) m' H') ∧
      ∀ x H', J.yld i H x H' → gt x (wipe σ own) H' fun σ2 H2 => wipe σ2 own = wipe σ own ∧ tt σ2 H2 fun b H3 => if b = true then itR X.K ca (fun _ _ _ _ => False) ik2 es2 σ2 H3 fun J1 H4 => ∃ W1 : Nat → Nat → Hp → Prop, (∃ m, W1 0 m H4) ∧ ∀ j k H, W1 j k H →
        (J1.stop j H ∧ Nx H) ∨ (J1.go j H ∧ ∃ Nx1 : Hp → Prop, (∀ H', Nx1 H' → ∃ k', k' < k ∧ W1 (j + 1) k' H') ∧ ∀ x H', J1.yld j H x H' → gt2 x (wipe σ2 own2) H' fun σ3 H5 => wipe σ3 own2 = wipe σ2 own2 ∧ tt2 σ3 H5 fun b H6 =>
          if b = true then tD X.K ca (fun _ _ _ _ => False) ee σ3 H6 fun y H7 => ∃ acc, H7 Dl = some (.lst acc) ∧ acc.length < sizeLine ∧ Nx1 (upd H7 Dl (.lst (acc ++ [y]))) else Nx1 H6)
      else Nx H3) := by
  have hz0 : ¬ ρ0.Z Dl := r0.newZ hD
  let Wd : Nat → Nat → Hp → Prop := fun i m H => i ≤ items.length ∧ m = items.length - i ∧ ∃ ρ h acc vs, HR X.K ca ρ H h ∧ Ext ρ0 h0.length H0 ρ h.length H ∧ ρ.Z Dl ∧ H Dl = some (.lst vs) ∧ Rels X.K ρ h.length H acc vs ∧
    Post X.K ca ρ0 h0.length H0 ((lc2Loop (stillE ik v items) (turn2E own own2 tg ec tg2 ik2 es2 ec2 ee sl) (items.drop i) acc h).bind fun ys h5 => mkL fl ys h5) Q E
  refine ⟨Wd, ⟨items.length, Nat.zero_le _, rfl, ?_⟩, fun i m H hW => ?_⟩
  · obtain ⟨r1, e1⟩ := r0.hide hD []
    exact ⟨hid ρ0 Dl, h0, [], [], r1, e1, .inr rfl, upd_same, .nil, p⟩
  · obtain ⟨hi, rfl, ρ, h, acc, vs, r, e, hz, hH, ra, p⟩ := hW
    by_cases hl : i < items.length
    · -- a turn
      refine .inr ?_
      have hd : items.drop i = items[i] :: items.drop (i + 1) := List.drop_eq_getElem_cons hl
      rw [hd] at p
      unfold lc2Loop at p
      by_cases hst : stillE ik v items h = true
      · rw [if_pos hst] at p
        have hst' : itemsOf ik v h = some items := of_decide_eq_true hst
        refine ⟨hJ.go ρ H h i r e.toW hst' hl, fun H' => Wd (i + 1) (items.length - (i + 1)) H', fun H' hN => ⟨_, by omega, hN⟩, fun x H' hy => ?_⟩
        obtain ⟨r1, e1, qx⟩ := hJ.yld ρ H h i items[i] x H' r e.toW hst' (List.getElem?_eq_getElem hl) hy
        have e01 := e.trans r rfl e1
        have hH1 : H' Dl = some (.lst vs) := e1.keep _ _ hH (r.zt Dl hz).2
        have s1 := hs.mono e01 r0
        unfold turn2E at p
        cases h1 : setTg tg [items[i]] (wipeD sl own) with
        | none => rw [h1] at p; exact p.elim
        | some sl2 =>
          rw [h1] at p
          simp only at p
          refine hgt _ _ _ _ ⟨ρ, h, wipeD sl own, sl2, items[i], r1, SlR.wipe s1 own, qx, h1, fun σ2 s2 hw => ?_⟩
          refine ⟨(hw own hown).trans wipe_wipe, htt _ _ _ (tst_seq r1 s2 ?_)⟩
          unfold tst
          cases h2 : ec sl2 h with
          | stuck => rw [h2] at p; exact p.elim
          | ex x h' => rw [h2] at p; exact p.elim
          | ok t h3 =>
            rw [h2] at p
            simp only [R.calm, R.bind] at p ⊢
            cases h4 : truth h3 t with
            | none => rw [h4] at p; exact p.elim
            | some b =>
              rw [h4] at p
              refine ⟨b, rfl, fun ρ3 H3 r3 e3 => ?_⟩
              have e03 := e01.trans r1 rfl e3
              have hz3 := e3.z1 _ hz
              have hH3 : H3 Dl = some (.lst vs) := e3.keep _ _ hH1 (r1.zt Dl hz).2
              have ra3 := (ra.mono e1 r).mono e3 r1
              cases b with
              | false =>
                show Wd (i + 1) (items.length - (i + 1)) H3
                exact ⟨hl, rfl, ρ3, h3, acc, vs, r3, e03, hz3, hH3, ra3, p⟩
              | true =>
                simp only [if_true]
                simp only at p
                refine ⟨ρ3, h3, sl2, r3, s2.mono e3 r1, ?_⟩
                cases h5 : es2 sl2 h3 with
                | stuck => rw [h5] at p; exact p.elim
                | ex x h' => rw [h5] at p; exact p.elim
                | ok v2 h6 =>
                  rw [h5] at p
                  simp only at p
                  cases hi2 : itemsOf ik2 v2 h6 with
                  | none => rw [hi2] at p; exact p.elim
                  | some items2 =>
                    rw [hi2] at p
                    simp only at p
                    refine ⟨items2, hi2, fun ρ4 H4 J1 r4 e4 hJ4 => ?_⟩
                    refine lc_inner (kt := fun acc1 h1 => (lc2Loop (stillE ik v items) (turn2E own own2 tg ec tg2 ik2 es2 ec2 ee sl) (items.drop (i + 1)) acc1 h1).bind fun ys h5 => mkL fl ys h5) (Q := Q) (E := E)
                      hgt2 htt2 hown2 r4 (e03.trans r3 rfl e4) hJ4 hD ((s2.mono e3 r1).mono e4 r3) (e4.z1 _ hz3) (e4.keep _ _ hH3 (r3.zt Dl hz3).2) (ra3.mono e4 r3) ?_ ?_
                    · rw [← R.bind_assoc]
                      exact p
                    · exact fun ρ5 H5 h5 acc5 vs5 r5 e5 z5 hH5 ra5 p5 => ⟨hl, rfl, ρ5, h5, acc5, vs5, r5, e5, z5, hH5, ra5, p5⟩
      · rw [if_neg hst] at p; exact p.elim
    · -- the end
      refine .inl ?_
      have hi' : i = items.length := by omega
      subst hi'
      rw [List.drop_length] at p
      unfold lc2Loop at p
      by_cases hst : stillE ik v items h = true
      · rw [if_pos hst] at p
        exact ⟨hJ.stop ρ H h _ r e.toW (of_decide_eq_true hst) (Nat.le_refl _), Post.lstDone p hD hz0 r e hz hH ra⟩
      · rw [if_neg hst] at p; exact p.elim
/-- [elt for tg in .. if cond for tg2 in .. if cond2] -/
theorem d_lc2Core {own own2 : List Nat} {tg tg2 : Tg} {gt gt2 : TG} {ik ik2 : ItK} {es ec es2 ec2 ee : Sl → Hs → R D} {tt tt2 : TT} {fl : Bool}
    (hgt : ∀ x σ H Q, (∃ ρ h sl sl1 d, HR X.K ca ρ H h ∧ SlR X.K ρ h.length H sl σ ∧ Rel X.K ρ h.length H d x ∧ setTg tg [d] sl = some sl1 ∧ ∀ σ', SlR X.K ρ h.length H sl1 σ' → (∀ own, tgIn own tg = true → wipe σ' own = wipe σ own) → Q σ' H) → gt x σ H Q)
    (htt : ∀ σ H Q, tT X.K ca (fun _ _ _ _ => False) ec σ H Q → tt σ H Q) (hown : tgIn own tg = true)
    (hgt2 : ∀ x σ H Q, (∃ ρ h sl sl1 d, HR X.K ca ρ H h ∧ SlR X.K ρ h.length H sl σ ∧ Rel X.K ρ h.length H d x ∧ setTg tg2 [d] sl = some sl1 ∧ ∀ σ', SlR X.K ρ h.length H sl1 σ' → (∀ own, tgIn own tg2 = true → wipe σ' own = wipe σ own) → Q σ' H) → gt2 x σ H Q)
    (htt2 : ∀ σ H Q, tT X.K ca (fun _ _ _ _ => False) ec2 σ H Q → tt2 σ H Q) (hown2 : tgIn own2 tg2 = true) {σ : L2.St} {H : Hp} {Q : VK}
    (t : tD X.K ca W (lc2E fl own own2 tg ik es ec tg2 ik2 es2 ec2 ee) σ H Q) :
    tLc2 (itR X.K ca W ik es) gt tt (itR X.K ca (fun _ _ _ _ => False) ik2 es2) gt2 tt2 (tD X.K ca (fun _ _ _ _ => False) ee) own own2 σ H Q := by
  obtain ⟨ρ, h, sl, r, s, p⟩ := t
  unfold lc2E at p
  refine ⟨ρ, h, sl, r, s, ?_⟩
  cases e : es sl h with
  | stuck => rw [e] at p; exact p
  | ex x h' => rw [e] at p; exact p
  | ok v h1 =>
    rw [e] at p
    simp only [R.bind] at p
    cases hi : itemsOf ik v h1 with
    | none => rw [hi] at p; exact p.elim
    | some items =>
      rw [hi] at p
      refine ⟨items, hi, fun ρ1 H1 J r1 e1 hJ Dl hD => ?_⟩
      exact lc2_turns hgt htt hown hgt2 htt2 hown2 r1 hJ hD (s.mono e1 r) (Post.mono (r := R.bind _ _) p e1 r1)
end
end DI

/-! DI, part L: what passes the check keeps to its reading: all expressions. -/
namespace DI
open PySem PySem.Spec PyProof.Rows L2

def isBoolOp : Expr → Bool
  | .BoolOp _ _ _ => true
  | _ => false
structure SndE (G : Glob) (Γ : Gn) (Φ : Nat → List D → Hs → R D) (ca : Nat → Addr) (N : List Str) (c : E) : Prop where
  pe : ∀ (W : WX) (k : Nat) (X : Cx) (sc : Scope) (cm : Bool) (x : Expr), OkX W k X N sc cm → MX G Γ Φ ca k X → chkE Γ N c sc cm x = true → PE X x (tD X.K ca W (evE G Φ c))
  pa : ∀ (W : WX) (k : Nat) (X : Cx) (sc : Scope) (cm : Bool) (x : List Expr), OkX W k X N sc cm → MX G Γ Φ ca k X → chkA Γ N c sc cm x = true → PA X x (tA X.K ca W (evE G Φ c))
  pt : ∀ (W : WX) (k : Nat) (X : Cx) (sc : Scope) (cm : Bool) (x : Expr), OkX W k X N sc cm → MX G Γ Φ ca k X → chkT Γ N c sc cm x = true → PT X x (tT X.K ca W (evE G Φ c))
  pw : ∀ (W : WX) (k : Nat) (X : Cx) (sc : Scope) (cm : Bool) (x : Expr), OkX W k X N sc cm → MX G Γ Φ ca k X → isBoolOp x = true → chkT Γ N c sc cm x = true → PW X x (tT X.K ca W (evE G Φ c))
  pc : ∀ (W : WX) (k : Nat) (X : Cx) (sc : Scope) (cm : Bool) (x : Expr), OkX W k X N sc cm → MX G Γ Φ ca k X → isCmp x = true → chkE Γ N c sc cm x = true → PT X x (tT X.K ca W (evE G Φ c))
  len : ∀ sc cm x sl h ds h', chkA Γ N c sc cm x = true → evE G Φ c sl h = .ok (.tup ds) h' → ds.length = x.length
  star : ∀ sc cm x, chkA Γ N c sc cm x = true → x.all starOk = true
  pp : ∀ (W : WX) (k : Nat) (X : Cx) (sc : Scope) (cm : Bool) (ks : List (Option Expr)) (vs : List Expr) (pos : Pos), OkX W k X N sc cm → MX G Γ Φ ca k X → chkP Γ N c sc cm ks vs = true → ∃ trs, PPs X pos ks vs trs ∧ ks.all (·.isSome) = true ∧ ks.length = vs.length ∧
    ∀ (σ : L2.St) (H : Hp) (Q : List V → Hp → Prop), tA X.K ca W (evE G Φ c) σ H Q → tPairs trs σ H fun ps H1 => Q (flat2 ps) H1

section
variable {G : Glob} {Γ : Gn} {Φ : Nat → List D → Hs → R D} {ca : Nat → Addr} {N : List Str}
theorem SndE.test {c : E} (s : SndE G Γ Φ ca N c) {W : WX} {k : Nat} {X : Cx} {sc : Scope} {cm : Bool} {x : Expr} (o : OkX W k X N sc cm) (m : MX G Γ Φ ca k X)
    (h : (chkT Γ N c sc cm x || ((plainT x || isCmp x) && chkE Γ N c sc cm x)) = true) : PT X x (tT X.K ca W (evE G Φ c)) := by
  rw [Bool.or_eq_true, Bool.and_eq_true, Bool.or_eq_true] at h
  rcases h with h | ⟨h1 | h1, h2⟩
  · exact s.pt W k X sc cm x o m h
  · exact t_plain h1 (s.pe W k X sc cm x o m h2)
  · exact s.pc W k X sc cm x o m h1 h2
/-- an expression of no other use -/
theorem SndE.ofE {c : E} (hE : ∀ (W : WX) (k : Nat) (X : Cx) (sc : Scope) (cm : Bool) (x : Expr), OkX W k X N sc cm → MX G Γ Φ ca k X → chkE Γ N c sc cm x = true → PE X x (tD X.K ca W (evE G Φ c)))
    (hA : ∀ sc cm x, chkA Γ N c sc cm x = false) (hP : ∀ sc cm x y, chkP Γ N c sc cm x y = false) (hT : ∀ sc cm x, chkT Γ N c sc cm x = false) (hC : ∀ sc cm x, isCmp x = true → chkE Γ N c sc cm x = false) : SndE G Γ Φ ca N c where
  pe := hE
  pa := fun W k X sc cm x o m h => by rw [hA] at h; cases h
  pt := fun W k X sc cm x o m h => by rw [hT] at h; cases h
  pw := fun W k X sc cm x o m _ h => by rw [hT] at h; cases h
  pc := fun W k X sc cm x o m h1 h => by rw [hC _ _ _ h1] at h; cases h
  len := fun sc cm x sl h ds h' q => by rw [hA] at q; cases q
  star := fun sc cm x q => by rw [hA] at q; cases q
  pp := fun W k X sc cm ks vs pos o m h => by rw [hP] at h; cases h

theorem chkIt_pi {src : E} (s : SndE G Γ Φ ca N src) {W : WX} {k : Nat} {X : Cx} {sc : Scope} {cm : Bool} {tgE it : Expr} {ik : ItK} (o : OkX W k X N sc cm) (m : MX G Γ Φ ca k X)
    (h : itC Γ sc ik it tgE (fun e => chkE Γ N src sc cm e) (fun es => chkA Γ N src sc cm es) = true) : PI X tgE it (itR X.K ca W ik (evE G Φ src)) ∧ ∀ x, foldedSetIterable it X.env x = pure x := by
  unfold itC at h
  split at h
  · rw [Bool.and_eq_true] at h
    refine ⟨pi_seqD (s.pe W k X sc cm _ o m h.1), fun x => ?_⟩
    cases it <;> first | rfl | (exact absurd h.2 (by decide)) | skip
    all_goals (simp [isSet] at h)
  · simp only [Bool.and_eq_true] at h
    obtain ⟨⟨⟨h1, h2⟩, h3⟩, h4⟩ := h
    have e := of_decide_eq_true h1
    subst e
    exact ⟨pi_range1D (o.gl _ h2) (m.blt _ h3) (List.all_eq_true.mp (s.star _ _ _ h4) _ (by simp)) (s.pa W k X sc cm _ o m h4), fun x => rfl⟩
  · simp only [Bool.and_eq_true] at h
    obtain ⟨⟨⟨h1, h2⟩, h3⟩, h4⟩ := h
    have e := of_decide_eq_true h1
    subst e
    exact ⟨pi_range2D (o.gl _ h2) (m.blt _ h3) (List.all_eq_true.mp (s.star _ _ _ h4) _ (by simp)) (List.all_eq_true.mp (s.star _ _ _ h4) _ (by simp)) (s.pa W k X sc cm _ o m h4), fun x => rfl⟩
  · simp only [Bool.and_eq_true] at h
    obtain ⟨⟨⟨⟨h1, h2⟩, h3⟩, h4⟩, h5⟩ := h
    have e := of_decide_eq_true h1
    subst e
    cases tgE with
    | Tuple el kk tp => exact ⟨pi_enumD (o.gl _ h2) (m.blt _ h3) (List.all_eq_true.mp (s.star _ _ _ h4) _ (by simp)) (s.pa W k X sc cm _ o m h4), fun x => rfl⟩
    | _ => cases h5
  · simp only [Bool.and_eq_true] at h
    obtain ⟨⟨⟨⟨h1, h2⟩, h3⟩, h4⟩, h5⟩ := h
    have e := of_decide_eq_true h1
    subst e
    cases tgE with
    | Tuple el kk tp => exact ⟨pi_zipD (o.gl _ h2) (m.blt _ h3) (List.all_eq_true.mp (s.star _ _ _ h4) _ (by simp)) (List.all_eq_true.mp (s.star _ _ _ h4) _ (by simp)) (s.pa W k X sc cm _ o m h4), fun x => rfl⟩
    | _ => cases h5
  · cases h

theorem snd_var (i : Nat) : SndE G Γ Φ ca N (.var i) := SndE.ofE (fun W k X sc cm x o m h => by
    simp only [chkE] at h
    split at h
    · simp only [Bool.and_eq_true] at h
      exact d_var o (eq_of_beq h.1.1) h.1.2 h.2
    · cases h) (fun _ _ _ => by simp only [chkA]) (fun _ _ _ _ => by simp only [chkP]) (fun _ _ _ => by simp only [chkT]) (fun sc cm x hx => by cases x <;> first | (cases hx; done) | simp only [chkE])
theorem snd_kN : SndE G Γ Φ ca N .kN := SndE.ofE (fun W k X sc cm x o m h => by
    simp only [chkE] at h
    split at h
    · exact d_const pe_non (fun _ _ _ => .non)
    · cases h) (fun _ _ _ => by simp only [chkA]) (fun _ _ _ _ => by simp only [chkP]) (fun _ _ _ => by simp only [chkT]) (fun sc cm x hx => by cases x <;> first | (cases hx; done) | simp only [chkE])
theorem snd_kB (b : Bool) : SndE G Γ Φ ca N (.kB b) := SndE.ofE (fun W k X sc cm x o m h => by
    simp only [chkE] at h
    split at h
    · have e := eq_of_beq h
      subst e
      exact d_const pe_bl (fun _ _ _ => .bl _)
    · cases h) (fun _ _ _ => by simp only [chkA]) (fun _ _ _ _ => by simp only [chkP]) (fun _ _ _ => by simp only [chkT]) (fun sc cm x hx => by cases x <;> first | (cases hx; done) | simp only [chkE])
theorem snd_kI (i : Int) : SndE G Γ Φ ca N (.kI i) := SndE.ofE (fun W k X sc cm x o m h => by
    simp only [chkE] at h
    split at h
    · have e := of_decide_eq_true h
      subst e
      exact d_const pe_int (fun _ _ _ => .int _)
    · cases h) (fun _ _ _ => by simp only [chkA]) (fun _ _ _ _ => by simp only [chkP]) (fun _ _ _ => by simp only [chkT]) (fun sc cm x hx => by cases x <;> first | (cases hx; done) | simp only [chkE])
theorem snd_kS (i : Str) : SndE G Γ Φ ca N (.kS i) := SndE.ofE (fun W k X sc cm x o m h => by
    simp only [chkE] at h
    split at h
    · have e := of_decide_eq_true h
      subst e
      exact d_const pe_str (fun _ _ _ => .str _)
    · cases h) (fun _ _ _ => by simp only [chkA]) (fun _ _ _ _ => by simp only [chkP]) (fun _ _ _ => by simp only [chkT]) (fun sc cm x hx => by cases x <;> first | (cases hx; done) | simp only [chkE])
theorem snd_glob (y : Str) : SndE G Γ Φ ca N (.glob y) := SndE.ofE (fun W k X sc cm x o m h => by
    simp only [chkE] at h
    split at h
    · simp only [Bool.and_eq_true] at h
      have e := of_decide_eq_true h.1.1
      subst e
      exact d_glob m (o.gl _ h.1.2) h.2
    · cases h) (fun _ _ _ => by simp only [chkA]) (fun _ _ _ _ => by simp only [chkP]) (fun _ _ _ => by simp only [chkT]) (fun sc cm x hx => by cases x <;> first | (cases hx; done) | simp only [chkE])
theorem snd_bin {a b : E} (sa : SndE G Γ Φ ca N a) (sb : SndE G Γ Φ ca N b) (fl : Bool) (op : Operator) : SndE G Γ Φ ca N (.bin fl op a b) := SndE.ofE (fun W k X sc cm x o m h => by
    simp only [chkE] at h
    split at h
    · simp only [Bool.and_eq_true] at h
      have e := of_decide_eq_true h.1.1
      subst e
      exact d_bin fl (sa.pe W k X sc cm _ o m h.1.2) (sb.pe W k X sc cm _ o m h.2)
    · cases h) (fun _ _ _ => by simp only [chkA]) (fun _ _ _ _ => by simp only [chkP]) (fun _ _ _ => by simp only [chkT]) (fun sc cm x hx => by cases x <;> first | (cases hx; done) | simp only [chkE])
theorem snd_neg {a : E} (sa : SndE G Γ Φ ca N a) : SndE G Γ Φ ca N (.neg a) := SndE.ofE (fun W k X sc cm x o m h => by
    simp only [chkE] at h
    split at h
    · exact d_neg (sa.pe W k X sc cm _ o m h)
    · cases h) (fun _ _ _ => by simp only [chkA]) (fun _ _ _ _ => by simp only [chkP]) (fun _ _ _ => by simp only [chkT]) (fun sc cm x hx => by cases x <;> first | (cases hx; done) | simp only [chkE])
theorem snd_ite {t a b : E} (st : SndE G Γ Φ ca N t) (sa : SndE G Γ Φ ca N a) (sb : SndE G Γ Φ ca N b) : SndE G Γ Φ ca N (.ite t a b) := SndE.ofE (fun W k X sc cm x o m h => by
    simp only [chkE] at h
    split at h
    · rw [Bool.and_eq_true, Bool.and_eq_true] at h
      exact d_ite (st.test o m h.1.1) (sa.pe W k X sc cm _ o m h.1.2) (sb.pe W k X sc cm _ o m h.2)
    · cases h) (fun _ _ _ => by simp only [chkA]) (fun _ _ _ _ => by simp only [chkP]) (fun _ _ _ => by simp only [chkT]) (fun sc cm x hx => by cases x <;> first | (cases hx; done) | simp only [chkE])
theorem snd_tup {a : E} (sa : SndE G Γ Φ ca N a) : SndE G Γ Φ ca N (.tup a) := SndE.ofE (fun W k X sc cm x o m h => by
    simp only [chkE] at h
    split at h
    · exact d_tup (sa.pa W k X sc cm _ o m h)
    · cases h) (fun _ _ _ => by simp only [chkA]) (fun _ _ _ _ => by simp only [chkP]) (fun _ _ _ => by simp only [chkT]) (fun sc cm x hx => by cases x <;> first | (cases hx; done) | simp only [chkE])
theorem snd_lst {a : E} (sa : SndE G Γ Φ ca N a) (fl : Bool) : SndE G Γ Φ ca N (.lst fl a) := SndE.ofE (fun W k X sc cm x o m h => by
    simp only [chkE] at h
    split at h
    · exact d_lst fl (sa.pa W k X sc cm _ o m h)
    · cases h) (fun _ _ _ => by simp only [chkA]) (fun _ _ _ _ => by simp only [chkP]) (fun _ _ _ => by simp only [chkT]) (fun sc cm x hx => by cases x <;> first | (cases hx; done) | simp only [chkE])
theorem snd_ix {a b : E} (sa : SndE G Γ Φ ca N a) (sb : SndE G Γ Φ ca N b) : SndE G Γ Φ ca N (.ix a b) := SndE.ofE (fun W k X sc cm x o m h => by
    simp only [chkE] at h
    split at h
    · simp only [Bool.and_eq_true, Bool.not_eq_true'] at h
      exact d_ix o h.2 (sa.pe W k X sc cm _ o m h.1.1) (sb.pe W k X sc cm _ o m h.1.2)
    · cases h) (fun _ _ _ => by simp only [chkA]) (fun _ _ _ _ => by simp only [chkP]) (fun _ _ _ => by simp only [chkT]) (fun sc cm x hx => by cases x <;> first | (cases hx; done) | simp only [chkE])
theorem evE_kN {c : E} (h : isKN c = true) : evE G Φ c = fun _ h => .ok .non h := by
  cases c <;> first | rfl | cases h
theorem snd_slice {a b c : E} (sa : SndE G Γ Φ ca N a) (sb : SndE G Γ Φ ca N b) (sc' : SndE G Γ Φ ca N c) (fl : Bool) : SndE G Γ Φ ca N (.slice fl a b c) := SndE.ofE (fun W k X sc cm x o m h => by
    simp only [chkE] at h
    split at h
    · rename_i ob lo hi p1 p2
      simp only [Bool.and_eq_true] at h
      refine d_slice fl (sa.pe W k X sc cm _ o m h.1.1) ?_ ?_
      · cases lo with
        | none => exact .inl ⟨rfl, h.1.2, evE_kN h.1.2⟩
        | some e =>
          have h12 := h.1.2
          simp only [Bool.and_eq_true, Bool.not_eq_true'] at h12
          exact .inr ⟨e, rfl, h12.1, sb.pe W k X sc cm _ o m h12.2⟩
      · cases hi with
        | none => exact .inl ⟨rfl, h.2, evE_kN h.2⟩
        | some e =>
          have h12 := h.2
          simp only [Bool.and_eq_true, Bool.not_eq_true'] at h12
          exact .inr ⟨e, rfl, h12.1, sc'.pe W k X sc cm _ o m h12.2⟩
    · cases h) (fun _ _ _ => by simp only [chkA]) (fun _ _ _ _ => by simp only [chkP]) (fun _ _ _ => by simp only [chkT]) (fun sc cm x hx => by cases x <;> first | (cases hx; done) | simp only [chkE])
theorem snd_bi {a : E} (sa : SndE G Γ Φ ca N a) (f : Bi) : SndE G Γ Φ ca N (.bi f a) := SndE.ofE (fun W k X sc cm x o m h => by
    simp only [chkE] at h
    split at h
    · simp only [Bool.and_eq_true] at h
      obtain ⟨⟨⟨⟨⟨h1, h2⟩, h3⟩, h4⟩, h5⟩, h6⟩ := h
      have e := of_decide_eq_true h1
      subst e
      exact d_bi f h2 (o.calm h5).1 (o.gl _ h3) (m.blt _ h4) (sa.star _ _ _ h6) (sa.pa W k X sc cm _ o m h6)
    · cases h) (fun _ _ _ => by simp only [chkA]) (fun _ _ _ _ => by simp only [chkP]) (fun _ _ _ => by simp only [chkT]) (fun sc cm x hx => by cases x <;> first | (cases hx; done) | simp only [chkE])
theorem snd_isi {a : E} (sa : SndE G Γ Φ ca N a) (t : String) : SndE G Γ Φ ca N (.isi t a) := SndE.ofE (fun W k X sc cm x o m h => by
    simp only [chkE] at h
    split at h
    · simp only [Bool.and_eq_true] at h
      obtain ⟨⟨⟨⟨⟨⟨⟨⟨h1, h2⟩, h3⟩, h4⟩, h5⟩, h6⟩, h7⟩, h8⟩, h9⟩ := h
      have e1 := of_decide_eq_true h1
      have e2 := of_decide_eq_true h2
      subst e1
      subst e2
      exact d_isi (of_decide_eq_true h3) (o.gl _ h4) (m.blt _ h5) (o.gl _ h6) (m.blt _ h7) h9 (sa.pe W k X sc cm _ o m h8)
    · cases h) (fun _ _ _ => by simp only [chkA]) (fun _ _ _ _ => by simp only [chkP]) (fun _ _ _ => by simp only [chkT]) (fun sc cm x hx => by cases x <;> first | (cases hx; done) | simp only [chkE])
theorem snd_call {a : E} (sa : SndE G Γ Φ ca N a) (f : Nat) : SndE G Γ Φ ca N (.call f a) := SndE.ofE (fun W k X sc cm x o m h => by
    simp only [chkE] at h
    split at h
    · simp only [Bool.and_eq_true] at h
      obtain ⟨⟨⟨⟨⟨h1, h2⟩, h3⟩, h4⟩, h5⟩, h6⟩ := h
      exact d_call o m (o.calm h5).2 (eq_of_beq h1) (eq_of_beq h2) (fun sl h ds h' e => sa.len _ _ _ _ _ _ _ h6 e) (o.gl _ h3) h4 (sa.star _ _ _ h6) (sa.pa W k X sc cm _ o m h6)
    · cases h) (fun _ _ _ => by simp only [chkA]) (fun _ _ _ _ => by simp only [chkP]) (fun _ _ _ => by simp only [chkT]) (fun sc cm x hx => by cases x <;> first | (cases hx; done) | simp only [chkE])
theorem chkA_nil {c : E} {sc : Scope} {cm : Bool} (h : chkA Γ N c sc cm [] = true) : evE G Φ c = fun _ h => .ok (.tup []) h := by
  cases c <;> first | rfl | (simp [chkA] at h)
theorem snd_meth {a b : E} (sa : SndE G Γ Φ ca N a) (sb : SndE G Γ Φ ca N b) (mt : Mt) : SndE G Γ Φ ca N (.meth mt a b) := SndE.ofE (fun W k X sc cm x o m h => by
    simp only [chkE] at h
    split at h
    · simp only [Bool.and_eq_true, Bool.not_eq_true'] at h
      obtain ⟨⟨⟨⟨⟨h1, h2⟩, h3⟩, h4⟩, h5⟩, h6⟩ := h
      have e1 := of_decide_eq_true h1
      subst e1
      exact d_meth mt h3 h4 (sb.star _ _ _ h6) (of_decide_eq_true h5) (sa.pe W k X sc cm _ o m h2) (sb.pa W k X sc cm _ o m h6) (fun z => by subst z; exact chkA_nil h6)
    · cases h) (fun _ _ _ => by simp only [chkA]) (fun _ _ _ _ => by simp only [chkP]) (fun _ _ _ => by simp only [chkT]) (fun sc cm x hx => by cases x <;> first | (cases hx; done) | simp only [chkE])
end
end DI

/-! DI, part M: tests, chains, argument lists, comprehensions; then every expression. -/
namespace DI
open PySem PySem.Spec PyProof.Rows L2
section
variable {G : Glob} {Γ : Gn} {Φ : Nat → List D → Hs → R D} {ca : Nat → Addr} {N : List Str}
theorem snd_cmp {a b : E} (sa : SndE G Γ Φ ca N a) (sb : SndE G Γ Φ ca N b) (op : CmpOp) : SndE G Γ Φ ca N (.cmp op a b) where
  pe := fun W k X sc cm x o m h => by
    simp only [chkE] at h
    split at h
    · simp only [Bool.and_eq_true, Bool.not_eq_true'] at h
      have e := of_decide_eq_true h.1.1.1
      subst e
      exact d_cmp o h.2 (sa.pe W k X sc cm _ o m h.1.1.2) (sb.pe W k X sc cm _ o m h.1.2)
    · cases h
  pa := fun W k X sc cm x o m h => by cases h
  pt := fun W k X sc cm x o m h => by cases h
  pw := fun W k X sc cm x o m _ h => by cases h
  pc := fun W k X sc cm x o m _ h => by
    simp only [chkE] at h
    split at h
    · simp only [Bool.and_eq_true, Bool.not_eq_true'] at h
      have e := of_decide_eq_true h.1.1.1
      subst e
      exact t_cmp o h.2 (sa.pe W k X sc cm _ o m h.1.1.2) (sb.pe W k X sc cm _ o m h.1.2)
    · cases h
  len := fun sc cm x sl h ds h' q => by cases q
  star := fun sc cm x q => by cases q
  pp := fun W k X sc cm ks vs pos o m h => (by simp only [chkP] at h; cases h)
theorem snd_chain {a b c : E} (sa : SndE G Γ Φ ca N a) (sb : SndE G Γ Φ ca N b) (s3 : SndE G Γ Φ ca N c) (op op' : CmpOp) : SndE G Γ Φ ca N (.chain op op' a b c) where
  pe := fun W k X sc cm x o m h => by
    simp only [chkE] at h
    split at h
    · simp only [Bool.and_eq_true, Bool.not_eq_true'] at h
      obtain ⟨⟨⟨⟨⟨h1, h2⟩, h3⟩, h4⟩, h5⟩, h6⟩ := h
      have e := of_decide_eq_true h1
      have e' := of_decide_eq_true h2
      subst e
      subst e'
      exact d_chain o h6 (sa.pe W k X sc cm _ o m h3) (sb.pe W k X sc cm _ o m h4) (s3.pe W k X sc cm _ o m h5)
    · cases h
  pa := fun W k X sc cm x o m h => by cases h
  pt := fun W k X sc cm x o m h => by cases h
  pw := fun W k X sc cm x o m _ h => by cases h
  pc := fun W k X sc cm x o m _ h => by
    simp only [chkE] at h
    split at h
    · simp only [Bool.and_eq_true, Bool.not_eq_true'] at h
      obtain ⟨⟨⟨⟨⟨h1, h2⟩, h3⟩, h4⟩, h5⟩, h6⟩ := h
      have e := of_decide_eq_true h1
      have e' := of_decide_eq_true h2
      subst e
      subst e'
      exact t_chain o h6 (sa.pe W k X sc cm _ o m h3) (sb.pe W k X sc cm _ o m h4) (s3.pe W k X sc cm _ o m h5)
    · cases h
  len := fun sc cm x sl h ds h' q => by cases q
  star := fun sc cm x q => by cases q
  pp := fun W k X sc cm ks vs pos o m h => (by simp only [chkP] at h; cases h)
theorem snd_not {a : E} (sa : SndE G Γ Φ ca N a) : SndE G Γ Φ ca N (.not a) where
  pe := fun W k X sc cm x o m h => by
    simp only [chkE] at h
    split at h
    · exact d_not (sa.pe W k X sc cm _ o m h)
    · cases h
  pa := fun W k X sc cm x o m h => by cases h
  pt := fun W k X sc cm x o m h => by
    simp only [chkT] at h
    split at h
    · exact t_not (sa.test o m h)
    · cases h
  pw := fun W k X sc cm x o m hb h => by
    simp only [chkT] at h
    split at h
    · cases hb
    · cases h
  pc := fun W k X sc cm x o m hc h => by
    simp only [chkE] at h
    split at h
    · cases hc
    · cases h
  len := fun sc cm x sl h ds h' q => by cases q
  star := fun sc cm x q => by cases q
  pp := fun W k X sc cm ks vs pos o m h => (by simp only [chkP] at h; cases h)
theorem snd_and {a b : E} (sa : SndE G Γ Φ ca N a) (sb : SndE G Γ Φ ca N b) : SndE G Γ Φ ca N (.and a b) := by
  have pw : ∀ (W : WX) (k : Nat) (X : Cx) (sc : Scope) (cm : Bool) (x : Expr), OkX W k X N sc cm → MX G Γ Φ ca k X → isBoolOp x = true → chkT Γ N (.and a b) sc cm x = true → PW X x (tT X.K ca W (evE G Φ (.and a b))) := fun W k X sc cm x o m hbo h => by
    simp only [chkT] at h
    split at h
    · rename_i x y r pos
      rw [Bool.and_eq_true] at h
      refine t_and (sa.test o m h.1) ?_
      cases r with
      | nil => exact pw_and1 (sb.test o m h.2)
      | cons z r => exact sb.pw W k X sc cm _ o m rfl h.2
    · cases h
  exact {
    pe := fun W k X sc cm x o m h => by
      simp only [chkE] at h
      split at h
      · rename_i x y r pos
        rw [Bool.and_eq_true] at h
        obtain ⟨hh1, hh2⟩ := h
        have g : PE X (.BoolOp .And (y :: r) pos) (tD X.K ca W (evE G Φ b)) := by
          match r, hh2 with
          | [], hh2 => exact pe_one (sb.pe W k X sc cm _ o m hh2)
          | z :: r, hh2 => exact sb.pe W k X sc cm _ o m hh2
        exact d_and (sa.pe W k X sc cm _ o m hh1) g
      · cases h
    pa := fun W k X sc cm x o m h => by cases h
    pt := fun W k X sc cm x o m h => by
      have hb : isBoolOp x = true := by
        simp only [chkT] at h
        split at h
        · rfl
        · cases h
      exact (pw W k X sc cm x o m hb h).pt
    pw := pw
    pc := fun W k X sc cm x o m hc h => by
      simp only [chkE] at h
      split at h
      · cases hc
      · cases h
    len := fun sc cm x sl h ds h' q => by cases q
    star := fun sc cm x q => (by cases q)
    pp := fun W k X sc cm ks vs pos o m h => (by simp only [chkP] at h; cases h) }
theorem snd_or {a b : E} (sa : SndE G Γ Φ ca N a) (sb : SndE G Γ Φ ca N b) : SndE G Γ Φ ca N (.or a b) := by
  have pw : ∀ (W : WX) (k : Nat) (X : Cx) (sc : Scope) (cm : Bool) (x : Expr), OkX W k X N sc cm → MX G Γ Φ ca k X → isBoolOp x = true → chkT Γ N (.or a b) sc cm x = true → PW X x (tT X.K ca W (evE G Φ (.or a b))) := fun W k X sc cm x o m hbo h => by
    simp only [chkT] at h
    split at h
    · rename_i x y r pos
      rw [Bool.and_eq_true] at h
      refine t_or (sa.test o m h.1) ?_
      cases r with
      | nil => exact pw_or1 (sb.test o m h.2)
      | cons z r => exact sb.pw W k X sc cm _ o m rfl h.2
    · cases h
  exact {
    pe := fun W k X sc cm x o m h => by
      simp only [chkE] at h
      split at h
      · rename_i x y r pos
        rw [Bool.and_eq_true] at h
        obtain ⟨hh1, hh2⟩ := h
        have g : PE X (.BoolOp .Or (y :: r) pos) (tD X.K ca W (evE G Φ b)) := by
          match r, hh2 with
          | [], hh2 => exact pe_one (sb.pe W k X sc cm _ o m hh2)
          | z :: r, hh2 => exact sb.pe W k X sc cm _ o m hh2
        exact d_or (sa.pe W k X sc cm _ o m hh1) g
      · cases h
    pa := fun W k X sc cm x o m h => by cases h
    pt := fun W k X sc cm x o m h => by
      have hb : isBoolOp x = true := by
        simp only [chkT] at h
        split at h
        · rfl
        · cases h
      exact (pw W k X sc cm x o m hb h).pt
    pw := pw
    pc := fun W k X sc cm x o m hc h => by
      simp only [chkE] at h
      split at h
      · cases hc
      · cases h
    len := fun sc cm x sl h ds h' q => by cases q
    star := fun sc cm x q => (by cases q)
    pp := fun W k X sc cm ks vs pos o m h => (by simp only [chkP] at h; cases h) }
theorem snd_nil : SndE G Γ Φ ca N .nil where
  pe := fun W k X sc cm x o m h => by cases h
  pa := fun W k X sc cm x o m h => by
    simp only [chkA] at h
    split at h
    · exact a_nil
    · cases h
  pt := fun W k X sc cm x o m h => by cases h
  pw := fun W k X sc cm x o m _ h => by cases h
  pc := fun W k X sc cm x o m _ h => by cases h
  len := fun sc cm x sl h ds h' q e => by
    simp only [chkA] at q
    split at q
    · cases e; rfl
    · cases q
  star := fun sc cm x q => by
    simp only [chkA] at q
    split at q
    · rfl
    · cases q
  pp := fun W k X sc cm ks vs pos o m h => by
    simp only [chkP] at h
    split at h
    · exact ⟨[], pps_nil, rfl, rfl, fun σ H Q t => pr_nil t⟩
    · cases h
theorem snd_kv {a b c : E} (sa : SndE G Γ Φ ca N a) (sb : SndE G Γ Φ ca N b) (s3 : SndE G Γ Φ ca N c) : SndE G Γ Φ ca N (.kv a b c) where
  pe := fun W k X sc cm x o m h => by simp only [chkE] at h; cases h
  pa := fun W k X sc cm x o m h => by simp only [chkA] at h; cases h
  pt := fun W k X sc cm x o m h => by simp only [chkT] at h; cases h
  pw := fun W k X sc cm x o m _ h => by simp only [chkT] at h; cases h
  pc := fun W k X sc cm x o m _ h => by simp only [chkE] at h; cases h
  len := fun sc cm x sl h ds h' q e => by simp only [chkA] at q; cases q
  star := fun sc cm x q => by simp only [chkA] at q; cases q
  pp := fun W k X sc cm ks vs pos o m h => by
    simp only [chkP] at h
    split at h
    · rw [Bool.and_eq_true, Bool.and_eq_true] at h
      obtain ⟨trs, h1, h2, h3, h4⟩ := s3.pp W k X sc cm _ _ pos o m h.2
      exact ⟨_, pps_cons (sa.pe W k X sc cm _ o m h.1.1) (sb.pe W k X sc cm _ o m h.1.2) h1, by simpa using h2, by simpa using h3, fun σ H Q t => pr_kv h4 t⟩
    · cases h
theorem snd_cons {a b : E} (sa : SndE G Γ Φ ca N a) (sb : SndE G Γ Φ ca N b) : SndE G Γ Φ ca N (.cons a b) where
  pe := fun W k X sc cm x o m h => by cases h
  pa := fun W k X sc cm x o m h => by
    simp only [chkA] at h
    split at h
    · rw [Bool.and_eq_true, Bool.and_eq_true] at h
      exact a_cons h.1.2 (sa.pe W k X sc cm _ o m h.1.1) (sb.pa W k X sc cm _ o m h.2)
    · cases h
  pt := fun W k X sc cm x o m h => by cases h
  pw := fun W k X sc cm x o m _ h => by cases h
  pc := fun W k X sc cm x o m _ h => by cases h
  len := fun sc cm x sl h ds h' q e => by
    simp only [chkA] at q
    split at q
    · rw [Bool.and_eq_true, Bool.and_eq_true] at q
      simp only [evE] at e
      cases e1 : evE G Φ a sl h with
      | stuck => rw [e1] at e; cases e
      | ex _ _ => rw [e1] at e; cases e
      | ok d h1 =>
        rw [e1] at e
        simp only [R.bind] at e
        cases e2 : evE G Φ b sl h1 with
        | stuck => rw [e2] at e; cases e
        | ex _ _ => rw [e2] at e; cases e
        | ok d2 h2 =>
          rw [e2] at e
          simp only at e
          split at e
          · cases e
            have := sb.len _ _ _ _ _ _ _ q.2 e2
            simp [this]
          · cases e
    · cases q
  star := fun sc cm x q => by
    simp only [chkA] at q
    split at q
    · rw [Bool.and_eq_true, Bool.and_eq_true] at q
      rw [List.all_cons, Bool.and_eq_true]
      exact ⟨q.1.2, sb.star _ _ _ q.2⟩
    · cases q
  pp := fun W k X sc cm ks vs pos o m h => (by simp only [chkP] at h; cases h)

theorem chkP_nil {a : E} {sc : Scope} {cm : Bool} (h : chkP Γ N a sc cm [] [] = true) : a = .nil := by
  cases a <;> first | rfl | (simp only [chkP] at h; cases h)
theorem snd_dic {a : E} (sa : SndE G Γ Φ ca N a) : SndE G Γ Φ ca N (.dic a) := SndE.ofE (fun W k X sc cm x o m h => by
    simp only [chkE] at h
    split at h
    · rename_i ks vs pos
      rw [Bool.and_eq_true, Bool.and_eq_true] at h
      obtain ⟨⟨h1, h2⟩, h3⟩ := h
      obtain ⟨trs, t1, t2, t3, t4⟩ := sa.pp W k X sc cm _ _ pos o m h3
      by_cases h0 : ks = []
      · subst h0
        cases vs with
        | nil =>
          have := chkP_nil h3
          subst this
          exact PE.imp d_dic0 fun σ H Q t => t
        | cons => cases t3
      · exact PE.imp (d_dic t1 t2 t3 h0 (of_decide_eq_true h2) t4) fun σ H Q t => t
    · cases h) (fun _ _ _ => by simp only [chkA]) (fun _ _ _ _ => by simp only [chkP]) (fun _ _ _ => by simp only [chkT]) (fun sc cm x hx => by cases x <;> first | (cases hx; done) | simp only [chkE])
theorem tgR_of {K : PySem.W.Frag} {tg : Tg} {x : V} {σ : L2.St} {H : Hp} {Q : L2.St → Hp → Prop} (h : ∃ ρ h sl sl1 d, HR K ca ρ H h ∧ SlR K ρ h.length H sl σ ∧ Rel K ρ h.length H d x ∧ setTg tg [d] sl = some sl1 ∧ ∀ σ', SlR K ρ h.length H sl1 σ' → (∀ own, tgIn own tg = true → wipe σ' own = wipe σ own) → Q σ' H) : tgR K ca tg 1 [x] σ H Q := by
  obtain ⟨ρ, h, sl, sl1, d, r, s, q, e, f⟩ := h
  exact ⟨ρ, h, sl, sl1, [d], r, s, .cons q .nil, e, f⟩
theorem chkTg_one {sc : Scope} {tg : Tg} {e : Expr} (h : chkTg N sc tg [e] = true) (h1 : tgOne tg = true) : True := trivial

/-- the parts of a comprehension, for its two rules -/
theorem lc_parts {src cond elt : E} (s1 : SndE G Γ Φ ca N src) (s2 : SndE G Γ Φ ca N cond) (s3 : SndE G Γ Φ ca N elt) {own : List Nat} {tg : Tg} {ik : ItK} {sc scope : Scope} {cm : Bool} {el tgE it : Expr} {ifs : List Expr} {W : WX} {k : Nat} {X : Cx} (o : OkX W k X N sc cm) (m : MX G Γ Φ ca k X)
    (hcm : cm = true) (h3 : blkC N sc scope (ownOf N own) = true) (h4 : (ownOf N own).map (·.2) = own) (h5 : tgIn own tg = true) (h6 : chkTg N scope tg [tgE] = true) (h10 : tgOne tg = true)
    (h7 : itC Γ sc ik it tgE (fun e => chkE Γ N src sc cm e) (fun es => chkA Γ N src sc cm es) = true)
    (h8 : tsC cond ifs (fun c => chkT Γ N cond scope cm c || ((plainT c || isCmp c) && chkE Γ N cond scope cm c)) = true) (h9 : chkE Γ N elt scope cm el = true) :
    PI X tgE it (itR X.K ca W ik (evE G Φ src)) ∧ (∀ x, foldedSetIterable it X.env x = pure x) ∧ BlkOk X.N X.env.scope scope (ownOf N own) ∧
    (∀ (s : Shared) (H : Hp) (C : Addr) (cl : List (Str × Addr)) (fp : List Addr), PG (X.blk s H scope (compEnvC scope cl C X.env) fp) tgE (fun v => tgR X.K ca tg 1 [v])) ∧
    (∃ tt, (∀ σ H Q, tT X.K ca (fun _ _ _ _ => False) (evE G Φ cond) σ H Q → tt σ H Q) ∧ ∀ (s : Shared) (H : Hp) (C : Addr) (cl : List (Str × Addr)) (fp : List Addr), PTs (X.blk s H scope (compEnvC scope cl C X.env) fp) ifs tt) ∧
    ∀ (s : Shared) (H : Hp) (C : Addr) (cl : List (Str × Addr)) (fp : List Addr), PE (X.blk s H scope (compEnvC scope cl C X.env) fp) el (tD X.K ca (fun _ _ _ _ => False) (evE G Φ elt)) := by
  subst hcm
  obtain ⟨hi, hf⟩ := chkIt_pi s1 o m h7
  refine ⟨hi, hf, by rw [o.hN]; exact o.blk _ _ h3, fun s H C cl fp => ?_, ?_, fun s H C cl fp => ?_⟩
  · exact pg_D (o.inBlk s H C cl fp) (o.calm rfl).1 h6 h10
  · unfold tsC at h8
    split at h8
    · refine ⟨tYes, fun σ H Q t => ?_, fun s H C cl fp => pts_nil⟩
      have e : evE G Φ cond = fun _ h => .ok (.bl true) h := by
        cases cond <;> first | (cases h8; done) | skip
        rename_i b
        cases b <;> first | rfl | cases h8
      rw [e] at t
      obtain ⟨ρ, h, sl, r, s, p⟩ := t
      obtain ⟨b, eb, q⟩ := p.now r (.bl true)
      cases eb
      exact q
    · exact ⟨tT X.K ca (fun _ _ _ _ => False) (evE G Φ cond), fun _ _ _ t => t, fun s H C cl fp => pts_one (s2.test (o.inBlk s H C cl fp) m h8)⟩
    · cases h8
  · exact s3.pe _ k _ scope true el (o.inBlk s H C cl fp) m h9
theorem snd_lc {src cond elt : E} (s1 : SndE G Γ Φ ca N src) (s2 : SndE G Γ Φ ca N cond) (s3 : SndE G Γ Φ ca N elt) (fl : Bool) (own : List Nat) (tg : Tg) (ik : ItK) : SndE G Γ Φ ca N (.lc fl own tg ik src cond elt) := SndE.ofE (fun W k X sc cm x o m h => by
    simp only [chkE] at h
    split at h
    · rename_i el tgE it ifs a scope pos
      simp only [Bool.and_eq_true] at h
      obtain ⟨⟨⟨⟨⟨⟨⟨⟨⟨h1, h2⟩, h3⟩, h4⟩, h5⟩, h6⟩, h10⟩, h7⟩, h8⟩, h9⟩ := h
      have ea : a = 0 := eq_of_beq h2
      subst ea
      obtain ⟨p1, p2, p3, p4, ⟨tt, p5, p6⟩, p7⟩ := lc_parts s1 s2 s3 o m h1 h3 (of_decide_eq_true h4) h5 h6 h10 h7 h8 h9
      refine PE.imp (pe_lc (o.calm h1).1 (o.hN ▸ o.nd) p1 p3 p4 p6 p7 p2) fun σ H Q t => ?_
      rw [of_decide_eq_true h4]
      exact d_lcCore (fun x σ H Q h => tgR_of h) p5 h5 t
    · cases h) (fun _ _ _ => by simp only [chkA]) (fun _ _ _ _ => by simp only [chkP]) (fun _ _ _ => by simp only [chkT]) (fun sc cm x hx => by cases x <;> first | (cases hx; done) | simp only [chkE])

theorem chkIt_fold {src : E} {sc : Scope} {cm : Bool} {tgE it : Expr} {ik : ItK}
    (h : itC Γ sc ik it tgE (fun e => chkE Γ N src sc cm e) (fun es => chkA Γ N src sc cm es) = true) : ∀ env x, foldedSetIterable it env x = pure x := by
  intro env x
  unfold itC at h
  split at h
  · rw [Bool.and_eq_true] at h
    cases it <;> first | rfl | (simp [isSet] at h)
  · rfl
  · rfl
  · rfl
  · rfl
  · cases h
theorem tests_parts {cond : E} (s2 : SndE G Γ Φ ca N cond) {scope : Scope} {cm : Bool} {ifs : List Expr} {k : Nat} {P : Cx → Prop} (hP : ∀ X, P X → OkX (fun _ _ _ _ => False) k X N scope cm ∧ MX G Γ Φ ca k X)
    {K : PySem.W.Frag} (hK : ∀ X, P X → X.K = K)
    (h8 : tsC cond ifs (fun c => chkT Γ N cond scope cm c || ((plainT c || isCmp c) && chkE Γ N cond scope cm c)) = true) : ∃ tt, (∀ σ H Q, tT K ca (fun _ _ _ _ => False) (evE G Φ cond) σ H Q → tt σ H Q) ∧ ∀ X, P X → PTs X ifs tt := by
  unfold tsC at h8
  split at h8
  · refine ⟨tYes, fun σ H Q t => ?_, fun X _ => pts_nil⟩
    have e : evE G Φ cond = fun _ h => .ok (.bl true) h := by
      cases cond <;> first | (cases h8; done) | skip
      rename_i b
      cases b <;> first | rfl | cases h8
    rw [e] at t
    obtain ⟨ρ, h, sl, r, s, p⟩ := t
    obtain ⟨b, eb, q⟩ := p.now r (.bl true)
    cases eb
    exact q
  · refine ⟨tT K ca (fun _ _ _ _ => False) (evE G Φ cond), fun _ _ _ t => t, fun X hX => ?_⟩
    have e := hK X hX
    subst e
    exact pts_one (s2.test (hP X hX).1 (hP X hX).2 h8)
  · cases h8

/-- the parts of a comprehension of two clauses -/
theorem lc2_parts {src cond src2 cond2 elt : E} (s1 : SndE G Γ Φ ca N src) (s2 : SndE G Γ Φ ca N cond) (s4 : SndE G Γ Φ ca N src2) (s5 : SndE G Γ Φ ca N cond2) (s3 : SndE G Γ Φ ca N elt) {own : List Nat} {tg tg2 : Tg} {ik ik2 : ItK} {sc scope : Scope} {el tgE it tgE2 it2 : Expr} {ifs ifs2 : List Expr} {W : WX} {k : Nat} {X : Cx} (o : OkX W k X N sc true) (m : MX G Γ Φ ca k X)
    (h3 : blkC N sc scope (ownOf N own) = true) (h6 : chkTg N scope tg [tgE] = true) (h10 : tgOne tg = true) (h62 : chkTg N scope tg2 [tgE2] = true) (h102 : tgOne tg2 = true)
    (h7 : itC Γ sc ik it tgE (fun e => chkE Γ N src sc true e) (fun es => chkA Γ N src sc true es) = true)
    (h8 : tsC cond ifs (fun c => chkT Γ N cond scope true c || ((plainT c || isCmp c) && chkE Γ N cond scope true c)) = true)
    (h72 : itC Γ scope ik2 it2 tgE2 (fun e => chkE Γ N src2 scope true e) (fun es => chkA Γ N src2 scope true es) = true)
    (h82 : tsC cond2 ifs2 (fun c => chkT Γ N cond2 scope true c || ((plainT c || isCmp c) && chkE Γ N cond2 scope true c)) = true) (h9 : chkE Γ N elt scope true el = true) :
    PI X tgE it (itR X.K ca W ik (evE G Φ src)) ∧ (∀ x, foldedSetIterable it X.env x = pure x) ∧ BlkOk X.N X.env.scope scope (ownOf N own) ∧
    (∀ (s : Shared) (H : Hp) (C : Addr) (cl : List (Str × Addr)) (fp : List Addr), PG (X.blk s H scope (compEnvC scope cl C X.env) fp) tgE (fun v => tgR X.K ca tg 1 [v])) ∧
    (∃ tt, (∀ σ H Q, tT X.K ca (fun _ _ _ _ => False) (evE G Φ cond) σ H Q → tt σ H Q) ∧ ∀ (s : Shared) (H : Hp) (C : Addr) (cl : List (Str × Addr)) (fp : List Addr), PTs (X.blk s H scope (compEnvC scope cl C X.env) fp) ifs tt) ∧
    (∀ (s : Shared) (H : Hp) (C : Addr) (cl : List (Str × Addr)) (fp : List Addr), PI (X.blk s H scope (compEnvC scope cl C X.env) fp) tgE2 it2 (itR X.K ca (fun _ _ _ _ => False) ik2 (evE G Φ src2))) ∧
    (∀ (s : Shared) (H : Hp) (C : Addr) (cl : List (Str × Addr)) (fp : List Addr), PG (X.blk s H scope (compEnvC scope cl C X.env) fp) tgE2 (fun v => tgR X.K ca tg2 1 [v])) ∧
    (∃ tt, (∀ σ H Q, tT X.K ca (fun _ _ _ _ => False) (evE G Φ cond2) σ H Q → tt σ H Q) ∧ ∀ (s : Shared) (H : Hp) (C : Addr) (cl : List (Str × Addr)) (fp : List Addr), PTs (X.blk s H scope (compEnvC scope cl C X.env) fp) ifs2 tt) ∧
    ∀ (s : Shared) (H : Hp) (C : Addr) (cl : List (Str × Addr)) (fp : List Addr), PE (X.blk s H scope (compEnvC scope cl C X.env) fp) el (tD X.K ca (fun _ _ _ _ => False) (evE G Φ elt)) := by
  obtain ⟨hi, hf⟩ := chkIt_pi s1 o m h7
  let P : Cx → Prop := fun Y => ∃ (s : Shared) (H : Hp) (C : Addr) (cl : List (Str × Addr)) (fp : List Addr), Y = X.blk s H scope (compEnvC scope cl C X.env) fp
  have hP : ∀ Y, P Y → OkX (fun _ _ _ _ => False) k Y N scope true ∧ MX G Γ Φ ca k Y := fun Y ⟨s, H, C, cl, fp, e⟩ => by subst e; exact ⟨o.inBlk s H C cl fp, m⟩
  have hK : ∀ Y, P Y → Y.K = X.K := fun Y ⟨s, H, C, cl, fp, e⟩ => by subst e; rfl
  obtain ⟨tt, t1, t2⟩ := tests_parts s2 hP hK h8
  obtain ⟨tt2, t12, t22⟩ := tests_parts s5 hP hK h82
  exact ⟨hi, hf, by rw [o.hN]; exact o.blk _ _ h3, fun s H C cl fp => pg_D (o.inBlk s H C cl fp) (o.calm rfl).1 h6 h10, ⟨tt, t1, fun s H C cl fp => t2 _ ⟨s, H, C, cl, fp, rfl⟩⟩,
    fun s H C cl fp => (chkIt_pi s4 (o.inBlk s H C cl fp) m h72).1, fun s H C cl fp => pg_D (o.inBlk s H C cl fp) (o.calm rfl).1 h62 h102, ⟨tt2, t12, fun s H C cl fp => t22 _ ⟨s, H, C, cl, fp, rfl⟩⟩,
    fun s H C cl fp => s3.pe _ k _ scope true el (o.inBlk s H C cl fp) m h9⟩
theorem own2_of {own own2 : List Nat} (h : own2.all (fun i => decide (i ∈ own)) = true) : ∀ i ∈ own2, i ∈ own := fun i hi => of_decide_eq_true (List.all_eq_true.mp h i hi)
theorem snd_lc2 {src cond src2 cond2 elt : E} (s1 : SndE G Γ Φ ca N src) (s2 : SndE G Γ Φ ca N cond) (s4 : SndE G Γ Φ ca N src2) (s5 : SndE G Γ Φ ca N cond2) (s3 : SndE G Γ Φ ca N elt) (fl : Bool) (own own2 : List Nat) (tg : Tg) (ik : ItK) (tg2 : Tg) (ik2 : ItK) : SndE G Γ Φ ca N (.lc2 fl own own2 tg ik src cond tg2 ik2 src2 cond2 elt) := SndE.ofE (fun W k X sc cm x o m h => by
    simp only [chkE] at h
    split at h
    · rename_i el tgE it ifs a tgE2 it2 ifs2 a2 scope pos
      simp only [Bool.and_eq_true] at h
      obtain ⟨⟨⟨⟨⟨⟨⟨⟨⟨⟨⟨⟨⟨⟨⟨⟨h1, h2⟩, h22⟩, h3⟩, h4⟩, ho2⟩, h5⟩, h52⟩, h6⟩, h10⟩, h62⟩, h102⟩, h7⟩, h8⟩, h72⟩, h82⟩, h9⟩ := h
      have ea : a = 0 := eq_of_beq h2
      have ea2 : a2 = 0 := eq_of_beq h22
      subst ea ea2 h1
      obtain ⟨p1, p2, p3, p4, ⟨tt, p5, p6⟩, p7, p8, ⟨tt2, p9, p10⟩, p11⟩ := lc2_parts s1 s2 s4 s5 s3 o m h3 h6 h10 h62 h102 h7 h8 h72 h82 h9
      refine PE.imp (pe_lc2 (vs1 := own2) (o.calm rfl).1 (o.hN ▸ o.nd) p1 p3 (by rw [of_decide_eq_true h4]; exact own2_of ho2) p4 p6 p7 p8 p10 p11 p2 (chkIt_fold h72)) fun σ H Q t => ?_
      rw [of_decide_eq_true h4]
      exact d_lc2Core (fun x σ H Q h => tgR_of h) p5 h5 (fun x σ H Q h => tgR_of h) p9 h52 t
    · cases h) (fun _ _ _ => by simp only [chkA]) (fun _ _ _ _ => by simp only [chkP]) (fun _ _ _ => by simp only [chkT]) (fun sc cm x hx => by cases x <;> first | (cases hx; done) | simp only [chkE])

/-- every expression -/
theorem snd (G : Glob) (Γ : Gn) (Φ : Nat → List D → Hs → R D) (ca : Nat → Addr) (N : List Str) (c : E) : SndE G Γ Φ ca N c := by
  induction c with
  | var i => exact snd_var i
  | kN => exact snd_kN
  | kB b => exact snd_kB b
  | kI i => exact snd_kI i
  | kS s => exact snd_kS s
  | glob x => exact snd_glob x
  | bin c op a b ha hb => exact snd_bin ha hb c op
  | neg a ha => exact snd_neg ha
  | not a ha => exact snd_not ha
  | and a b ha hb => exact snd_and ha hb
  | or a b ha hb => exact snd_or ha hb
  | cmp op a b ha hb => exact snd_cmp ha hb op
  | chain op op' a b c ha hb hc => exact snd_chain ha hb hc op op'
  | ite t a b ht ha hb => exact snd_ite ht ha hb
  | nil => exact snd_nil
  | cons a b ha hb => exact snd_cons ha hb
  | kv a b c ha hb hc => exact snd_kv ha hb hc
  | dic a ha => exact snd_dic ha
  | tup a ha => exact snd_tup ha
  | lst c a ha => exact snd_lst ha c
  | ix a i ha hi => exact snd_ix ha hi
  | slice c a lo hi ha hl hh => exact snd_slice ha hl hh c
  | bi f a ha => exact snd_bi ha f
  | isi t a ha => exact snd_isi ha t
  | call f a ha => exact snd_call ha f
  | meth m o a ho ha => exact snd_meth ho ha m
  | lc c own tg k src cond elt h1 h2 h3 => exact snd_lc h1 h2 h3 c own tg k
  | lc2 c own own2 tg k src cond tg2 k2 src2 cond2 elt h1 h2 h3 h4 h5 => exact snd_lc2 h1 h2 h3 h4 h5 c own own2 tg k tg2 k2
end
end DI

/-! DI, part N: statements. -/
namespace DI
open PySem PySem.Spec PyProof.Rows L2

/-! ### which stores are swapped: computed -/
def swapP (sc : Scope) (ts vs : List Expr) : Option (Option (List Str)) :=
  if (!(ts.length == 2 || ts.length == 3) || vs.length != ts.length) = true then some none else
  if (vs.any fun | .Starred .. => true | _ => false) = true then some none else
  let line := (ts.head?.map (·.pos.line)).getD 0
  let names := ts.filterMap fun
    | .Name id pos => if sc.names.lookup id == some .local && pos.line == line then some id else none
    | _ => none
  if (names.length != ts.length || names.eraseDups.length != names.length) = true then some none else
  if (vs.all (foldedForSure 8)) = true then some none else
  if (vs.all (constantsAlone 8)) = true then none else some (some names)
theorem swapP_ok {sc : Scope} {ts vs : List Expr} {env : Env} {o : Option (List Str)} {k k2 : Nat} {p p2 : Pos} (hs : env.scope = sc) (hb : env.blockKind = .function) (h : swapP sc ts vs = some o) : swappedStores [.Tuple ts k p] (.Tuple vs k2 p2) env = pure o := by
  have ek : env.kindOf = fun x => sc.names.lookup x := by funext x; show env.scope.names.lookup x = _; rw [hs]
  unfold swapP at h
  unfold swappedStores
  simp only [hb, ek]
  have e0 : ∀ b : Bool, (b || (ScopeKind.function != ScopeKind.function)) = b := fun b => by cases b <;> rfl
  simp only [e0]
  split at h
  · rename_i h1
    cases h
    rw [if_pos h1]
  · rename_i h1
    rw [if_neg h1]
    split at h
    · rename_i h2
      cases h
      exact if_pos h2
    · rename_i h2
      refine (if_neg h2).trans ?_
      dsimp only at h
      split at h
      · rename_i h3
        cases h
        exact if_pos h3
      · rename_i h3
        refine (if_neg h3).trans ?_
        split at h
        · rename_i h4
          cases h
          exact if_pos h4
        · rename_i h4
          refine (if_neg h4).trans ?_
          split at h
          · cases h
          · rename_i h5
            cases h
            exact if_neg h5

/-! ### the text of statements -/
def isLc : Expr → Bool
  | .ListComp _ _ _ _ => true
  | .SetComp _ _ _ _ => true
  | .DictComp _ _ _ _ _ => true
  | _ => false
/-- does a plain store of a comprehension under a name go the swapped way -/
def lcSwap (sc : Scope) (e : Expr) (y : Str) (py : Pos) : Bool := match e with
  | .ListComp _ _ scope pos => sc.names.lookup y == some .local && py.line == pos.line && !(scope.names.any fun (n, k) => n == y && (k == .local || k == .cell))
  | _ => false

/-- a = .., b = .. at once: plain, different local names -/
def parC (sc : Scope) (tg : Tg) (ts : List Expr) : Bool := match tg, ts with
  | .tup (.cons (.nm i) (.cons (.nm j) .nil)), [.Name x _, .Name y _] => decide (i ≠ j) && sc.names.lookup x == some .local && sc.names.lookup y == some .local
  | .tup (.cons (.nm i) (.cons (.nm j) (.cons (.nm l) .nil))), [.Name x _, .Name y _, .Name z _] => decide (i ≠ j) && decide (i ≠ l) && decide (j ≠ l) && sc.names.lookup x == some .local && sc.names.lookup y == some .local && sc.names.lookup z == some .local
  | _, _ => false
def augOk : Operator → Bool
  | .Add => true | .Sub => true
  | _ => false
def isMsg : E → Bool
  | .cons (.kS _) .nil => true
  | _ => false
/-- return [n.fa, n.fb] if isinstance(n, C) else 'text' -/
def suiteC (Γ : Gn) (sc : Scope) (n : Str) (c : Nat) (fa fb : Str) (suite : List Stmt) : Bool := match suite with
  | [.Return (some (.IfExp (.Call (.Name f _) [.Name n1 _, .Name y _] [] _) (.List [.Attribute (.Name n2 _) f1 _, .Attribute (.Name n3 _) f2 _] _) (.Constant (.str _) _ _) _)) _] =>
    decide (f = "isinstance") && decide (n1 = n) && decide (n2 = n) && decide (n3 = n) && decide (f1 = fa) && decide (f2 = fb) && decide (Γ.clf y = some (c, fa, fb)) && isGl sc f && Γ.blt f && isGl sc y && noDbg y
  | _ => false
mutual
def chkS (Γ : Gn) (N : List Str) : S → Scope → Bool → Stmt → Bool
  | .nop, _, _, st => match st with
    | .Pass _ => true
    | _ => false
  | .seq _ _, _, _, _ => false
  | .asg tg e, sc, cm, st => match st with
    | .Assign [t] v _ => cm && tgOne tg && chkTg N sc tg [t] && (match t, v with
      | .Tuple ts _ _, .Tuple vs _ _ => (match swapP sc ts vs with
        | some none => chkE Γ N e sc cm v
        | some (some _) => chkE Γ N e sc cm v && parC sc tg ts
        | none => false)
      | .Name y py, v => if isLc v then (match v, e with
          | .ListComp el [⟨tgE, it, ifs, a⟩] scope p, .lc c own tg2 k src cond elt => chkE Γ N e sc cm v && ((lcSwap sc v y py) || !(sc.names.lookup y == some .local) || !(py.line == p.line))
          | .ListComp el [⟨tgE, it, ifs, a⟩, ⟨tgE2, it2, ifs2, a2⟩] scope p, .lc2 c own own2 tg2 k src cond tg3 k3 src3 cond3 elt => chkE Γ N e sc cm v && ((lcSwap sc v y py) || !(sc.names.lookup y == some .local) || !(py.line == p.line))
          | _, _ => false) else chkE Γ N e sc cm v
      | _, v => !isLc v && chkE Γ N e sc cm v)
    | _ => false
  | .aug i op e, sc, cm, st => match st with
    | .AugAssign (.Name x _) o v _ => decide (op = o) && augOk op && (N[i]? == some x) && isLoc sc x && chkE Γ N e sc cm v
    | _ => false
  | .setIx o i e, sc, cm, st => match st with
    | .Assign [.Subscript a b _] v _ => chkE Γ N o sc cm a && chkE Γ N i sc cm b && chkE Γ N e sc cm v && !isLc v && !isSl b
    | _ => false
  | .expr e, sc, cm, st => match st with
    | .Expr v _ => chkE Γ N e sc cm v && !isLc v
    | _ => false
  | .ret e, sc, cm, st => match st with
    | .Return (some v) _ => chkE Γ N e sc cm v
    | _ => false
  | .retN, _, _, st => match st with
    | .Return none _ => true
    | _ => false
  | .ite t a b, sc, cm, st => match st with
    | .If c p q _ => (chkT Γ N t sc cm c || ((plainT c || isCmp c) && chkE Γ N t sc cm c)) && chkB Γ N a sc cm p && chkB Γ N b sc cm q
    | _ => false
  | .while t b, sc, cm, st => match st with
    | .While c p [] _ => (chkT Γ N t sc cm c || ((plainT c || isCmp c) && chkE Γ N t sc cm c)) && chkB Γ N b sc cm p
    | _ => false
  | .for tg k src b, sc, cm, st => match st with
    | .For tgE it p [] _ => cm && tgOne tg && chkTg N sc tg [tgE]
        && itC Γ sc k it tgE (fun e => chkE Γ N src sc cm e) (fun es => chkA Γ N src sc cm es) && chkB Γ N b sc cm p
    | _ => false
  | .brk, _, _, st => match st with
    | .Break _ => true
    | _ => false
  | .cont, _, _, st => match st with
    | .Continue _ => true
    | _ => false
  | .raise c args, sc, cm, st => match st with
    | .Raise (some (.Call (.Name x _) [.Constant (.str _) _ _] [] _)) none _ => cm && (Γ.cls x == some c) && isGl sc x && noDbg x && isMsg args
    | _ => false
  | .try b hc su, sc, cm, st => match st with
    | .Try body [.ExceptHandler (some (.Name x _)) none (s0 :: suite) _] [] [] _ => cm && (Γ.cls x == some hc) && isGl sc x && noDbg x && chkB Γ N b sc true body && chkB Γ N su sc false (s0 :: suite)
    | _ => false
  | .raise2 c fa fb args, sc, cm, st => match st with
    | .Raise (some (.Call (.Name x _) (a :: es) [] _)) none _ => cm && decide (Γ.clf x = some (c, fa, fb)) && isGl sc x && noDbg x && decide (es.length = 1) && chkA Γ N args sc cm (a :: es)
    | _ => false
  | .tryR b hc i c fa fb, sc, cm, st => match st with
    | .Try body [.ExceptHandler (some (.Name x _)) (some n) suite _] [] [] _ => cm && (Γ.cls x == some hc) && isGl sc x && noDbg x && decide (N[i]? = some n) && decide (sc.names.lookup n = some .local) && noDbg n && chkB Γ N b sc true body && suiteC Γ sc n c fa fb suite
    | _ => false
def chkB (Γ : Gn) (N : List Str) : S → Scope → Bool → List Stmt → Bool
  | .nop, _, _, sts => match sts with
    | [] => true
    | _ => false
  | .seq a b, sc, cm, sts => match sts with
    | st :: r => chkS Γ N a sc cm st && chkB Γ N b sc cm r
    | _ => false
  | _, _, _, _ => false
end
end DI

/-! DI, part O: statements keep to their readings. -/
namespace DI
open PySem PySem.Spec PyProof.Rows L2

def PostS (K : PySem.W.Frag) (ca : Nat → Addr) (W : WX) (ρ : Rho) (n : Nat) (H : Hp) (r : SR) (D' : Ends) : Prop := match r with
  | .ok (.nx sl') h' => ∀ ρ' H' σ', HR K ca ρ' H' h' → Ext ρ n H ρ' h'.length H' → SlR K ρ' h'.length H' sl' σ' → D'.nx σ' H'
  | .ok (.bk sl') h' => ∀ ρ' H' σ', HR K ca ρ' H' h' → Ext ρ n H ρ' h'.length H' → SlR K ρ' h'.length H' sl' σ' → D'.bk σ' H'
  | .ok (.ct sl') h' => ∀ ρ' H' σ', HR K ca ρ' H' h' → Ext ρ n H ρ' h'.length H' → SlR K ρ' h'.length H' sl' σ' → D'.ct σ' H'
  | .ok (.rt d) h' => ∀ ρ' H' v, HR K ca ρ' H' h' → Ext ρ n H ρ' h'.length H' → Rel K ρ' h'.length H' d v → D'.rt v H'
  | .ex x sl' h' => ∀ ρ' H' σ' cls dd, HR K ca ρ' H' h' → Ext ρ n H ρ' h'.length H' → SlR K ρ' h'.length H' sl' σ' → XRel K ca ρ' h'.length H' x cls dd → W cls dd σ' H'
  | .stuck => False
def tS (K : PySem.W.Frag) (ca : Nat → Addr) (W : WX) (ev : Sl → Hs → SR) : TS := fun D' σ H => ∃ ρ h sl, HR K ca ρ H h ∧ SlR K ρ h.length H sl σ ∧ PostS K ca W ρ h.length H (ev sl h) D'

section
variable {K : PySem.W.Frag} {ca : Nat → Addr} {W : WX} {ρ ρ1 : Rho} {n : Nat} {H H1 : Hp} {h h1 : Hs} {r : SR} {D' D2 : Ends} {σ : L2.St} {sl : Sl}
theorem PostS.mono (p : PostS K ca W ρ n H r D') (e : Ext ρ n H ρ1 h1.length H1) (hr : HR K ca ρ1 H1 h1) : PostS K ca W ρ1 h1.length H1 r D' := by
  cases r with
  | ok o h' => cases o <;> exact fun ρ' H' v r' e' q => p ρ' H' v r' (e.trans hr rfl e') q
  | ex x sl' h' => exact fun ρ' H' s c d r' e' q => p ρ' H' s c d r' (e.trans hr rfl e') q
  | stuck => exact p
theorem PostS.imp (p : PostS K ca W ρ n H r D') (h1 : ∀ σ H, D'.nx σ H → D2.nx σ H) (h2 : ∀ v H, D'.rt v H → D2.rt v H) (h3 : ∀ σ H, D'.bk σ H → D2.bk σ H) (h4 : ∀ σ H, D'.ct σ H → D2.ct σ H) : PostS K ca W ρ n H r D2 := by
  cases r with
  | ok o h' => cases o with
    | nx _ => exact fun ρ' H' v r' e' q => h1 _ _ (p ρ' H' v r' e' q)
    | bk _ => exact fun ρ' H' v r' e' q => h3 _ _ (p ρ' H' v r' e' q)
    | ct _ => exact fun ρ' H' v r' e' q => h4 _ _ (p ρ' H' v r' e' q)
    | rt _ => exact fun ρ' H' v r' e' q => h2 _ _ (p ρ' H' v r' e' q)
  | ex x sl' h' => exact p
  | stuck => exact p
/-- an expression ahead in a statement -/
theorem seqSt {ev : Sl → Hs → R D} {f : D → Hs → SR} (r : HR K ca ρ H h) (s : SlR K ρ h.length H sl σ) (p : PostS K ca W ρ h.length H ((ev sl h).st sl f) D') :
    tD K ca W ev σ H (fun v H1 => ∃ ρ1 h1 d, HR K ca ρ1 H1 h1 ∧ Ext ρ h.length H ρ1 h1.length H1 ∧ Rel K ρ1 h1.length H1 d v ∧ ev sl h = .ok d h1 ∧ PostS K ca W ρ1 h1.length H1 (f d h1) D') := by
  refine ⟨ρ, h, sl, r, s, ?_⟩
  cases e : ev sl h with
  | ok d h' => rw [e] at p; exact fun ρ' H' v r' e' q => ⟨ρ', h', d, r', e', q, rfl, PostS.mono (r := f d h') p e' r'⟩
  | ex x h' =>
    rw [e] at p
    exact fun ρ' H' c d r' e' q => p ρ' H' σ c d r' e' (s.mono e' r) q
  | stuck => rw [e] at p; exact p
/-- a test ahead -/
theorem seqStT {X : Cx} {ev : Sl → Hs → R D} {g : Bool → Hs → SR} (r : HR X.K ca ρ H h) (s : SlR X.K ρ h.length H sl σ)
    (p : PostS X.K ca W ρ h.length H ((ev sl h).st sl fun x h1 => match truth h1 x with | some b => g b h1 | none => .stuck) D') :
    tT X.K ca W ev σ H (fun b H1 => ∃ ρ1 h1, HR X.K ca ρ1 H1 h1 ∧ Ext ρ h.length H ρ1 h1.length H1 ∧ PostS X.K ca W ρ1 h1.length H1 (g b h1) D') := by
  refine tst_seq r s ?_
  unfold tst
  cases e : ev sl h with
  | ok d h' =>
    rw [e] at p
    simp only [R.bind, R.st] at p ⊢
    cases e1 : truth h' d with
    | none => rw [e1] at p; exact p.elim
    | some b =>
      rw [e1] at p
      exact ⟨b, rfl, fun ρ' H' r' e' => ⟨ρ', h', r', e', PostS.mono p e' r'⟩⟩
  | ex x h' => rw [e] at p; exact fun ρ' H' c d r' e' q => p ρ' H' σ c d r' e' (s.mono e' r) q
  | stuck => rw [e] at p; exact p
theorem st_bool {g : Bool → Hs → SR} {h1 : Hs} {x : D} : (match truth h1 x with | some true => g true h1 | some false => g false h1 | none => .stuck) = (match truth h1 x with | some b => g b h1 | none => .stuck) := by
  cases truth h1 x with
  | none => rfl
  | some b => cases b <;> rfl
end

/-! ### where statements stand -/
structure OkS (W : WX) (k : Nat) (X : Cx) (N : List Str) (sc : Scope) (cm : Bool) : Prop extends OkX W k X N sc cm where
  sce : X.env.scope = sc
  skd : sc.kind = .function
  stk : X.stack = X.env :: X.outer
  frm : X.env.frame = some X.env.locals
  ps : PassesOwn (model X.prog X.w) X.A X.env X.xe
theorem OkS.bk {W : WX} {k : Nat} {X : Cx} {N : List Str} {sc : Scope} {cm : Bool} (o : OkS W k X N sc cm) : X.env.blockKind = .function := by
  unfold Env.blockKind
  rw [o.sce, o.skd]
  rfl

section
variable {X : Cx} {ca : Nat → Addr} {W : WX} {N : List Str} {sc : Scope} {cm : Bool} {k : Nat} {pos : Pos}
variable {e e2 e3 : Expr} {ev ev2 ev3 : Sl → Hs → R D} {st : Stmt} {rest body : List Stmt} {es es2 : Sl → Hs → SR}

theorem s_nil : PSs X [] (tS X.K ca W fun sl h => .ok (.nx sl) h) := PSs.imp pss_nil fun D' σ H t => by
  obtain ⟨ρ, h, sl, r, s, p⟩ := t
  exact p ρ H σ r Ext.refl s
def seqS (es es2 : Sl → Hs → SR) : Sl → Hs → SR := fun sl h => match es sl h with
  | .ok (.nx sl1) h1 => es2 sl1 h1
  | r => r
theorem s_cons (h1 : PS X st (tS X.K ca W es)) (h2 : PSs X rest (tS X.K ca W es2)) : PSs X (st :: rest) (tS X.K ca W (seqS es es2)) := PSs.imp (pss_cons h1 h2) fun D' σ H t => by
  obtain ⟨ρ, h, sl, r, s, p⟩ := t
  refine ⟨ρ, h, sl, r, s, ?_⟩
  unfold seqS at p
  cases e : es sl h with
  | stuck => rw [e] at p; exact p
  | ex x sl' h' => rw [e] at p; exact p
  | ok o h' =>
    rw [e] at p
    cases o with
    | nx sl1 => exact fun ρ' H' σ' r' e' s' => ⟨ρ', h', sl1, r', s', PostS.mono p e' r'⟩
    | bk _ => exact p
    | ct _ => exact p
    | rt _ => exact p
theorem s_pass : PS X (.Pass pos) (tS X.K ca W fun sl h => .ok (.nx sl) h) := PS.imp ps_pass fun D' σ H t => by
  obtain ⟨ρ, h, sl, r, s, p⟩ := t
  exact p ρ H σ r Ext.refl s
theorem s_brk : PS X (.Break pos) (tS X.K ca W fun sl h => .ok (.bk sl) h) := PS.imp ps_break fun D' σ H t => by
  obtain ⟨ρ, h, sl, r, s, p⟩ := t
  exact p ρ H σ r Ext.refl s
theorem s_cont : PS X (.Continue pos) (tS X.K ca W fun sl h => .ok (.ct sl) h) := PS.imp ps_continue fun D' σ H t => by
  obtain ⟨ρ, h, sl, r, s, p⟩ := t
  exact p ρ H σ r Ext.refl s
theorem s_ret (he : PE X e (tD X.K ca W ev)) : PS X (.Return (some e) pos) (tS X.K ca W fun sl h => (ev sl h).st sl fun d h1 => .ok (.rt d) h1) := PS.imp (ps_ret he) fun D' σ H t => by
  obtain ⟨ρ, h, sl, r, s, p⟩ := t
  refine tD.imp (seqSt r s p) fun v H1 q => ?_
  obtain ⟨ρ1, h1, d, r1, x1, qd, _, p1⟩ := q
  exact p1 ρ1 H1 v r1 Ext.refl qd
theorem s_retN : PS X (.Return none pos) (tS X.K ca W fun sl h => .ok (.rt .non) h) := PS.imp ps_retN fun D' σ H t => by
  obtain ⟨ρ, h, sl, r, s, p⟩ := t
  exact p ρ H _ r Ext.refl .non
theorem swaps_no (h : isLc e = false) {o : Option Expr} {l : Nat} {env : Env} : swapsWith e o l env = pure false := by
  cases e <;> first | rfl | cases h
theorem s_expr (hl : isLc e = false) (he : PE X e (tD X.K ca W ev)) : PS X (.Expr e pos) (tS X.K ca W fun sl h => (ev sl h).st sl fun _ h1 => .ok (.nx sl) h1) := PS.imp (ps_expr he (swaps_no hl)) fun D' σ H t => by
  obtain ⟨ρ, h, sl, r, s, p⟩ := t
  refine tD.imp (seqSt r s p) fun v H1 q => ?_
  obtain ⟨ρ1, h1, d, r1, x1, qd, _, p1⟩ := q
  exact p1 ρ1 H1 σ r1 Ext.refl (s.mono x1 r)
def asgE (tg : Tg) (ev : Sl → Hs → R D) : Sl → Hs → SR := fun sl h => (ev sl h).st sl fun d h1 => match setTg tg [d] sl with
    | some sl1 => .ok (.nx sl1) h1
    | none => .stuck
theorem asg_red {tg : Tg} {D' : Ends} {σ : L2.St} {H : Hp} (t : tS X.K ca W (asgE tg ev) D' σ H) : tAsg (tD X.K ca W ev) (fun v => tgR X.K ca tg 1 [v]) D' σ H := by
  obtain ⟨ρ, h, sl, r, s, p⟩ := t
  refine tD.imp (seqSt r s p) fun v H1 q => ?_
  obtain ⟨ρ1, h1, d, r1, x1, qd, _, p1⟩ := q
  split at p1
  · rename_i sl1 e1
    exact tgR_of ⟨ρ1, h1, sl, sl1, d, r1, s.mono x1 r, qd, e1, fun σ' s' _ => p1 ρ1 H1 σ' r1 Ext.refl s'⟩
  · exact p1.elim
theorem s_asg {tg : Tg} {t : Expr} (o : OkS W k X N sc true) (h1 : chkTg N sc tg [t] = true) (h2 : tgOne tg = true) (hs : swapsWithSole [t] e pos.line X.env = pure false) (hw : swappedStores [t] e X.env = pure none) (he : PE X e (tD X.K ca W ev)) :
    PS X (.Assign [t] e pos) (tS X.K ca W (asgE tg ev)) := by
  have hst : starOk t = true := List.all_eq_true.mp (chkTg_star h1) _ (by simp)
  exact PS.imp (ps_asg he (pg_D o.toOkX (o.calm rfl).1 h1 h2) hs hw (by rw [assignEach_cons hst]; rfl)) fun D' σ H t => asg_red t
theorem s_if {c : Expr} {p q : List Stmt} (hc : PT X c (tT X.K ca W ev)) (ha : PSs X p (tS X.K ca W es)) (hb : PSs X q (tS X.K ca W es2)) :
    PS X (.If c p q pos) (tS X.K ca W fun sl h => (ev sl h).st sl fun x h1 => match truth h1 x with | some true => es sl h1 | some false => es2 sl h1 | none => .stuck) := PS.imp (ps_if hc ha hb) fun D' σ H t => by
  obtain ⟨ρ, h, sl, r, s, p⟩ := t
  simp only [st_bool (g := fun b h1 => if b = true then es sl h1 else es2 sl h1), if_true] at p
  have p' : PostS X.K ca W ρ h.length H ((ev sl h).st sl fun x h1 => match truth h1 x with | some b => (if b = true then es sl h1 else es2 sl h1) | none => .stuck) D' := by
    have : (fun (x : D) (h1 : Hs) => match truth h1 x with | some true => es sl h1 | some false => es2 sl h1 | none => SR.stuck) = fun x h1 => match truth h1 x with | some b => (if b = true then es sl h1 else es2 sl h1) | none => .stuck := by
      funext x h1
      cases truth h1 x with
      | none => rfl
      | some b => cases b <;> rfl
    rw [← this]
    exact p
  refine tD.imp (seqStT (X := X) r s p') fun v H1 q => ?_
  obtain ⟨b, eb, ρ1, h1, r1, x1, p1⟩ := q
  refine ⟨b, eb, ?_⟩
  cases b with
  | true => exact ⟨ρ1, h1, sl, r1, s.mono x1 r, p1⟩
  | false => exact ⟨ρ1, h1, sl, r1, s.mono x1 r, p1⟩
end
end DI

/-! DI, part P: more statements. -/
namespace DI
open PySem PySem.Spec PyProof.Rows L2

section
variable {X : Cx} {G : Glob} {Γ : Gn} {Φ : Nat → List D → Hs → R D} {ca : Nat → Addr} {W : WX} {N : List Str} {sc : Scope} {cm : Bool} {k : Nat} {pos : Pos}
variable {e e2 e3 : Expr} {ev ev2 ev3 : Sl → Hs → R D} {st : Stmt} {rest body : List Stmt} {es es2 : Sl → Hs → SR}

/-- what the slots are behind a, b = .. -/
theorem par_red {a : E} {tg : Tg} {D' : Ends} {σ : L2.St} {H : Hp} (t : tS X.K ca W (asgE tg (evE G Φ (.tup a))) D' σ H) :
    tA X.K ca W (evE G Φ a) σ H (fun vs H1 => ∃ ρ1 h1 sl sl1 ds, HR X.K ca ρ1 H1 h1 ∧ SlR X.K ρ1 h1.length H1 sl σ ∧ Rels X.K ρ1 h1.length H1 ds vs ∧ setTg tg [.tup ds] sl = some sl1 ∧ ∀ σ', SlR X.K ρ1 h1.length H1 sl1 σ' → D'.nx σ' H1) := by
  obtain ⟨ρ, h, sl, r, s, p⟩ := t
  refine ⟨ρ, h, sl, r, s, ?_⟩
  unfold asgE at p
  simp only [evE] at p
  cases e : evE G Φ a sl h with
  | stuck => rw [e] at p; exact p
  | ex x h' => rw [e] at p; exact fun ρ' H' c d r' e' q => p ρ' H' σ c d r' e' (s.mono e' r) q
  | ok d h' =>
    rw [e] at p
    simp only [R.bind] at p
    cases d with
    | tup ds =>
      simp only at p
      refine ⟨ds, rfl, fun ρ' H' vs r' e' q => ?_⟩
      by_cases hl : ds.length ≤ lim
      · rw [if_pos hl] at p
        simp only [R.st] at p
        cases e1 : setTg tg [.tup ds] sl with
        | none => rw [e1] at p; exact p.elim
        | some sl1 =>
          rw [e1] at p
          exact ⟨ρ', h', sl, sl1, ds, r', s.mono e' r, q, e1, fun σ' s' => p ρ' H' σ' r' e' s'⟩
      · rw [if_neg hl] at p; exact p.elim
    | _ => exact p.elim

theorem s_par2 {i j : Nat} {x y : Str} {a b : Expr} {px py pt : Pos} {kt k2 pt2} {c : E} (o : OkX W k X N sc true) (hi : N[i]? = some x) (hj : N[j]? = some y) (hij : i ≠ j)
    (hx : X.env.scope.names.lookup x = some .local) (hy : X.env.scope.names.lookup y = some .local) (ha : PA X [a, b] (tA X.K ca W (evE G Φ c)))
    (hw : swappedStores [.Tuple [.Name x px, .Name y py] kt pt] (.Tuple [a, b] k2 pt2) X.env = pure (some [x, y])) :
    PS X (.Assign [.Tuple [.Name x px, .Name y py] kt pt] (.Tuple [a, b] k2 pt2) pos) (tS X.K ca W (asgE (.tup (.cons (.nm i) (.cons (.nm j) .nil))) (evE G Φ (.tup c)))) := by
  refine PS.imp (ps_par (o.calm rfl).1 (o.hN ▸ o.nd) (o.hN ▸ hi) (o.hN ▸ hj) hij hx hy ha hw) fun D' σ H t => ?_
  refine tA.imp (par_red t) fun vs H1 q => ?_
  obtain ⟨ρ1, h1, sl, sl1, ds, r1, s1, rs, e1, f⟩ := q
  cases rs with
  | nil => simp [setTg] at e1
  | cons q1 rs =>
    cases rs with
    | nil => simp [setTg] at e1
    | cons q2 rs =>
      cases rs with
      | nil =>
        simp only [setTg] at e1
        cases e1
        exact ⟨_, _, rfl, f _ ((s1.set q1 i).set q2 j)⟩
      | cons q3 rs => simp [setTg] at e1
theorem s_par3 {i j l : Nat} {x y z : Str} {a b c3 : Expr} {px py pz pt : Pos} {kt k2 pt2} {c : E} (o : OkX W k X N sc true) (hi : N[i]? = some x) (hj : N[j]? = some y) (hl : N[l]? = some z) (hij : i ≠ j) (hil : i ≠ l) (hjl : j ≠ l)
    (hx : X.env.scope.names.lookup x = some .local) (hy : X.env.scope.names.lookup y = some .local) (hz : X.env.scope.names.lookup z = some .local) (ha : PA X [a, b, c3] (tA X.K ca W (evE G Φ c)))
    (hw : swappedStores [.Tuple [.Name x px, .Name y py, .Name z pz] kt pt] (.Tuple [a, b, c3] k2 pt2) X.env = pure (some [x, y, z])) :
    PS X (.Assign [.Tuple [.Name x px, .Name y py, .Name z pz] kt pt] (.Tuple [a, b, c3] k2 pt2) pos) (tS X.K ca W (asgE (.tup (.cons (.nm i) (.cons (.nm j) (.cons (.nm l) .nil)))) (evE G Φ (.tup c)))) := by
  refine PS.imp (ps_par3 (o.calm rfl).1 (o.hN ▸ o.nd) (o.hN ▸ hi) (o.hN ▸ hj) (o.hN ▸ hl) hij hil hjl hx hy hz ha hw) fun D' σ H t => ?_
  refine tA.imp (par_red t) fun vs H1 q => ?_
  obtain ⟨ρ1, h1, sl, sl1, ds, r1, s1, rs, e1, f⟩ := q
  cases rs with
  | nil => simp [setTg] at e1
  | cons q1 rs =>
    cases rs with
    | nil => simp [setTg] at e1
    | cons q2 rs =>
      cases rs with
      | nil => simp [setTg] at e1
      | cons q3 rs =>
        cases rs with
        | nil =>
          simp only [setTg] at e1
          cases e1
          exact ⟨_, _, _, rfl, f _ (((s1.set q1 i).set q2 j).set q3 l)⟩
        | cons q4 rs => simp [setTg] at e1

/-! ### name op= .. -/
def augE (i : Nat) (op : Operator) (ev : Sl → Hs → R D) : Sl → Hs → SR := fun sl h => match sl[i]? with
    | some (some x) => (ev sl h).st sl fun y h1 => match x, y with
      | .int a, .int b => match binI op a b with
        | some z => .ok (.nx (sl.set i (some (.int z)))) h1
        | none => .stuck
      | .str a, .str b => if op = .Add ∧ a.length + b.length ≤ lim then .ok (.nx (sl.set i (some (.str (a ++ b))))) h1 else .stuck
      | _, _ => .stuck
    | _ => .stuck
def augR (op : Operator) : R2 := fun x y H Q => (∃ a b z, x = .int a ∧ y = .int b ∧ binI op a b = some z ∧ Q (.int z) H) ∨ (∃ a b, x = .str a ∧ y = .str b ∧ op = .Add ∧ a.length + b.length ≤ lim ∧ Q (.str (a ++ b)) H)
theorem iop_D {op : Operator} (h : augOk op = true) : OpR X (inplaceOp op) (augR op) := by
  intro pins s σ H x y v u Q I rx ry q
  rcases q with ⟨a, b, z, rfl, rfl, ez, q⟩ | ⟨a, b, rfl, rfl, eo, hl, q⟩
  · cases op <;> first | cases h | skip
    · cases ez; exact iop_add pins s σ H _ _ v u Q I rx ry ⟨a, b, rfl, rfl, q⟩
    · cases ez; exact iop_sub pins s σ H _ _ v u Q I rx ry ⟨a, b, rfl, rfl, q⟩
  · subst eo
    exact iop_add_str pins s σ H _ _ v u Q I rx ry ⟨a, b, rfl, rfl, hl, q⟩
theorem s_aug {i : Nat} {x : Str} {op : Operator} {p' : Pos} (o : OkX W k X N sc cm) (hi : N[i]? = some x) (hx : isLoc sc x = true) (hop : augOk op = true) (he : PE X e (tD X.K ca W ev)) :
    PS X (.AugAssign (.Name x p') op e pos) (tS X.K ca W (augE i op ev)) := by
  have hl := o.loc x hx
  have hlf := hl.2
  refine PS.imp (ps_aug (o.hN ▸ o.nd) (o.hN ▸ hi) hl.1 he (ti := augR op) (iop_D hop) hlf) fun D' σ H t => ?_
  obtain ⟨ρ, h, sl, r, s, p⟩ := t
  unfold augE at p
  split at p
  · rename_i d hd
    obtain ⟨v0, e0, q0⟩ := s.2 i d hd
    refine ⟨v0, e0, tD.imp (seqSt r s p) fun v H1 q => ?_⟩
    obtain ⟨ρ1, h1, d1, r1, x1, qd, _, p1⟩ := q
    have q0' := q0.mono x1 r
    have s1 := s.mono x1 r
    split at p1
    · cases q0'; cases qd
      split at p1
      · rename_i z ez
        exact .inl ⟨_, _, z, rfl, rfl, ez, p1 ρ1 H1 _ r1 Ext.refl (s1.set (.int z) i)⟩
      · exact p1.elim
    · cases q0'; cases qd
      split at p1
      · rename_i hz
        exact .inr ⟨_, _, rfl, rfl, hz.1, hz.2, p1 ρ1 H1 _ r1 Ext.refl (s1.set (.str _) i)⟩
      · exact p1.elim
    · exact p1.elim
  · exact p.elim

/-! ### o[i] = .. -/
def setIxE (ev ev2 ev3 : Sl → Hs → R D) : Sl → Hs → SR := fun sl h => (ev sl h).st sl fun v h1 => (ev2 sl h1).st sl fun x h2 => (ev3 sl h2).st sl fun y h3 => match setIxD x y v h3 with
    | some h4 => .ok (.nx sl) h4
    | none => .stuck
def setR (K : PySem.W.Frag) (ca : Nat → Addr) : V → V → V → Hp → (Hp → Prop) → Prop := fun o i v H Q => ∃ ρ h x y d h', HR K ca ρ H h ∧ Rel K ρ h.length H x o ∧ Rel K ρ h.length H y i ∧ Rel K ρ h.length H d v ∧ setIxD x y d h = some h' ∧
  ∀ ρ' H', HR K ca ρ' H' h' → Ext ρ h.length H ρ' h'.length H' → Q H'
theorem set_D (hu : X.A.units + 1 < cLine) : PSet X (setR X.K ca) := by
  intro pins s σ H o i v ov iv u Q I ro ri rv q
  obtain ⟨ρ, h, x, y, d, h', r, qx, qy, qd, es, q⟩ := q
  unfold setIxD at es
  split at es
  · rename_i m
    split at es
    · rename_i xs hm
      split at es
      · rename_i kk
        cases qx; cases qy
        obtain ⟨vs, hH, rs⟩ := r.cell m _ hm
        have hml : m < h.length := (List.getElem?_eq_some_iff.mp hm).1
        cases ej : L2.ixN xs.length kk with
        | none => rw [ej] at es; cases es
        | some j =>
          rw [ej] at es
          cases es
          obtain ⟨r', e'⟩ := r.write hml (.lst (xs.set j d)) (.lst (vs.set j v)) (fun _ => HO.noConfusion) fun e => ⟨_, upd_same, Rels.set (qd.mono e r) j (rs.mono e r)⟩
          exact set_list pins s σ H _ _ v ov iv u Q I ro ri rv ⟨_, vs, kk, j, rfl, rfl, hH, by rw [rs.length]; exact ej, q _ _ r' e'⟩
      · cases es
    · rename_i kvs hm
      split at es
      · rename_i hlen
        obtain ⟨vs, hH, rs⟩ := r.cell m _ hm
        have hml : m < h.length := (List.getElem?_eq_some_iff.mp hm).1
        have go : ∀ (key : L2.Key), i = kV key → some (h.set m (.dic (putA kvs key d))) = some h' → wpAny (model X.prog X.w) X.A (setItem ov iv u) (fun _ s' => ∃ H', Inv X pins σ H' s' ∧ Q H') X.xe s := fun key ek e => by
          subst ek
          cases e
          obtain ⟨r', e'⟩ := r.write hml (.dic (putA kvs key d)) (.dK (putK vs key v)) (fun _ => HO.noConfusion) fun e => ⟨_, upd_same, Rkv.put (qd.mono e r) (rs.mono e r)⟩
          cases qx
          cases ro
          exact d_setItem hu I (DPut.k hH (by rw [rs.length]; exact hlen)) ri rv fun s' I' => ⟨_, I', q _ _ r' e'⟩
        split at es
        · cases qy; exact go (Sum.inl _) rfl es
        · cases qy; exact go (Sum.inr _) rfl es
        · cases es
      · cases es
    · cases es
  · cases es
theorem s_setIx {a b : Expr} {p2 : Pos} (o : OkX W k X N sc cm) (hb : isSl b = false) (hl : isLc e = false) (he : PE X e (tD X.K ca W ev)) (ha : PE X a (tD X.K ca W ev2)) (hi : PE X b (tD X.K ca W ev3)) :
    PS X (.Assign [.Subscript a b p2] e pos) (tS X.K ca W (setIxE ev ev2 ev3)) := by
  have ha' : ∀ v, assign (.Subscript a b p2) X.env v = (do
      let ov ← holding [v] (eval a X.env)
      let iv ← holding [v, ov] (eval b X.env)
      standAt p2
      holding [v, ov, iv] (setItem ov iv v)
      release [v, ov, iv] []) := by
    intro v
    cases b <;> first | rfl | cases hb
  refine PS.imp (ps_asg he (pg_sub ha hi (set_D (ca := ca) (by have := o.units; omega)) ha') (swaps_no hl : swapsWith e (some (.Subscript a b p2)) pos.line X.env = pure false)) fun D' σ H t => ?_
  obtain ⟨ρ, h, sl, r, s, p⟩ := t
  refine tD.imp (seqSt r s p) fun v H1 q => ?_
  obtain ⟨ρ1, h1, d, r1, x1, qd, _, p1⟩ := q
  have s1 := s.mono x1 r
  refine tD.imp (seqSt r1 s1 p1) fun ov H2 q => ?_
  obtain ⟨ρ2, h2, x, r2, x2, qx, _, p2⟩ := q
  have s2 := s1.mono x2 r1
  refine tD.imp (seqSt r2 s2 p2) fun iv H3 q => ?_
  obtain ⟨ρ3, h3, y, r3, x3, qy, _, p3⟩ := q
  have s3 := s2.mono x3 r2
  cases e4 : setIxD x y d h3 with
  | none => rw [e4] at p3; exact p3.elim
  | some h4 =>
    rw [e4] at p3
    exact ⟨ρ3, h3, x, y, d, h4, r3, qx.mono x3 r2, qy, (qd.mono x2 r1).mono x3 r2, e4, fun ρ' H' r' e' => p3 ρ' H' σ r' e' (s3.mono e' r3)⟩
end
end DI

/-! DI, part Q: loops, exceptions. -/
namespace DI
open PySem PySem.Spec PyProof.Rows L2

section
variable {X : Cx} {G : Glob} {Γ : Gn} {Φ : Nat → List D → Hs → R D} {ca : Nat → Addr} {W : WX} {N : List Str} {sc : Scope} {cm : Bool} {k : Nat} {pos : Pos}
variable {e e2 e3 : Expr} {ev ev2 ev3 : Sl → Hs → R D} {st : Stmt} {rest body : List Stmt} {es es2 : Sl → Hs → SR}

def whG (ev : Sl → Hs → R D) (es : Sl → Hs → SR) (m : Nat) (sl : Sl) (b : Bool) (h1 : Hs) : SR :=
  if b = true then (match es sl h1 with
    | .ok (.nx sl2) h2 => whileD ev es m sl2 h2
    | .ok (.ct sl2) h2 => whileD ev es m sl2 h2
    | .ok (.bk sl2) h2 => .ok (.nx sl2) h2
    | r => r)
  else .ok (.nx sl) h1
theorem whileD_succ {m : Nat} {h : Hs} {sl : Sl} : whileD ev es (m + 1) sl h = (ev sl h).st sl fun x h1 => match truth h1 x with
    | some b => whG ev es m sl b h1
    | none => .stuck := by
  show (ev sl h).st sl _ = _
  congr 1
  funext x h1
  cases truth h1 x with
  | none => rfl
  | some b => cases b <;> rfl
theorem s_while {c : Expr} (o : OkS W k X N sc cm) (hc : PT X c (tT X.K ca W ev)) (hb : PSs X body (tS X.K ca W es)) : PS X (.While c body [] pos) (tS X.K ca W (whileD ev es wf)) := PS.imp (ps_while o.ps hc hb) fun D' σ H t => by
  obtain ⟨ρ, h, sl, r, s, p⟩ := t
  refine ⟨fun m σ H => ∃ ρ h sl, HR X.K ca ρ H h ∧ SlR X.K ρ h.length H sl σ ∧ PostS X.K ca W ρ h.length H (whileD ev es m sl h) D', ⟨wf, ρ, h, sl, r, s, p⟩, fun m σ H q => ?_⟩
  obtain ⟨ρ, h, sl, r, s, p⟩ := q
  cases m with
  | zero => exact p.elim
  | succ m =>
    have p' : PostS X.K ca W ρ h.length H ((ev sl h).st sl fun x h1 => match truth h1 x with | some b => whG ev es m sl b h1 | none => .stuck) D' := by
      rw [whileD_succ] at p
      exact p
    refine tD.imp (seqStT (X := X) r s p') fun v H1 q => ?_
    obtain ⟨b, eb, ρ1, h1, r1, x1, p1⟩ := q
    refine ⟨b, eb, ?_⟩
    have s1 := s.mono x1 r
    cases b with
    | false => exact p1 ρ1 H1 σ r1 Ext.refl s1
    | true =>
      simp only [whG, if_true] at p1 ⊢
      refine ⟨fun σ H => ∃ ρ h sl, HR X.K ca ρ H h ∧ SlR X.K ρ h.length H sl σ ∧ PostS X.K ca W ρ h.length H (whileD ev es m sl h) D', fun σ' H' q => ⟨m, Nat.lt_succ_self m, q⟩, ρ1, h1, sl, r1, s1, ?_⟩
      cases e : es sl h1 with
      | stuck => rw [e] at p1; exact p1
      | ex x sl' h' => rw [e] at p1; exact p1
      | ok o' h' =>
        rw [e] at p1
        cases o' with
        | nx sl2 => exact fun ρ' H' σ' r' e' s' => ⟨ρ', h', sl2, r', s', PostS.mono p1 e' r'⟩
        | ct sl2 => exact fun ρ' H' σ' r' e' s' => ⟨ρ', h', sl2, r', s', PostS.mono p1 e' r'⟩
        | bk sl2 => exact fun ρ' H' σ' r' e' s' => p1 ρ' H' σ' r' e' s'
        | rt d => exact p1

def forE (tg : Tg) (ik : ItK) (ev : Sl → Hs → R D) (es : Sl → Hs → SR) : Sl → Hs → SR := fun sl h => (ev sl h).st sl fun v h1 => match itemsOf ik v h1 with
    | some items => forD (fun h2 => decide (itemsOf ik v h2 = some items)) (fun x sl1 => setTg tg [x] sl1) es items sl h1
    | none => .stuck
theorem s_for {tg : Tg} {ik : ItK} {tgE it : Expr} (o : OkS W k X N sc true) (h1 : chkTg N sc tg [tgE] = true) (h2 : tgOne tg = true) (hi : PI X tgE it (itR X.K ca W ik ev)) (hf : ∀ x, foldedSetIterable it X.env x = pure x) (hb : PSs X body (tS X.K ca W es)) :
    PS X (.For tgE it body [] pos) (tS X.K ca W (forE tg ik ev es)) := PS.imp (ps_for o.ps (o.calm rfl).1 hi (pg_D o.toOkX (o.calm rfl).1 h1 h2) hb hf) fun D' σ H t => by
  obtain ⟨ρ, h, sl, r, s, p⟩ := t
  unfold forE at p
  refine ⟨ρ, h, sl, r, s, ?_⟩
  cases e : ev sl h with
  | stuck => rw [e] at p; exact p
  | ex x h' => rw [e] at p; exact fun ρ' H' c d r' e' q => p ρ' H' σ c d r' e' (s.mono e' r) q
  | ok v h1 =>
    rw [e] at p
    simp only [R.st] at p
    cases ei : itemsOf ik v h1 with
    | none => rw [ei] at p; exact p.elim
    | some items =>
      rw [ei] at p
      refine ⟨items, ei, fun ρ1 H1 J r1 e1 hJ => ?_⟩
      have p1 := PostS.mono (r := forD _ _ _ _ _ _) p e1 r1
      refine ⟨fun i m σ H => i ≤ items.length ∧ m = items.length - i ∧ ∃ ρ h sl, HR X.K ca ρ H h ∧ Ext ρ1 h1.length H1 ρ h.length H ∧ SlR X.K ρ h.length H sl σ ∧ PostS X.K ca W ρ h.length H (forD (fun h2 => decide (itemsOf ik v h2 = some items)) (fun x sl1 => setTg tg [x] sl1) es (items.drop i) sl h) D',
        ⟨items.length, Nat.zero_le _, rfl, ρ1, h1, sl, r1, Ext.refl, s.mono e1 r, p1⟩, fun i m σ H q => ?_⟩
      obtain ⟨hi, rfl, ρ, h, sl, r, e, s, p⟩ := q
      by_cases hl : i < items.length
      · refine .inr ?_
        rw [List.drop_eq_getElem_cons hl] at p
        unfold forD at p
        by_cases hst : decide (itemsOf ik v h = some items) = true
        · rw [if_pos hst] at p
          have hst' := of_decide_eq_true hst
          refine ⟨hJ.go ρ H h i r e.toW hst' hl, _, fun σ' H' (q : ∃ ρ h sl, HR X.K ca ρ H' h ∧ Ext ρ1 h1.length H1 ρ h.length H' ∧ SlR X.K ρ h.length H' sl σ' ∧ PostS X.K ca W ρ h.length H' (forD (fun h2 => decide (itemsOf ik v h2 = some items)) (fun x sl1 => setTg tg [x] sl1) es (items.drop (i + 1)) sl h) D') => ⟨items.length - (i + 1), by omega, hl, rfl, q⟩, fun x H' hy => ?_⟩
          obtain ⟨r2, e2, qx⟩ := hJ.yld ρ H h i items[i] x H' r e.toW hst' (List.getElem?_eq_getElem hl) hy
          have e02 := e.trans r rfl e2
          cases h3 : setTg tg [items[i]] sl with
          | none => rw [h3] at p; exact p.elim
          | some sl2 =>
            rw [h3] at p
            simp only at p
            have p3 := PostS.mono (r := match es sl2 h with
              | .ok (.nx sl2) h2 => forD (fun h2 => decide (itemsOf ik v h2 = some items)) (fun x sl1 => setTg tg [x] sl1) es (items.drop (i + 1)) sl2 h2
              | .ok (.ct sl2) h2 => forD (fun h2 => decide (itemsOf ik v h2 = some items)) (fun x sl1 => setTg tg [x] sl1) es (items.drop (i + 1)) sl2 h2
              | .ok (.bk sl2) h2 => .ok (.nx sl2) h2
              | r => r) p e2 r2
            refine tgR_of ⟨ρ, h, sl, sl2, items[i], r2, s.mono e2 r, qx, h3, fun σ' s' _ => ⟨ρ, h, sl2, r2, s', ?_⟩⟩
            cases e4 : es sl2 h with
            | stuck => rw [e4] at p3; exact p3
            | ex x sl' h' => rw [e4] at p3; exact p3
            | ok o' h' =>
              rw [e4] at p3
              cases o' with
              | nx sl3 => exact fun ρ' H' σ' r' e' s' => ⟨ρ', h', sl3, r', e02.trans r2 rfl e', s', PostS.mono p3 e' r'⟩
              | ct sl3 => exact fun ρ' H' σ' r' e' s' => ⟨ρ', h', sl3, r', e02.trans r2 rfl e', s', PostS.mono p3 e' r'⟩
              | bk sl3 => exact fun ρ' H' σ' r' e' s' => p3 ρ' H' σ' r' e' s'
              | rt d => exact p3
        · rw [if_neg hst] at p; exact p.elim
      · refine .inl ?_
        have hi' : i = items.length := by omega
        subst hi'
        rw [List.drop_length] at p
        unfold forD at p
        by_cases hst : decide (itemsOf ik v h = some items) = true
        · rw [if_pos hst] at p
          exact ⟨hJ.stop ρ H h _ r e.toW (of_decide_eq_true hst) (Nat.le_refl _), p ρ H σ r Ext.refl s⟩
        · rw [if_neg hst] at p; exact p.elim

theorem s_raise {x : Str} {c : Nat} {mm : Str} {j : Nat} {p1 p2 p3 : Pos} {args : E} (o : OkS W k X N sc true) (m : MX G Γ Φ ca k X) (hx : Γ.cls x = some c) (hg : isGl sc x = true) (hd : noDbg x = true) (ha : isMsg args = true) :
    PS X (.Raise (some (.Call (.Name x p1) [.Constant (.str mm) j p2] [] p3)) none pos) (tS X.K ca W fun sl h => (evE G Φ args sl h).st sl fun v h1 => match v with | .tup [.str _] => .ex ⟨c, []⟩ sl h1 | _ => .stuck) := by
  obtain ⟨m1, m2, m3, m4, m5⟩ := m.exc x c hx
  refine PS.imp (ps_raise (o.calm rfl).1 o.tk (pmk_own PySem.F.excBase_ValueError m3 m1 m2 (raises_own m4 m5) (o.gl x hg) (noDbg_1 hd))) fun D' σ H t => ?_
  obtain ⟨ρ, h, sl, r, s, p⟩ := t
  unfold isMsg at ha
  split at ha
  · exact p ρ H σ _ none r Ext.refl s ⟨rfl, .inl ⟨rfl, rfl⟩⟩
  · cases ha

theorem PostS.ofCalm {ρ : Rho} {n : Nat} {H : Hp} {r : SR} {D' : Ends} {W' : WX} {K : PySem.W.Frag} (p : PostS K ca W ρ n H r.calm D') : PostS K ca W' ρ n H r D' := by
  cases r with
  | ok o h' => cases o <;> exact p
  | ex x sl' h' => exact p.elim
  | stuck => exact p
theorem OkS.tr {W' : WX} {pn : List (Addr × Obj)} {xe : Value → Shared → Prop} (o : OkS W k X N sc cm) (t : Takes (X.tr pn xe) W') (q : PassesOwn (model X.prog X.w) X.A X.env xe) : OkS W' k (X.tr pn xe) N sc cm :=
  { hN := o.hN, nd := o.nd, vis := o.vis, loc := o.loc, gl := o.gl, blk := o.blk, calm := o.calm, units := o.units, tk := t, sce := o.sce, skd := o.skd, stk := o.stk, frm := o.frm, ps := q }
theorem OkS.suite {a : Addr} {pn : List (Addr × Obj)} (o : OkS W k X N sc cm) : OkS (fun _ _ _ _ => False) k (X.suite a pn) N sc false :=
  { hN := o.hN, nd := o.nd, vis := o.vis, loc := o.loc, gl := o.gl, blk := o.blk, calm := (fun z => by cases z), units := o.units,
    tk := fun u s' ⟨a, B, sI, pins, σ, H, cls, d, e, I, nb, up, sky, na, os, ag, w⟩ => w, sce := o.sce, skd := o.skd, stk := o.stk, frm := o.frm, ps := fun _ _ z => z.elim }
def tryE (G : Glob) (hc : Nat) (es es2 : Sl → Hs → SR) : Sl → Hs → SR := fun sl h => match es sl h with
    | .ex x sl1 h1 => match G.sub x.cls hc with
      | some true => (es2 sl1 h1).calm
      | some false => .ex x sl1 h1
      | none => .stuck
    | r => r
theorem s_try {x : Str} {hc : Nat} {s0 : Stmt} {suite : List Stmt} {np p' : Pos} (o : OkS W k X N sc true) (m : MX G Γ Φ ca k X) (hx : Γ.cls x = some hc) (hg : isGl sc x = true) (hd : noDbg x = true)
    (hb : ∀ (W : WX) (X : Cx), OkS W k X N sc true → MX G Γ Φ ca k X → PSs X body (tS X.K ca W es))
    (hs : ∀ (W : WX) (X : Cx), OkS W k X N sc false → MX G Γ Φ ca k X → PSs X (s0 :: suite) (tS X.K ca W es2)) :
    PS X (.Try body [.ExceptHandler (some (.Name x np)) none (s0 :: suite) p'] [] [] pos) (tS X.K ca W (tryE G hc es es2)) := by
  refine PS.imp (ps_try_only (tb := fun W => tS X.K ca W es) (ts := fun a cls d => tS X.K ca (fun _ _ _ _ => False) es2) (c := .ref (ca hc)) o.stk o.frm ⟨o.gl x hg, noDbg_1 hd, .inl (m.clsn x hc hx)⟩ o.tk (fun W' pn xe t q => hb W' _ (o.tr t q) m) (fun a oe cls d pn z1 z2 => hs _ _ o.suite m)) fun D' σ H t => ?_
  obtain ⟨ρ, h, sl, r, s, p⟩ := t
  unfold tryE at p
  refine ⟨ρ, h, sl, r, s, ?_⟩
  cases e : es sl h with
  | stuck => rw [e] at p; exact p
  | ok o' h' => rw [e] at p; cases o' <;> exact p
  | ex xx sl1 h1 =>
    rw [e] at p
    simp only at p
    intro ρ' H' σ' cls dd r' e' s' q
    cases es' : G.sub xx.cls hc with
    | none => rw [es'] at p; exact p.elim
    | some b =>
      rw [es'] at p
      refine ⟨b, by rw [q.1]; exact m.sub _ _ _ es', fun hb a ha => ?_, fun hb => ?_⟩
      · subst hb
        exact ⟨ρ', h1, sl1, r', s', PostS.ofCalm (PostS.mono (r := (es2 sl1 h1).calm) p e' r')⟩
      · subst hb
        exact p ρ' H' σ' cls dd r' e' s' q
theorem seqASt {K : PySem.W.Frag} {ρ : Rho} {H : Hp} {h : Hs} {sl : Sl} {σ : L2.St} {D' : Ends} {ev : Sl → Hs → R D} {f : D → Hs → SR} (hf : ∀ d h, (∀ xs, d ≠ .tup xs) → f d h = .stuck) (r : HR K ca ρ H h) (s : SlR K ρ h.length H sl σ) (p : PostS K ca W ρ h.length H ((ev sl h).st sl f) D') :
    tA K ca W ev σ H (fun vs H1 => ∃ ρ1 h1 ds, HR K ca ρ1 H1 h1 ∧ Ext ρ h.length H ρ1 h1.length H1 ∧ SlR K ρ1 h1.length H1 sl σ ∧ Rels K ρ1 h1.length H1 ds vs ∧ ev sl h = .ok (.tup ds) h1 ∧ PostS K ca W ρ1 h1.length H1 (f (.tup ds) h1) D') := by
  refine ⟨ρ, h, sl, r, s, ?_⟩
  cases e : ev sl h with
  | ok d h' =>
    rw [e] at p
    by_cases hd : ∃ xs, d = .tup xs
    · obtain ⟨ds, rfl⟩ := hd
      exact ⟨ds, rfl, fun ρ' H' vs r' e' q => ⟨ρ', h', ds, r', e', s.mono e' r, q, rfl, PostS.mono (r := f (.tup ds) h') p e' r'⟩⟩
    · have : PostS K ca W ρ h.length H (f d h') D' := p
      rw [hf d h' fun xs e => hd ⟨xs, e⟩] at this
      exact this.elim
  | ex x h' =>
    rw [e] at p
    exact fun ρ' H' c d r' e' q => p ρ' H' σ c d r' e' (s.mono e' r) q
  | stuck => rw [e] at p; exact p
/-- raise C(u, v), C's __init__ keeping both -/
theorem s_raise2 {x : Str} {c : Nat} {fa fb : Str} {args : E} {e : Expr} {es : List Expr} {p1 p3 : Pos} (o : OkS W k X N sc true) (m : MX G Γ Φ ca k X) (hx : Γ.clf x = some (c, fa, fb)) (hg : isGl sc x = true) (hd : noDbg x = true) (h1 : es.length = 1) (hst : (e :: es).all starOk = true)
    (ha : PA X (e :: es) (tA X.K ca W (evE G Φ args))) (hlen : ∀ sl h ds h', evE G Φ args sl h = .ok (.tup ds) h' → ds.length = (e :: es).length) :
    PS X (.Raise (some (.Call (.Name x p1) (e :: es) [] p3)) none pos) (tS X.K ca W fun sl h => (evE G Φ args sl h).st sl fun v h1 => raiseV c fa fb v sl h1) := by
  obtain ⟨m1, TC, TX, f1, f2, fI, fd, ps, iC, tI, hbi, FI⟩ := m.clf x c fa fb hx
  have hst2 := hst
  rw [List.all_cons, Bool.and_eq_true] at hst2
  refine PS.imp (ps_raise (o.calm rfl).1 o.tk (pmk_oex TC iC tI FI ((o.calm rfl).2.mono (by omega)) hbi .nil (fun pins s σ H er s' I z => (by
    obtain ⟨_, _, _, _, _, _, _, _, _, _, _, _, z⟩ := z
    exact z.elim)) (o.gl x hg) m1 ha (noDbg_1 hd) (starEach_cons hst2.1) (star_any hst2.2))) fun D' σ H t => ?_
  obtain ⟨ρ, h, sl, r, s, p⟩ := t
  refine tA.imp (seqASt (f := fun v h1 => raiseV c fa fb v sl h1) (fun d h hd => by unfold raiseV; split; exact absurd rfl (hd _); rfl) r s p) fun vs H1 q => ?_
  obtain ⟨ρ1, h1', ds, r1, x1, s1, rs, e1, p1⟩ := q
  have hl := hlen _ _ _ _ e1
  rw [List.length_cons, h1] at hl
  refine ⟨by rw [rs.length, hl]; decide, fun a hna => ?_⟩
  obtain ⟨d1, d2, rfl⟩ : ∃ d1 d2, ds = [d1, d2] := by
    match ds, hl with
    | [d1, d2], _ => exact ⟨d1, d2, rfl⟩
  obtain ⟨u, v, rfl, q1, q2⟩ : ∃ u v, vs = [u, v] ∧ Rel X.K ρ1 h1'.length H1 d1 u ∧ Rel X.K ρ1 h1'.length H1 d2 v := by
    cases rs with
    | cons q1 rs => cases rs with
      | cons q2 rs => cases rs; exact ⟨_, _, rfl, q1, q2⟩
  refine ⟨a, ca c, u, v, rfl, TC, f1, f2, upd_same, fun d hd1 hda => ⟨rfl, d, [(fb, v), (fa, u)], ?_, upd_same, ?_, ?_⟩⟩
  · rw [upd_ne hda.symm, upd_same]
  · rw [upd_ne hda] at hd1; exact hd1
  · have hn : H1 d = none := by rw [upd_ne hda] at hd1; exact hd1
    have eH : upd (del (upd (upd (upd (upd H1 a (exo a (ca c) none)) d (exd d [(fa, u)])) a (exo a (ca c) (some d))) d (exd d [(fb, v), (fa, u)])) a) d (.xd [(fb, v), (fa, u)]) = upd H1 d (.xd [(fb, v), (fa, u)]) := by
      funext b
      by_cases hb : b = d
      · rw [hb, upd_same, upd_same]
      · rw [upd_ne hb, upd_ne hb]
        by_cases hb2 : b = a
        · rw [hb2, del_same]; exact hna.symm
        · rw [del_ne hb2, upd_ne hb, upd_ne hb2, upd_ne hb, upd_ne hb2]
    rw [eH]
    obtain ⟨r2, e2⟩ := r1.new hn (.xd [(fb, v), (fa, u)])
    refine p1 ρ1 _ σ (.ref (ca c)) (some d) r2 e2 (s1.mono e2 r1) ⟨rfl, .inr ⟨d, _, rfl, upd_same, r1.newNe hn, .cons (q2.mono e2 r1) (.cons (q1.mono e2 r1) .nil)⟩⟩
def tryRE (G : Glob) (hc i c : Nat) (fa fb : Str) (es : Sl → Hs → SR) : Sl → Hs → SR := fun sl h => match es sl h with
    | .ex x sl1 h1 => tryV (G.sub x.cls hc) x i c fa fb sl1 h1
    | r => r
theorem Rkv.look {K : PySem.W.Frag} {ρ : Rho} {n : Nat} {H : Hp} {f : Str} {d : D} : ∀ {fs : List (Str × D)} {fs' : List (Str × V)}, Rkv K ρ n H fs fs' → fs.lookup f = some d → ∃ v, fs'.lookup f = some v ∧ Rel K ρ n H d v
  | [], _, .nil, h => by cases h
  | (g, e) :: r, _, .cons (v := v) (vs := vs) q rs, h => by
    rw [List.lookup_cons] at h ⊢
    split at h
    · cases h
      exact ⟨v, rfl, q⟩
    · exact Rkv.look rs h
/-- try .. except X as n: return [n.fa, n.fb] if isinstance(n, C) else 'text' -/
theorem s_tryR {x n : Str} {hc i c : Nat} {fa fb : Str} {suite : List Stmt} {np p' : Pos} (o : OkS W k X N sc true) (m : MX G Γ Φ ca k X) (hx : Γ.cls x = some hc) (hg : isGl sc x = true) (hd : noDbg x = true) (hi : N[i]? = some n) (hln : sc.names.lookup n = some .local) (hdn : noDbg n = true)
    (hb : ∀ (W : WX) (X : Cx), OkS W k X N sc true → MX G Γ Φ ca k X → PSs X body (tS X.K ca W es)) (hs : suiteC Γ sc n c fa fb suite = true) :
    PS X (.Try body [.ExceptHandler (some (.Name x np)) (some n) suite p'] [] [] pos) (tS X.K ca W (tryRE G hc i c fa fb es)) := by
  unfold suiteC at hs
  split at hs
  · rename_i f pf n1 pn1 y py pc n2 pn2 f1 pf1 n3 pn3 f2 pf2 pl els je pe pi pr
    simp only [Bool.and_eq_true, decide_eq_true_iff] at hs
    obtain ⟨⟨⟨⟨⟨⟨⟨⟨⟨⟨rfl, rfl⟩, rfl⟩, rfl⟩, rfl⟩, rfl⟩, hy⟩, g1⟩, b1⟩, g2⟩, d2⟩ := hs
    obtain ⟨m1, TC, TX, no1, no2, _⟩ := m.clf y c _ _ hy
    have hsu : ∀ (a : Addr) (oe : Obj) (cls : Value) (d : Option Addr) (pn : List (Addr × Obj)), Zc cls d oe → (∃ vs, oe.data = .fields vs) → PSs (X.suite a ((a, oe) :: pn)) [.Return (some (.IfExp (.Call (.Name "isinstance" pf) [.Name n3 pn1, .Name y py] [] pc) (.List [.Attribute (.Name n3 pn2) f1 pf1, .Attribute (.Name n3 pn3) f2 pf2] pl) (.Constant (.str els) je pe) pi)) pr]
        (tRet (tIf (fun σ H Q => tCB (fun xs H Q => cls = .ref (ca c) ∧ xs = [.ref a, .ref (ca c)] ∧ Q (.bl true) H) (tCons (tVar i) (tCons (tC (.ref (ca c))) tNil)) σ H fun x H' => ∃ k, TruV X.K x H' k ∧ Q k H')
          (tLst (tCons (tXf a cls d (ca c) f1 (tVar i)) (tCons (tXf a cls d (ca c) f2 (tVar i)) tNil))) (tC (.str els)))) := fun a oe cls d pn hz hf => by
      have os : OkS (fun _ _ _ _ => False) k (X.suite a ((a, oe) :: pn)) N sc false := o.suite
      have vn : ∀ p, PE (X.suite a ((a, oe) :: pn)) (.Name n3 p) (tVar i) := fun p => pe_var (by rw [os.hN]; exact hi) (.inl (by rw [os.sce]; exact hln)) (noDbg_1 hdn) (noDbg_2 hdn)
      have vy : PE (X.suite a ((a, oe) :: pn)) (.Name y py) (tC (.ref (ca c))) := pe_glob (os.gl y g2) m1 rfl (noDbg_1 d2)
      refine pss_one (ps_ret (pe_ifExp (pt_truth (pe_callB (x := "isinstance") (call_isX hz) (os.gl _ g1) (m.blt _ b1) (by decide +kernel) (pa_cons (vn _) (pa_cons vy pa_nil)) (by decide +kernel) (by decide +kernel)) (fun whole => rfl)) (pe_lst (pa_cons (pe_xf TX no1 hz hf (vn _)) (pa_cons (pe_xf TX no2 hz hf (vn _)) pa_nil))) pe_str))
    refine PS.imp (ps_try_as (i := i) (c := .ref (ca hc)) (tb := fun W => tS X.K ca W es) o.stk o.frm (o.hN ▸ o.nd) (by rw [o.hN]; exact hi) (by show X.env.scope.names.lookup _ = _; rw [o.sce]; exact hln) ⟨o.gl x hg, noDbg_1 hd, .inl (m.clsn x hc hx)⟩ o.tk (fun W' pn xe t q => hb W' _ (o.tr t q) m) hsu) fun D' σ H t => ?_
    obtain ⟨ρ, h, sl, r, s, p⟩ := t
    unfold tryRE at p
    refine ⟨ρ, h, sl, r, s, ?_⟩
    cases e : es sl h with
    | stuck => rw [e] at p; exact p
    | ok o' h' => rw [e] at p; cases o' <;> exact p
    | ex xx sl1 h1 =>
      rw [e] at p
      simp only at p
      intro ρ' H' σ' cls dd r' e' s' q
      cases es' : G.sub xx.cls hc with
      | none => rw [es'] at p; exact p.elim
      | some b =>
        rw [es'] at p
        refine ⟨b, by rw [q.1]; exact m.sub _ _ _ es', fun hb a ha => ?_, fun hb => ?_⟩
        · subst hb
          unfold tryV at p
          simp only at p
          split at p
          · rename_i ec
            obtain ⟨ec, hil⟩ := ec
            subst ec
            split at p
            · rename_i u v eu ev
              rcases q.2 with ⟨z, _⟩ | ⟨ad, fs', rfl, hfs, hne, rk⟩
              · rw [z] at eu; cases eu
              · obtain ⟨u', lu, qu⟩ := rk.look eu
                obtain ⟨v', lv, qv⟩ := rk.look ev
                have hσ : (σ'.set i (some (.ref a)))[i]? = some (some (.ref a)) := by
                  have hl : i < σ'.length := by rw [← s'.1]; exact hil
                  exact List.getElem?_set_self hl
                have fin := Post.newLst (c := false) (xs := [u, v]) (vs := [u', v']) (Q := D'.rt) (E := fun _ _ _ => True) (PostS.mono p e' r') r' (.cons qu (.cons qv .nil))
                refine ⟨.ref a, hσ, q.1, rfl, true, rfl, ?_⟩
                show (if true = true then _ else _)
                rw [if_pos rfl]
                refine ⟨.ref a, hσ, rfl, q.1, ad, fs', u', rfl, hfs, lu, .ref a, hσ, rfl, q.1, ad, fs', v', rfl, hfs, lv, (show 2 ≤ sizeLine by decide), fun p hp => fin p hp⟩
            · exact p.elim
          · exact p.elim
        · subst hb
          exact p ρ' H' σ' cls dd r' e' s' q
  · cases hs
end
end DI

/-! DI, part R: what passes the check keeps to its reading: all statements. -/
namespace DI
open PySem PySem.Spec PyProof.Rows L2

structure SndS (G : Glob) (Γ : Gn) (Φ : Nat → List D → Hs → R D) (ca : Nat → Addr) (N : List Str) (c : S) : Prop where
  ps : ∀ (W : WX) (k : Nat) (X : Cx) (sc : Scope) (cm : Bool) (x : Stmt), OkS W k X N sc cm → MX G Γ Φ ca k X → chkS Γ N c sc cm x = true → PS X x (tS X.K ca W (evS G Φ c))
  pb : ∀ (W : WX) (k : Nat) (X : Cx) (sc : Scope) (cm : Bool) (x : List Stmt), OkS W k X N sc cm → MX G Γ Φ ca k X → chkB Γ N c sc cm x = true → PSs X x (tS X.K ca W (evS G Φ c))

section
variable {G : Glob} {Γ : Gn} {Φ : Nat → List D → Hs → R D} {ca : Nat → Addr} {N : List Str}
theorem SndS.of {c : S} (hE : ∀ (W : WX) (k : Nat) (X : Cx) (sc : Scope) (cm : Bool) (x : Stmt), OkS W k X N sc cm → MX G Γ Φ ca k X → chkS Γ N c sc cm x = true → PS X x (tS X.K ca W (evS G Φ c)))
    (hA : ∀ sc cm x, chkB Γ N c sc cm x = false) : SndS G Γ Φ ca N c := ⟨hE, fun W k X sc cm x o m h => by rw [hA] at h; cases h⟩

theorem snds_nop : SndS G Γ Φ ca N .nop where
  ps := fun W k X sc cm x o m h => by
    simp only [chkS] at h
    split at h
    · exact s_pass
    · cases h
  pb := fun W k X sc cm x o m h => by
    simp only [chkB] at h
    split at h
    · exact s_nil
    · cases h
theorem snds_seq {a b : S} (ha : SndS G Γ Φ ca N a) (hb : SndS G Γ Φ ca N b) : SndS G Γ Φ ca N (.seq a b) where
  ps := fun W k X sc cm x o m h => by simp only [chkS] at h; cases h
  pb := fun W k X sc cm x o m h => by
    simp only [chkB] at h
    split at h
    · rw [Bool.and_eq_true] at h
      exact s_cons (ha.ps W k X sc cm _ o m h.1) (hb.pb W k X sc cm _ o m h.2)
    · cases h

theorem loc_lk {X : Cx} {W : WX} {k : Nat} {sc : Scope} {cm : Bool} (o : OkS W k X N sc cm) {x : Str} (h : (sc.names.lookup x == some .local) = true) : X.env.scope.names.lookup x = some .local := by
  rw [o.sce]; exact eq_of_beq h

theorem sole_no {y : Str} {py : Pos} {elt : Expr} {gs : List Comprehension} {scope : Scope} {p : Pos} {l : Nat} {env : Env} (h : env.kindOf y ≠ some .local ∨ (py.line == p.line) = false) : swapsWithSole [.Name y py] (.ListComp elt gs scope p) l env = pure false := by
  show swapsWith (.ListComp elt gs scope p) (some (.Name y py)) l env = pure false
  unfold swapsWith
  rcases h with h | h
  · have : (env.kindOf y == some .local) = false := by simpa using h
    simp only [this, Bool.and_false, Bool.false_and]
  · have : (py.line == (Expr.ListComp elt gs scope p).pos.line) = false := h
    simp only [this, Bool.and_false, Bool.false_and]

theorem swapped_name {y : Str} {py : Pos} {e : Expr} {env : Env} : swappedStores [.Name y py] e env = pure none := by
  cases e <;> rfl

theorem swapP_two {sc : Scope} {x y : Str} {px py : Pos} {vs : List Expr} {nm : List Str} (h : swapP sc [.Name x px, .Name y py] vs = some (some nm)) : nm = [x, y] ∧ vs.length = 2 := by
  unfold swapP at h
  dsimp only at h
  split at h
  · cases h
  · rename_i h1
    split at h
    · cases h
    · split at h
      · cases h
      · rename_i h3
        split at h
        · cases h
        · split at h
          · cases h
          · cases h
            simp only [List.filterMap_cons, List.filterMap_nil] at h3 ⊢
            refine ⟨?_, by simpa using h1⟩
            split at h3 <;> split at h3 <;> first | (exfalso; apply h3; simp; done) | skip
            all_goals (simp only [Option.ite_none_right_eq_some, Option.some.injEq] at *; simp_all)
theorem swapP_three {sc : Scope} {x y z : Str} {px py pz : Pos} {vs : List Expr} {nm : List Str} (h : swapP sc [.Name x px, .Name y py, .Name z pz] vs = some (some nm)) : nm = [x, y, z] ∧ vs.length = 3 := by
  unfold swapP at h
  dsimp only at h
  split at h
  · cases h
  · rename_i h1
    split at h
    · cases h
    · split at h
      · cases h
      · rename_i h3
        split at h
        · cases h
        · split at h
          · cases h
          · cases h
            simp only [List.filterMap_cons, List.filterMap_nil] at h3 ⊢
            refine ⟨?_, by simpa using h1⟩
            split at h3 <;> split at h3 <;> split at h3 <;> first | (exfalso; apply h3; simp; done) | skip
            all_goals (simp only [Option.ite_none_right_eq_some, Option.some.injEq] at *; simp_all)
theorem snds_asg (tg : Tg) (e : E) : SndS G Γ Φ ca N (.asg tg e) := SndS.of (fun W k X sc cm x o m h => by
    simp only [chkS] at h
    split at h
    · rename_i t v pos
      simp only [Bool.and_eq_true] at h
      obtain ⟨⟨⟨hcm, h1⟩, h2⟩, h3⟩ := h
      subst hcm
      have pe := fun q => (snd G Γ Φ ca N e).pe W k X sc true v o.toOkX m q
      split at h3
      · rename_i ts kk p1 vs k2 p2
        split at h3
        · rename_i hs
          exact s_asg o h2 h1 rfl (swapP_ok o.sce o.bk hs) (pe h3)
        · rename_i nm hs
          rw [Bool.and_eq_true] at h3
          have hw := swapP_ok (k := kk) (p := p1) (k2 := k2) (p2 := p2) o.sce o.bk hs
          have hc := h3.1
          cases e <;> first | (simp only [chkE] at hc; cases hc; done) | skip
          rename_i c
          simp only [chkE] at hc
          have pa := (snd G Γ Φ ca N c).pa W k X sc true vs o.toOkX m hc
          have h4 := h3.2
          unfold parC at h4
          split at h4
          · rename_i i j x y px py
            simp only [Bool.and_eq_true] at h4
            obtain ⟨⟨a1, a2⟩, a3⟩ := h4
            obtain ⟨rfl, hl⟩ := swapP_two hs
            match vs, hl with
            | [va, vb], _ =>
              simp only [chkTg, Bool.and_eq_true] at h2
              exact s_par2 o.toOkX (eq_of_beq h2.1.1.1.1) (eq_of_beq h2.1.1.2.1.1.1.1) (of_decide_eq_true a1) (loc_lk o a2) (loc_lk o a3) pa hw
          · rename_i i j l x px y py z pz
            simp only [Bool.and_eq_true] at h4
            obtain ⟨⟨⟨⟨⟨a1, a2⟩, a3⟩, a4⟩, a5⟩, a6⟩ := h4
            obtain ⟨rfl, hl⟩ := swapP_three hs
            match vs, hl with
            | [va, vb, vc], _ =>
              simp only [chkTg, Bool.and_eq_true] at h2
              exact s_par3 o.toOkX (eq_of_beq h2.1.1.1.1) (eq_of_beq h2.1.1.2.1.1.1.1) (eq_of_beq h2.1.1.2.1.1.2.1.1.1.1) (of_decide_eq_true a1) (of_decide_eq_true a2) (of_decide_eq_true a3) (loc_lk o a4) (loc_lk o a5) (loc_lk o a6) pa hw
          · cases h4
        · cases h3
      · rename_i y py v' hnt
        split at h3
        · rename_i hlc
          split at h3
          · rename_i el tgE it ifs a scope p c own tg2 ik src cond elt
            rw [Bool.and_eq_true] at h3
            obtain ⟨hE, hS⟩ := h3
            cases tg with
            | nm i =>
              rw [Bool.or_eq_true, Bool.or_eq_true] at hS
              rcases hS with (hS | hS) | hS
              · have hE' := hE
                simp only [chkE, Bool.and_eq_true] at hE'
                obtain ⟨⟨⟨⟨⟨⟨⟨⟨⟨q1, q2⟩, q3⟩, q4⟩, q5⟩, q6⟩, q10⟩, q7⟩, q8⟩, q9⟩ := hE'
                have ea : a = 0 := eq_of_beq q2
                subst ea
                obtain ⟨p1, p2, p3, p4, ⟨tt, p5, p6⟩, p7⟩ := lc_parts (snd G Γ Φ ca N src) (snd G Γ Φ ca N cond) (snd G Γ Φ ca N elt) o.toOkX m rfl q3 (of_decide_eq_true q4) q5 q6 q10 q7 q8 q9
                simp only [lcSwap, Bool.and_eq_true, Bool.not_eq_true'] at hS
                simp only [chkTg, Bool.and_eq_true] at h2
                have hlk := loc_lk o hS.1.1
                refine PS.imp (ps_setLc (i := i) (o.calm rfl).1 (o.hN ▸ o.nd) (o.hN ▸ eq_of_beq h2.1) hlk (sw_true (by rw [o.sce]; exact o.skd) hlk hS.1.2 hS.2) p1 p3 p4 p6 p7 p2) fun D' σ H t => ?_
                rw [of_decide_eq_true q4]
                refine d_lcCore (fl := c) (fun x σ H Q h => tgR_of h) p5 q5 ?_
                refine tD.imp (asg_red (tg := .nm i) (ev := evE G Φ (.lc c own tg2 ik src cond elt)) t) fun v H1 q => ?_
                obtain ⟨ρ, h, sl, sl1, ds, hr, hs, rs, e, q⟩ := q
                simp only [setTg] at e
                split at e
                · cases e
                  obtain ⟨v', ev, qd⟩ := rs.one
                  cases ev
                  exact q _ (hs.set qd i) fun own ho => wipe_set (of_decide_eq_true ho)
                · cases e
              · refine s_asg o h2 h1 (sole_no (.inl fun z => ?_)) swapped_name (pe hE)
                have z' : X.env.scope.names.lookup _ = some .local := z
                rw [o.sce] at z'
                rw [z'] at hS
                cases hS
              · exact s_asg o h2 h1 (sole_no (.inr (by simpa using hS))) swapped_name (pe hE)
            | tup a => simp [chkTg] at h2
            | _ => cases h1
          · rename_i el tgE it ifs a tgE2 it2 ifs2 a2 scope p c own own2 tg2 ik src cond tg3 ik3 src3 cond3 elt
            rw [Bool.and_eq_true] at h3
            obtain ⟨hE, hS⟩ := h3
            cases tg with
            | nm i =>
              rw [Bool.or_eq_true, Bool.or_eq_true] at hS
              rcases hS with (hS | hS) | hS
              · have hE' := hE
                simp only [chkE, Bool.and_eq_true] at hE'
                obtain ⟨⟨⟨⟨⟨⟨⟨⟨⟨⟨⟨⟨⟨⟨⟨⟨q1, q2⟩, q22⟩, q3⟩, q4⟩, qo2⟩, q5⟩, q52⟩, q6⟩, q10⟩, q62⟩, q102⟩, q7⟩, q8⟩, q72⟩, q82⟩, q9⟩ := hE'
                have ea : a = 0 := eq_of_beq q2
                have ea2 : a2 = 0 := eq_of_beq q22
                subst ea ea2
                obtain ⟨p1, p2, p3, p4, ⟨tt, p5, p6⟩, p7, p8, ⟨tt2, p9, p10⟩, p11⟩ := lc2_parts (snd G Γ Φ ca N src) (snd G Γ Φ ca N cond) (snd G Γ Φ ca N src3) (snd G Γ Φ ca N cond3) (snd G Γ Φ ca N elt) o.toOkX m q3 q6 q10 q62 q102 q7 q8 q72 q82 q9
                simp only [lcSwap, Bool.and_eq_true, Bool.not_eq_true'] at hS
                simp only [chkTg, Bool.and_eq_true] at h2
                have hlk := loc_lk o hS.1.1
                refine PS.imp (ps_setLc2 (vs1 := own2) (i := i) (o.calm rfl).1 (o.hN ▸ o.nd) (o.hN ▸ eq_of_beq h2.1) hlk (sw_true (by rw [o.sce]; exact o.skd) hlk hS.1.2 hS.2) p1 p3 (by rw [of_decide_eq_true q4]; exact own2_of qo2) p4 p6 p7 p8 p10 p11 p2 (chkIt_fold q72)) fun D' σ H t => ?_
                rw [of_decide_eq_true q4]
                refine d_lc2Core (fl := c) (fun x σ H Q h => tgR_of h) p5 q5 (fun x σ H Q h => tgR_of h) p9 q52 ?_
                refine tD.imp (asg_red (tg := .nm i) (ev := evE G Φ (.lc2 c own own2 tg2 ik src cond tg3 ik3 src3 cond3 elt)) t) fun v H1 q => ?_
                obtain ⟨ρ, h, sl, sl1, ds, hr, hs, rs, e, q⟩ := q
                simp only [setTg] at e
                split at e
                · cases e
                  obtain ⟨v', ev, qd⟩ := rs.one
                  cases ev
                  exact q _ (hs.set qd i) fun own ho => wipe_set (of_decide_eq_true ho)
                · cases e
              · refine s_asg o h2 h1 (sole_no (.inl fun z => ?_)) swapped_name (pe hE)
                have z' : X.env.scope.names.lookup _ = some .local := z
                rw [o.sce] at z'
                rw [z'] at hS
                cases hS
              · exact s_asg o h2 h1 (sole_no (.inr (by simpa using hS))) swapped_name (pe hE)
            | tup a => simp [chkTg] at h2
            | _ => cases h1
          · cases h3
        · rename_i hlc
          exact s_asg o h2 h1 (show swapsWith _ (some (.Name _ _)) pos.line X.env = pure false from swaps_no (by simpa using hlc)) swapped_name (pe h3)
      · rename_i hn1 hn2
        rw [Bool.and_eq_true, Bool.not_eq_true'] at h3
        refine s_asg o h2 h1 (swaps_no h3.1 : swapsWith _ (some _) pos.line X.env = pure false) ?_ (pe h3.2)
        cases tg with
        | nm i =>
          simp only [chkTg] at h2
          split at h2
          · rename_i z
            cases z
            exact (hn1 _ _ rfl).elim
          · cases h2
        | tup a =>
          simp only [chkTg] at h2
          split at h2
          · rename_i z
            cases z
            cases v with
            | Tuple vs k2 p2 => exact (hn2 _ _ _ _ _ _ rfl rfl).elim
            | _ => rfl
          · cases h2
        | _ => cases h1
    · cases h) (fun _ _ _ => rfl)

theorem snds_aug (i : Nat) (op : Operator) (e : E) : SndS G Γ Φ ca N (.aug i op e) := SndS.of (fun W k X sc cm x o m h => by
    simp only [chkS] at h
    split at h
    · simp only [Bool.and_eq_true] at h
      obtain ⟨⟨⟨⟨h1, h2⟩, h3⟩, h4⟩, h5⟩ := h
      have := of_decide_eq_true h1
      subst this
      exact s_aug o.toOkX (eq_of_beq h3) h4 h2 ((snd G Γ Φ ca N e).pe W k X sc cm _ o.toOkX m h5)
    · cases h) (fun _ _ _ => rfl)
theorem snds_setIx (a i e : E) : SndS G Γ Φ ca N (.setIx a i e) := SndS.of (fun W k X sc cm x o m h => by
    simp only [chkS] at h
    split at h
    · simp only [Bool.and_eq_true, Bool.not_eq_true'] at h
      obtain ⟨⟨⟨⟨h1, h2⟩, h3⟩, h4⟩, h5⟩ := h
      exact s_setIx o.toOkX h5 h4 ((snd G Γ Φ ca N e).pe W k X sc cm _ o.toOkX m h3) ((snd G Γ Φ ca N a).pe W k X sc cm _ o.toOkX m h1) ((snd G Γ Φ ca N i).pe W k X sc cm _ o.toOkX m h2)
    · cases h) (fun _ _ _ => rfl)
theorem snds_expr (e : E) : SndS G Γ Φ ca N (.expr e) := SndS.of (fun W k X sc cm x o m h => by
    simp only [chkS] at h
    split at h
    · rw [Bool.and_eq_true, Bool.not_eq_true'] at h
      exact s_expr h.2 ((snd G Γ Φ ca N e).pe W k X sc cm _ o.toOkX m h.1)
    · cases h) (fun _ _ _ => rfl)
theorem snds_ret (e : E) : SndS G Γ Φ ca N (.ret e) := SndS.of (fun W k X sc cm x o m h => by
    simp only [chkS] at h
    split at h
    · exact s_ret ((snd G Γ Φ ca N e).pe W k X sc cm _ o.toOkX m h)
    · cases h) (fun _ _ _ => rfl)
theorem snds_retN : SndS G Γ Φ ca N .retN := SndS.of (fun W k X sc cm x o m h => by
    simp only [chkS] at h
    split at h
    · exact s_retN
    · cases h) (fun _ _ _ => rfl)
theorem snds_brk : SndS G Γ Φ ca N .brk := SndS.of (fun W k X sc cm x o m h => by
    simp only [chkS] at h
    split at h
    · exact s_brk
    · cases h) (fun _ _ _ => rfl)
theorem snds_cont : SndS G Γ Φ ca N .cont := SndS.of (fun W k X sc cm x o m h => by
    simp only [chkS] at h
    split at h
    · exact s_cont
    · cases h) (fun _ _ _ => rfl)
theorem snds_ite {a b : S} (t : E) (ha : SndS G Γ Φ ca N a) (hb : SndS G Γ Φ ca N b) : SndS G Γ Φ ca N (.ite t a b) := SndS.of (fun W k X sc cm x o m h => by
    simp only [chkS] at h
    split at h
    · rw [Bool.and_eq_true, Bool.and_eq_true] at h
      exact s_if ((snd G Γ Φ ca N t).test o.toOkX m h.1.1) (ha.pb W k X sc cm _ o m h.1.2) (hb.pb W k X sc cm _ o m h.2)
    · cases h) (fun _ _ _ => rfl)
theorem evS_while {t : E} {b : S} : evS G Φ (.while t b) = whileD (evE G Φ t) (evS G Φ b) wf := by
  funext sl h
  simp only [evS]
theorem snds_while {b : S} (t : E) (hb : SndS G Γ Φ ca N b) : SndS G Γ Φ ca N (.while t b) := SndS.of (fun W k X sc cm x o m h => by
    simp only [chkS] at h
    split at h
    · rw [Bool.and_eq_true] at h
      rw [evS_while]
      exact s_while o ((snd G Γ Φ ca N t).test o.toOkX m h.1) (hb.pb W k X sc cm _ o m h.2)
    · cases h) (fun _ _ _ => rfl)
theorem snds_for {b : S} (tg : Tg) (ik : ItK) (src : E) (hb : SndS G Γ Φ ca N b) : SndS G Γ Φ ca N (.for tg ik src b) := SndS.of (fun W k X sc cm x o m h => by
    simp only [chkS] at h
    split at h
    · simp only [Bool.and_eq_true] at h
      obtain ⟨⟨⟨⟨h1, h2⟩, h3⟩, h4⟩, h5⟩ := h
      subst h1
      obtain ⟨hi, hf⟩ := chkIt_pi (snd G Γ Φ ca N src) o.toOkX m h4
      exact s_for o h3 h2 hi hf (hb.pb W k X sc true _ o m h5)
    · cases h) (fun _ _ _ => rfl)
theorem snds_raise (c : Nat) (args : E) : SndS G Γ Φ ca N (.raise c args) := SndS.of (fun W k X sc cm x o m h => by
    simp only [chkS] at h
    split at h
    · simp only [Bool.and_eq_true] at h
      obtain ⟨⟨⟨⟨h1, h2⟩, h3⟩, h4⟩, h5⟩ := h
      subst h1
      exact s_raise o m (eq_of_beq h2) h3 h4 h5
    · cases h) (fun _ _ _ => rfl)
theorem snds_try {a b : S} (hc : Nat) (ha : SndS G Γ Φ ca N a) (hb : SndS G Γ Φ ca N b) : SndS G Γ Φ ca N (.try a hc b) := SndS.of (fun W k X sc cm x o m h => by
    simp only [chkS] at h
    split at h
    · simp only [Bool.and_eq_true] at h
      obtain ⟨⟨⟨⟨⟨h1, h2⟩, h3⟩, h4⟩, h5⟩, h6⟩ := h
      subst h1
      exact s_try o m (eq_of_beq h2) h3 h4 (fun W' X' o' m' => ha.pb W' k X' sc true _ o' m' h5) (fun W' X' o' m' => hb.pb W' k X' sc false _ o' m' h6)
    · cases h) (fun _ _ _ => rfl)
theorem snds_raise2 (c : Nat) (fa fb : Str) (args : E) : SndS G Γ Φ ca N (.raise2 c fa fb args) := SndS.of (fun W k X sc cm x o m h => by
    simp only [chkS] at h
    split at h
    · simp only [Bool.and_eq_true] at h
      obtain ⟨⟨⟨⟨⟨h1, h2⟩, h3⟩, h4⟩, h5⟩, h6⟩ := h
      subst h1
      have sa := snd G Γ Φ ca N args
      exact s_raise2 o m (of_decide_eq_true h2) h3 h4 (of_decide_eq_true h5) (sa.star _ _ _ h6) (sa.pa W k X sc true _ o.toOkX m h6) (fun sl h ds h' e => sa.len _ _ _ _ _ _ _ h6 e)
    · cases h) (fun _ _ _ => rfl)
theorem snds_tryR {a : S} (hc i c : Nat) (fa fb : Str) (ha : SndS G Γ Φ ca N a) : SndS G Γ Φ ca N (.tryR a hc i c fa fb) := SndS.of (fun W k X sc cm x o m h => by
    simp only [chkS] at h
    split at h
    · simp only [Bool.and_eq_true] at h
      obtain ⟨⟨⟨⟨⟨⟨⟨⟨h1, h2⟩, h3⟩, h4⟩, h5⟩, h6⟩, h7⟩, h8⟩, h9⟩ := h
      subst h1
      exact s_tryR o m (eq_of_beq h2) h3 h4 (of_decide_eq_true h5) (of_decide_eq_true h6) h7 (fun W' X' o' m' => ha.pb W' k X' sc true _ o' m' h8) h9
    · cases h) (fun _ _ _ => rfl)
end
/-- every statement -/
theorem sndS (G : Glob) (Γ : Gn) (Φ : Nat → List D → Hs → R D) (ca : Nat → Addr) (N : List Str) (c : S) : SndS G Γ Φ ca N c := by
  induction c with
  | nop => exact snds_nop
  | seq a b ha hb => exact snds_seq ha hb
  | asg tg e => exact snds_asg tg e
  | aug i op e => exact snds_aug i op e
  | setIx o i e => exact snds_setIx o i e
  | expr e => exact snds_expr e
  | ret e => exact snds_ret e
  | retN => exact snds_retN
  | ite t a b ha hb => exact snds_ite t ha hb
  | «while» t b hb => exact snds_while t hb
  | «for» tg k src b hb => exact snds_for tg k src hb
  | brk => exact snds_brk
  | cont => exact snds_cont
  | raise c args => exact snds_raise c args
  | «try» b hc su hb hs => exact snds_try hc hb hs
  | raise2 c fa fb args => exact snds_raise2 c fa fb args
  | tryR b hc i c fa fb hb => exact snds_tryR hc i c fa fb hb
end DI

/-! DI, part S: defs. -/
namespace DI
open PySem PySem.Spec PyProof.Rows L2

def Fn.ps (fn : Fn) : List Str := fn.names.take fn.arity

/-- a def of the program and its IR -/
structure FnS (K : PySem.W.Frag) (mg : Str → Option Value) (Γ : Gn) (T : Nat → Option Fn) (x : Str) (f : Nat) : Prop where
  ex : ∃ (a : Addr) (fd : FuncData) (fn : Fn) (y qual : Str) (st : Stmt), mg x = some (.ref a) ∧ T f = some fn ∧ Fun K y qual st a fd ∧ (∀ us : List Value, us.length = fn.ps.length → bindArgs fd ⟨us, []⟩ = pure (fn.ps.zip us)) ∧ FnScope fn.names fn.ps (defScope st) ∧ fn.arity ≤ fn.names.length ∧ fn.arity = Γ.ar f ∧
    chkB Γ fn.names fn.body (defScope st) true (defBody st) = true

/-- what the module has, without the calls -/
structure ModS (G : Glob) (Γ : Gn) (T : Nat → Option Fn) (ca : Nat → Addr) (K : PySem.W.Frag) (mg : Str → Option Value) : Prop where
  const : ∀ x d, G.const x = some d → ∃ v u, mg x = some u ∧ RelV v u ∧ ∀ ρ n H, Rel K ρ n H d v
  blt : ∀ x, Γ.blt x = true → mg x = none
  fn : ∀ x f, Γ.fn x = some f → FnS K mg Γ T x f
  exc : ∀ x c, Γ.cls x = some c → mg x = some (.ref (ca c)) ∧ PySem.W.keepIn K (.ref (ca c)) = true ∧ PySem.W.excIn K (ca c) [.type "ValueError", .type "Exception", .type "BaseException", .type "object"] "ValueError.__new__" = true ∧
    PySem.W.subIn K (.ref (ca c)) (.type "BaseException") = some true ∧ PySem.W.typeIn K (.ref (ca c)) = some (.type "type")
  sub : ∀ c c' b, G.sub c c' = some b → PySem.W.exmOne K (.ref (ca c)) (.ref (ca c')) = some b
  clf : ∀ x c fa fb, Γ.clf x = some (c, fa, fb) → mg x = some (.ref (ca c)) ∧ OexC K (ca c) ∧ XfC K (ca c) ∧ PySem.W.findIn K (.ref (ca c)) fa = some none ∧ PySem.W.findIn K (.ref (ca c)) fb = some none ∧
    ∃ (fI B : Addr) (fd : FuncData) (qual : Str) (st : Stmt) (self n1 n2 : Str), PySem.W.findIn K (.ref (ca c)) "__init__" = some (some (.ref fI)) ∧ PySem.W.typeIn K (.ref fI) = some (.type "function") ∧ Fun K "__init__" qual st fI fd ∧
      (∀ us : List Value, us.length = 3 → bindArgs fd ⟨us, []⟩ = pure ([self, n1, n2].zip us)) ∧ FnScope [self, n1, n2] [self, n1, n2] (defScope st) ∧ InitIs (defBody st) self n1 n2 fa fb ∧ isGl (defScope st) "RoadError" = true ∧
      (isVis (defScope st) self = true ∧ noDbg self = true) ∧ (isVis (defScope st) n1 = true ∧ noDbg n1 = true) ∧ (isVis (defScope st) n2 = true ∧ noDbg n2 = true) ∧ mg "RoadError" = some (.ref B) ∧ AboveC K B

section
variable {P : Program} {w : World} {K : PySem.W.Frag} {mg : Str → Option Value} {base : Heap} {G : Glob} {Γ : Gn} {T : Nat → Option Fn} {ca : Nat → Addr}

theorem SlR.start {fn : Fn} {ds : List D} {vs : List V} {ρ : Rho} {n : Nat} {H : Hp} (rs : Rels K ρ n H ds vs) : SlR K ρ n H (startD fn ds) (L2.start fn.names vs) := by
  have hl := rs.length
  refine ⟨by simp [startD, L2.start, hl], fun i d hd => ?_⟩
  unfold startD at hd
  unfold L2.start
  by_cases h : i < ds.length
  · rw [List.getElem?_append_left (by simpa using h)] at hd
    rw [List.getElem?_append_left (by simpa [hl] using h)]
    rw [List.getElem?_map] at hd ⊢
    cases e : ds[i]? with
    | none => rw [e] at hd; cases hd
    | some d' =>
      rw [e] at hd
      cases hd
      obtain ⟨v, ev, q⟩ := rs.get e
      exact ⟨v, by rw [ev]; rfl, q⟩
  · rw [List.getElem?_append_right (by simpa using h)] at hd
    rw [List.getElem?_replicate] at hd
    split at hd <;> cases hd

theorem Rel.flat {ρ0 ρ : Rho} {H0 H : Hp} {h0 h : Hs} {d : D} {v : V} (r0 : HR K ca ρ0 H0 h0) (r : HR K ca ρ H h) (e : Ext ρ0 h0.length H0 ρ h.length H) (q : Rel K ρ h.length H d v) (hn : d.lo h0.length = false) (hf : (DI.flat h d).lo h0.length = true) : Rel K ρ h0.length H (DI.flat h d) v := by
  have hle := e.le
  cases d with
  | ref m =>
    have hm0 : ¬ m < h0.length := of_decide_eq_false hn
    cases q with
    | ref hm =>
      simp only [DI.flat] at hf
      split at hf
      · rename_i xs z
        obtain ⟨vs, h1, rs⟩ := Rel.cellLst r z
        have ef : DI.flat h (.ref m) = .lst xs := by simp only [DI.flat, z]
        rw [ef]
        refine .lst h1 ⟨fun k hk e' => ?_, fun z' => (r.zt _ z').2 m hm rfl⟩ (rs.cut hle hf)
        exact hm0 ((r.inj k m (Nat.lt_of_lt_of_le hk hle) hm e') ▸ hk)
      · rw [hn] at hf; cases hf
  | _ => exact Bool.noConfusion (hn.symm.trans hf)

theorem Rkv.cutLo {ρ : Rho} {n n1 : Nat} {H : Hp} {κ : Type} (hle : n ≤ n1) : ∀ {fs : List (κ × D)} {fs' : List (κ × V)}, Rkv K ρ n1 H fs fs' → (fs.all fun kv => kv.2.lo n) = true → Rkv K ρ n H fs fs'
  | [], _, .nil, _ => .nil
  | (k, d) :: r, _, .cons q rs, h => by
    rw [List.all_cons, Bool.and_eq_true] at h
    exact .cons (q.cut hle h.1) (Rkv.cutLo hle rs h.2)
theorem fin_post {p : Bool} {ρ : Rho} {H : Hp} {h : Hs} {r : SR} {Q : VK} {E : XK} (r0 : HR K ca ρ H h) (q : Post K ca ρ h.length H (fin p h r) Q E) :
    PostS K ca (fun cls d _ H => E cls d H) ρ h.length H r { nx := fun _ H' => Q .non H', rt := Q } := by
  cases r with
  | stuck => exact q
  | ex x sl h1 =>
    intro ρ' H' σ' cls dd r' e' s' qx
    cases p with
    | false => exact q ρ' H' cls dd r' e' qx
    | true =>
      simp only [fin, if_true] at q
      split at q
      · rename_i ht
        obtain ⟨r2, e2⟩ := r0.cut r' e' ht.1
        refine q ρ' H' cls dd r2 e2 ⟨qx.1, ?_⟩
        rcases qx.2 with ⟨a, b⟩ | ⟨a, fs', ea, eh, en, rk⟩
        · exact .inl ⟨a, b⟩
        · exact .inr ⟨a, fs', ea, eh, fun m hm => en m (Nat.lt_of_lt_of_le hm e'.le), Rkv.cutLo e'.le rk ht.2⟩
      · exact q.elim
  | ok o h1 =>
    cases o with
    | bk _ => cases p <;> exact q.elim
    | ct _ => cases p <;> exact q.elim
    | nx sl =>
      intro ρ' H' σ' r' e' s'
      cases p with
      | false => exact q ρ' H' .non r' e' .non
      | true =>
        simp only [fin, if_true] at q
        split at q
        · rename_i ht
          obtain ⟨r2, e2⟩ := r0.cut r' e' ht
          exact q ρ' H' .non r2 e2 .non
        · exact q.elim
    | rt d =>
      intro ρ' H' v r' e' qd
      cases p with
      | false => exact q ρ' H' v r' e' qd
      | true =>
        simp only [fin, if_true] at q
        split at q
        · rename_i ht
          obtain ⟨r2, e2⟩ := r0.cut r' e' ht
          split at q
          · rename_i hlo
            exact q ρ' H' v r2 e2 (qd.cut e'.le hlo)
          · rename_i hlo
            split at q
            · rename_i hfl
              exact q ρ' H' v r2 e2 (Rel.flat r0 r' e' qd (by simpa using hlo) hfl)
            · exact q.elim
        · exact q.elim

/-- what a def of the table does, at a level -/
abbrev spOf (G : Glob) (T : Nat → Option Fn) (K : PySem.W.Frag) (ca : Nat → Addr) (k f : Nat) (ps : List Str) : Sp := fun vs H Q E => vs.length = ps.length ∧ ∃ ρ h ds, HR K ca ρ H h ∧ Rels K ρ h.length H ds vs ∧ Post K ca ρ h.length H (Phi G T k f ds h) Q E

theorem okS_def {fn : Fn} {qual : Str} {st : Stmt} {f : Addr} {cdv : Value} {A : Around} {outer : List Env} {s : Shared} {H : Hp} {E : XK} {k : Nat} {ps : List Str} (S : FnScope fn.names ps (defScope st)) (hr : Room (k + 2) (A.deeper (envOfC qual (defScope st) s.heap.objs.size f cdv))) :
    OkS (fun cls d _ H => E cls d H) k (cxOf (L2.CX P w) P w K mg base fn.names qual (defScope st) f cdv A outer s H E) fn.names (defScope st) true :=
  { hN := rfl, nd := S.nd, vis := fun x hx => isVis_of hx, loc := fun x hx => ⟨isLoc_of hx, .inl rfl⟩, gl := fun x hx => isGl_of rfl hx, blk := fun scope own h => blkOk_by h, calm := fun _ => ⟨rfl, hr⟩,
    units := (by have := hr.un; show (A.deeper (envOfC qual (defScope st) s.heap.objs.size f cdv)).units + 65 < cLine; omega),
    tk := takes_of rfl rfl rfl rfl, sce := rfl, skd := S.kind, stk := rfl, frm := rfl, ps := passes_of rfl }

theorem init_ok {P : Program} {w : World} {K : PySem.W.Frag} {mg : Str → Option Value} {base : Heap} {qual : Str} {st : Stmt} {fI B : Addr} {fd : FuncData} {self n1 n2 fa fb : Str} (F : Fun K "__init__" qual st fI fd) (S : FnScope [self, n1, n2] [self, n1, n2] (defScope st))
    (hb : InitIs (defBody st) self n1 n2 fa fb) (hg : isGl (defScope st) "RoadError" = true) (h0 : isVis (defScope st) self = true ∧ noDbg self = true) (h1 : isVis (defScope st) n1 = true ∧ noDbg n1 = true) (h2 : isVis (defScope st) n2 = true ∧ noDbg n2 = true)
    (hm : mg "RoadError" = some (.ref B)) (T : AboveC K B) : FnOk P w K mg base (L2.CX P w) 1 fI fd [self, n1, n2] (spInit K fa fb) := by
  refine F.okX S (fun vs H Q E q => ?_) fun cdv A outer s H vs Q E hr q => ?_
  · obtain ⟨a, C, u, v, rfl, _⟩ := q; rfl
  · obtain ⟨q1, q2, q3, q4, q5, q6, q7, q8, q9, q10, q11, q12, q13, q14, hl, hb⟩ := hb
    rw [hb]
    have v0 : ∀ p, PE (cxOf (L2.CX P w) P w K mg base [self, n1, n2] qual (defScope st) fI cdv A outer s H E) (.Name self p) (tVar 0) := fun p => pe_var rfl (isVis_of h0.1) (noDbg_1 h0.2) (noDbg_2 h0.2)
    have v1 : ∀ p, PE (cxOf (L2.CX P w) P w K mg base [self, n1, n2] qual (defScope st) fI cdv A outer s H E) (.Name n1 p) (tVar 1) := fun p => pe_var rfl (isVis_of h1.1) (noDbg_1 h1.2) (noDbg_2 h1.2)
    have v2 : ∀ p, PE (cxOf (L2.CX P w) P w K mg base [self, n1, n2] qual (defScope st) fI cdv A outer s H E) (.Name n2 p) (tVar 2) := fun p => pe_var rfl (isVis_of h2.1) (noDbg_1 h2.2) (noDbg_2 h2.2)
    have shape : eval (.Call (.Attribute (.Name "RoadError" q1) "__init__" q2) [.Name self q3, .Name n2 q4] [] q5) (cxOf (L2.CX P w) P w K mg base [self, n1, n2] qual (defScope st) fI cdv A outer s H E).env = (do
        let o ← eval (.Name "RoadError" q1) (cxOf (L2.CX P w) P w K mg base [self, n1, n2] qual (defScope st) fI cdv A outer s H E).env
        standAt q2.atName
        let (g, fst) ← holding [o] (getMethod o "__init__" (plainOf (.Name "RoadError" q1) (cxOf (L2.CX P w) P w K mg base [self, n1, n2] qual (defScope st) fI cdv A outer s H E).env))
        callWith q5 g fst (backTo q5 (starEach [.Name self q3, .Name n2 q4] (cxOf (L2.CX P w) P w K mg base [self, n1, n2] qual (defScope st) fI cdv A outer s H E).env)) (backToKw q5 (keywordEach [] (cxOf (L2.CX P w) P w K mg base [self, n1, n2] qual (defScope st) fI cdv A outer s H E).env))) := by
      rw [arm_eval_Call, base_of rfl]
      refine congrArg _ (funext fun ov => congrArg _ (funext fun _ => ?_))
      exact mcall_line (by rfl) hl
    refine ⟨_, pss_cons (ps_expr (pe_oinit (shape := shape) (x := "RoadError") (isGl_of rfl hg) hm T (by decide) (pa_cons (v0 q3) (pa_cons (v2 q4) pa_nil)))) (pss_cons (ps_ost (v0 q7) (v1 q9)) (pss_cons (ps_ost (v0 q11) (v2 q13)) pss_nil)), ?_⟩
    obtain ⟨a, C, u, v, rfl, TC, f1, f2, ea, q⟩ := q
    refine ⟨.ref a, rfl, v, rfl, a, C, [v], rfl, (show 1 ≤ 1000 by decide), TC, ea, ?_⟩
    refine ⟨u, rfl, .ref a, rfl, a, C, rfl, TC, f1, .inl ⟨ea, fun d hd hda => ?_⟩⟩
    refine ⟨v, rfl, .ref a, rfl, a, C, rfl, TC, f2, .inr ⟨d, [(fa, u)], upd_same, ?_, (show 1 ≤ 900 by decide), ?_⟩⟩
    · rw [upd_ne hda, upd_same]
    · exact q d hd hda
theorem fnOk_step {x qual : Str} {st : Stmt} {a : Addr} {fd : FuncData} {fn : Fn} {f k : Nat} (hT : T f = some fn) (F : Fun K x qual st a fd) (S : FnScope fn.names fn.ps (defScope st)) (hle : fn.arity ≤ fn.names.length)
    (hc : chkB Γ fn.names fn.body (defScope st) true (defBody st) = true) (m : ModF G Γ (Phi G T k) ca k P w K mg base) :
    FnOk P w K mg base (L2.CX P w) (k + 1 + 2) a fd fn.ps (spOf G T K ca (k + 1) f fn.ps) := by
  refine F.okX S (fun vs H Q E q => q.1) fun cdv A outer s H vs Q E hr q => ?_
  obtain ⟨hl, ρ, h, ds, r, rs, p⟩ := q
  refine ⟨_, (sndS G Γ (Phi G T k) ca fn.names fn.body).pb _ k _ (defScope st) true _ (okS_def S hr) m hc, ?_⟩
  simp only [Phi, hT] at p
  split at p
  · exact ⟨ρ, h, startD fn ds, r, SlR.start rs, fin_post r p⟩
  · exact p.elim

theorem fnOk_zero {a : Addr} {fd : FuncData} {ps : List Str} {f : Nat} : FnOk P w K mg base (L2.CX P w) 2 a fd ps (spOf G T K ca 0 f ps) :=
  ⟨fun vs H Q E q => q.1, fun A outer s H args us vs Q E _ _ _ _ q => by
    obtain ⟨_, _, _, _, _, _, p⟩ := q
    exact p.elim⟩

theorem Fn.ps_len {fn : Fn} (h : fn.arity ≤ fn.names.length) : fn.ps.length = fn.arity := by
  unfold Fn.ps
  rw [List.length_take]
  omega
theorem ModS.clfF (m : ModS G Γ T ca K mg) : ∀ x c fa fb, Γ.clf x = some (c, fa, fb) → mg x = some (.ref (ca c)) ∧ OexC K (ca c) ∧ XfC K (ca c) ∧ PySem.W.findIn K (.ref (ca c)) fa = some none ∧ PySem.W.findIn K (.ref (ca c)) fb = some none ∧
    ∃ fI fd ps, PySem.W.findIn K (.ref (ca c)) "__init__" = some (some (.ref fI)) ∧ PySem.W.typeIn K (.ref fI) = some (.type "function") ∧ Binds K fd ps [] ∧ FnOk P w K mg base (L2.CX P w) 1 fI fd ps (spInit K fa fb) := fun x c fa fb h => by
  obtain ⟨h1, h2, h3, h4, h5, fI, B, fd, qual, st, self, n1, n2, i1, i2, i3, i4, i5, i6, i7, i8, i9, i10, i11, i12⟩ := m.clf x c fa fb h
  exact ⟨h1, h2, h3, h4, h5, fI, fd, [self, n1, n2], i1, i2, .all i4, init_ok i3 i5 i6 i7 i8 i9 i10 i11 i12⟩
theorem modF (m : ModS G Γ T ca K mg) (k : Nat) : ModF G Γ (Phi G T k) ca k P w K mg base := by
  induction k with
  | zero =>
    refine ⟨m.const, m.blt, fun x f h => ?_, m.exc, fun x c h => (m.exc x c h).1, m.sub, m.clfF⟩
    obtain ⟨a, fd, fn, y, qual, st, h1, h2, h3, h4, h5, h6, h7, h8⟩ := (m.fn x f h).ex
    exact ⟨a, fd, fn.ps, h1, h3.kp, .all h4, (Fn.ps_len h6).trans h7, fnOk_zero⟩
  | succ k ih =>
    refine ⟨m.const, m.blt, fun x f h => ?_, m.exc, fun x c h => (m.exc x c h).1, m.sub, m.clfF⟩
    obtain ⟨a, fd, fn, y, qual, st, h1, h2, h3, h4, h5, h6, h7, h8⟩ := (m.fn x f h).ex
    exact ⟨a, fd, fn.ps, h1, h3.kp, .all h4, (Fn.ps_len h6).trans h7, fnOk_step h2 h3 h5 h6 h8 ih⟩

/-- the law's own def: a list of ints goes in, True comes out -/
theorem law_ok {x : Str} {f k n : Nat} (m : ModS G Γ T ca K mg) (hf : FnS K mg Γ T x f) {fa : Addr} (hfa : mg x = some (.ref fa)) (hps : ∃ fn, T f = some fn ∧ fn.ps = ([("script" : Str)] : List Str))
    (hlaw : ∀ ns : List Int, ns.length ≤ n → ∃ h', Phi G T (k + 1) f [.fro (ns.map .int)] [] = .ok (.bl true) h') :
    ∃ fd : FuncData, (∀ (s : Shared) (u : Value), BindsTo s fd ⟨[u], []⟩ [(("script" : Str), u)]) ∧ ∀ base : Heap, FnOk P w K mg base (L2.CX P w) (k + 3) fa fd [("script" : Str)] (fun vs H Q E => ∃ (a : Addr) (ns : List Int), vs = [.ref a] ∧ ns.length ≤ n ∧ Only H ∧ SqL K H a (ns.map V.int) ∧ ∀ H', Q (.bl true) H') := by
  obtain ⟨a, fd, fn, y, qual, st, h1, h2, h3, h4, h5, h6, h7, h8⟩ := hf.ex
  rw [hfa] at h1
  cases h1
  obtain ⟨fn', e1, e2⟩ := hps
  rw [h2] at e1
  cases e1
  rw [e2] at h4
  refine ⟨fd, fun s u => .of_eq (h4 [u] rfl), fun base => ?_⟩
  have F := fnOk_step (P := P) (w := w) (base := base) h2 h3 h5 h6 h8 (modF m k)
  rw [e2] at F
  refine F.imp fun vs H Q E q => ?_
  obtain ⟨a, ns, rfl, hl, ho, hs, q⟩ := q
  refine ⟨rfl, ⟨fun _ => 0, fun _ => False⟩, [], [.fro (ns.map .int)], ⟨fun i j hi => absurd hi (Nat.not_lt_zero i), fun i c hc => (by cases i <;> cases hc), fun z hz => hz.elim⟩, ?_, ?_⟩
  · refine .cons ?_ .nil
    have ra : Rels K ⟨fun _ => 0, fun _ => False⟩ 0 H (ns.map .int) (ns.map V.int) := by
      clear q hl hs hlaw
      induction ns with
      | nil => exact .nil
      | cons i r ih => exact .cons (.int i) ih
    rcases hs with (hs | hs) | hs
    · rcases ho a with e | ⟨o, xs, e⟩
      · rw [e] at hs; cases hs
      · rw [e] at hs; cases hs
    · exact .fro hs ⟨fun m hm => absurd hm (Nat.not_lt_zero m), fun z => z⟩ ra
    · exact .frk hs ra
  · obtain ⟨h', e⟩ := hlaw ns hl
    rw [e]
    intro ρ' H' v _ _ qv
    cases qv
    exact q H'

/-! ### from what the top has written -/
theorem fnS_mk {x : Str} {f : Nat} {h : Heap} {a : Addr} {fn : Fn} {qual : Str} {st : Stmt} {oc kV dc pm cd ct : Value} {od an : Option Addr} {sl : Array (Option Value)} (X : K.In h) (Gm : h.Ns mainGlobals mg)
    (hT : T f = some fn) (S : FnScope fn.names fn.ps (defScope st)) (hle : fn.arity ≤ fn.names.length) (har : fn.arity = Γ.ar f) (hc : chkB Γ fn.names fn.body (defScope st) true (defBody st) = true)
    (hb : ∀ (kV doc pm : Value) (an : Option Addr) (cdv ct : Value) (us : List Value), us.length = fn.ps.length → bindArgs (PySem.W.fnOf x qual (defArgs st) (defBody st) (defScope st) .none kV doc pm an cdv ct) ⟨us, []⟩ = pure (fn.ps.zip us))
    (a1 : PySem.W.nsIn K mainGlobals x = some (some (.ref a))) (l : K.lookup a = some ⟨oc, od, .func (PySem.W.fnOf x qual (defArgs st) (defBody st) (defScope st) .none kV dc pm an cd ct), sl⟩) (c : PySem.W.codeIn K cd qual = true) (k : PySem.W.keepIn K (.ref a) = true) :
    FnS K mg Γ T x f :=
  ⟨a, _, fn, x, qual, st, PySem.W.mg_of X Gm a1, hT, fun_mk l c k, hb kV dc pm an cd ct, S, hle, har, hc⟩
theorem lookup_all {α : Type} {p : Str → α → Prop} : ∀ {l : List (Str × α)}, (∀ q ∈ l, p q.1 q.2) → ∀ x d, l.lookup x = some d → p x d
  | [], _, x, d, h => by cases h
  | (y, e) :: r, hp, x, d, h => by
    rw [List.lookup_cons] at h
    split at h
    · rename_i z
      cases h
      have := eq_of_beq z
      subst this
      exact hp _ List.mem_cons_self
    · exact lookup_all (fun q hq => hp q (List.mem_cons_of_mem _ hq)) x d h

theorem contains_all {p : Str → Prop} {l : List Str} (h : ∀ x ∈ l, p x) : ∀ x, l.contains x = true → p x := fun x hx => h x (List.contains_iff_mem.mp hx)
/-- the walk of a law -/
theorem walk_DI {l : PySem.W.OpenLaw} {q : Program} {loose : List Str} {XP : (Str → Option Value) → Heap → Prop} {YP : World → Heap → Prop} {d : DefRec} {K : Params → PySem.W.Frag} {f k : Nat} (hn : l.most = some 63) (hdf : d.params.defaults = []) (hr : Room (k + 3) callerA)
    (hY : ∀ (w : World) (h : Heap), YP w h → (K w.params).In h) (hps : ∃ fn, T f = some fn ∧ fn.ps = ([("script" : Str)] : List Str))
    (hlaw : ∀ ns : List Int, ns.length ≤ 63 → ∃ h', Phi G T (k + 1) f [.fro (ns.map .int)] [] = .ok (.bl true) h')
    (F : ∀ (w : World) (mg : Str → Option Value) (fa : Addr) (h : Heap), (K w.params).In h → h.Ns mainGlobals mg → mg d.name = some (.ref fa) → ∃ ca, ModS G Γ T ca (K w.params) mg ∧ FnS (K w.params) mg Γ T d.name f) :
    PySem.W.WalkO q loose XP YP l.row.toRowW d [] (fun f vs => PySem.call f vs) :=
  L2.walk_of (n := 63) (k := k + 3) (x := ("script" : Str)) (CX := fun w => L2.CX l.prog w) (sp := fun w => fun vs H Q E => ∃ (a : Addr) (ns : List Int), vs = [.ref a] ∧ ns.length ≤ 63 ∧ Only H ∧ SqL (K w.params) H a (ns.map V.int) ∧ ∀ H', Q (.bl true) H') hn (by decide) hdf hr hY
    (fun w mg fa h KX Gm hmg => by
      obtain ⟨ca, m, hf⟩ := F w mg fa h KX Gm hmg
      obtain ⟨fd, hb, hF⟩ := law_ok (P := l.prog) (w := w) m hf hmg hps hlaw
      exact ⟨fd, hb, fun base _ _ => hF base⟩)
    (fun w H a ns hl ho hs => ⟨a, ns, rfl, hl, ho, hs, fun _ => rfl⟩)
    (fun w H s e s' z => by
      obtain ⟨_, _, _, _, _, _, _, _, _, _, _, _, z⟩ := z
      exact z)
end
end DI

/-! DI, part T: reckoning with the plain meaning (nothing of the model here). -/
namespace DI
open PySem

theorem map_inj {α β : Type} {f : α → β} (hf : ∀ x y, f x = f y → x = y) : ∀ {a b : List α}, a.map f = b.map f → a = b
  | [], [], _ => rfl
  | [], _ :: _, h => by cases h
  | _ :: _, [], h => by cases h
  | x :: a, y :: b, h => by
    simp only [List.map_cons, List.cons.injEq] at h
    rw [hf x y h.1, map_inj hf h.2]
@[simp] theorem str_inj {a b : String} : (Str.ofString a = Str.ofString b) ↔ a = b := by
  constructor
  · intro h
    rw [Str.ofString_eq_toList, Str.ofString_eq_toList] at h
    injection h with h
    have h2 : a.toList.map Char.toNat = b.toList.map Char.toNat := by
      have := congrArg Array.toList h
      simpa using this
    have h3 := map_inj (fun (x y : Char) (e : x.toNat = y.toNat) => Char.ext (UInt32.toNat_inj.mp e)) h2
    exact String.toList_inj.mp h3
  · intro h; rw [h]
section
variable {α β : Type} {a : α} {h : Hs} {d : D} {sl : Sl} {i j : Int} {s t : Str} {c : Bool}
@[simp] theorem ev_bind {f : α → Hs → R β} : (R.ok a h).bind f = f a h := rfl
@[simp] theorem ev_bindx {f : α → Hs → R β} {x : Exn} : (R.ex x h).bind f = .ex x h := rfl
@[simp] theorem ev_st {f : α → Hs → SR} : (R.ok a h).st sl f = f a h := rfl
@[simp] theorem ev_stx {f : α → Hs → SR} {x : Exn} : (R.ex x h : R α).st sl f = .ex x sl h := rfl
@[simp] theorem ev_some : R.ofO (some a) h = .ok a h := rfl
@[simp] theorem ev_calm : (R.ok a h).calm = .ok a h := rfl
@[simp] theorem ev_scalm {o : Out} : (SR.ok o h).calm = .ok o h := rfl
/-! values -/
@[simp] theorem tr_bl {b : Bool} : truth h (.bl b) = some b := rfl
@[simp] theorem tr_int : truth h (.int i) = some (i != 0) := rfl
@[simp] theorem tr_non : truth h .non = some false := rfl
@[simp] theorem bin_add : binD c .Add (.int i) (.int j) h = .ok (.int (i + j)) h := rfl
@[simp] theorem bin_sub : binD c .Sub (.int i) (.int j) h = .ok (.int (i - j)) h := rfl
theorem bin_mul (hb : (-(2 ^ 64) < i ∧ i < 2 ^ 64) ∨ (-(2 ^ 64) < j ∧ j < 2 ^ 64)) : binD c .Mult (.int i) (.int j) h = .ok (.int (i * j)) h := by
  show R.ofO ((binI .Mult i j).map D.int) h = _
  simp only [binI]; rw [if_pos hb]; rfl
theorem bin_mod (hb : 0 < j) : binD c .Mod (.int i) (.int j) h = .ok (.int (i % j)) h := by
  show R.ofO ((binI .Mod i j).map D.int) h = _
  simp only [binI]; rw [if_pos hb]; rfl
theorem bin_fdiv (hb : 0 < j) (h2 : j.natAbs.log2 < 9000) : binD c .FloorDiv (.int i) (.int j) h = .ok (.int (i / j)) h := by
  show R.ofO ((binI .FloorDiv i j).map D.int) h = _
  simp only [binI]; rw [if_pos ⟨hb, h2⟩]; rfl
theorem log2_small (hb : 0 < j) (h2 : j < 2 ^ 64) : j.natAbs.log2 < 9000 := by
  have h3 : j.natAbs < 2 ^ 64 := by omega
  have : j.natAbs.log2 < 64 := (Nat.log2_lt (by omega)).mpr h3
  omega
@[simp] theorem bin_and : binD c .BitAnd (.int i) (.int j) h = .ok (.int (Builtin.bitAnd i j)) h := rfl
@[simp] theorem bin_or : binD c .BitOr (.int i) (.int j) h = .ok (.int (Builtin.bitOr i j)) h := rfl
@[simp] theorem bin_xor : binD c .BitXor (.int i) (.int j) h = .ok (.int (Builtin.bitXor i j)) h := rfl
theorem bin_lst {xs ys : List D} (hl : xs.length + ys.length ≤ lim) : binD false .Add (.lst xs) (.lst ys) h = .ok (.lst (xs ++ ys)) h := by
  have h1 : (xs ++ ys).length ≤ lim := by simpa using hl
  show (if xs.length + ys.length ≤ lim then mkL false (xs ++ ys) h else .stuck) = _
  rw [if_pos hl]; unfold mkL; rw [if_pos h1]; rfl
@[simp] theorem cmp_lt : cmpD .Lt (.int i) (.int j) h = .ok (.bl (decide (i < j))) h := rfl
@[simp] theorem cmp_le : cmpD .LtE (.int i) (.int j) h = .ok (.bl (decide (i ≤ j))) h := rfl
@[simp] theorem cmp_gt : cmpD .Gt (.int i) (.int j) h = .ok (.bl (decide (j < i))) h := rfl
@[simp] theorem cmp_ge : cmpD .GtE (.int i) (.int j) h = .ok (.bl (decide (j ≤ i))) h := rfl
@[simp] theorem cmo_lt : cmpO .Lt (.int i) (.int j) h = some (decide (i < j)) := rfl
@[simp] theorem cmo_le : cmpO .LtE (.int i) (.int j) h = some (decide (i ≤ j)) := rfl
@[simp] theorem cmo_gt : cmpO .Gt (.int i) (.int j) h = some (decide (j < i)) := rfl
@[simp] theorem cmo_ge : cmpO .GtE (.int i) (.int j) h = some (decide (j ≤ i)) := rfl
@[simp] theorem cmp_eqi : cmpD .Eq (.int i) (.int j) h = .ok (.bl (decide (i = j))) h := rfl
@[simp] theorem cmp_eqs : cmpD .Eq (.str s) (.str t) h = .ok (.bl (decide (s = t))) h := rfl
@[simp] theorem cmp_eqb {a b : Bool} : cmpD .Eq (.bl a) (.bl b) h = .ok (.bl (decide (a = b))) h := rfl
@[simp] theorem cmp_nei : cmpD .NotEq (.int i) (.int j) h = .ok (.bl (!decide (i = j))) h := rfl
@[simp] theorem cmp_nes : cmpD .NotEq (.str s) (.str t) h = .ok (.bl (!decide (s = t))) h := rfl
@[simp] theorem cmp_isn : cmpD .Is d .non h = .ok (.bl (decide (d = .non))) h := by cases d <;> rfl
@[simp] theorem cmp_isnn : cmpD .IsNot d .non h = .ok (.bl (!decide (d = .non))) h := by cases d <;> rfl
theorem cmp_nenon : cmpD .NotEq .non (.int j) h = .ok (.bl true) h := rfl
theorem cmp_neinon : cmpD .NotEq (.int i) .non h = .ok (.bl true) h := rfl
@[simp] theorem tg_nm {n : Nat} : setTg (.nm n) [d] sl = some (sl.set n (some d)) := rfl
@[simp] theorem tg_nil : setTg .nil [] sl = some sl := rfl
@[simp] theorem tg_cons {a b : Tg} {ds : List D} : setTg (.cons a b) (d :: ds) sl = (setTg a [d] sl).bind fun sl1 => setTg b ds sl1 := by
  simp only [setTg]; cases setTg a [d] sl <;> rfl
@[simp] theorem tg_tup {a : Tg} {ds : List D} : setTg (.tup a) [.tup ds] sl = setTg a ds sl := by simp only [setTg]
@[simp] theorem tg_lst {a : Tg} {ds : List D} : setTg (.tup a) [.lst ds] sl = setTg a ds sl := by simp only [setTg]
@[simp] theorem tg_fro {a : Tg} {ds : List D} : setTg (.tup a) [.fro ds] sl = setTg a ds sl := by simp only [setTg]
/-! subscripts -/
theorem ix_tup {xs : List D} {k : Nat} (e : xs[k]? = some d) : ixD (.tup xs) (.int k) h = .ok d h := by
  show R.ofO (L2.atI xs k) h = _
  rw [L2.atI_nat e]; rfl
theorem ix_lst {xs : List D} {k : Nat} (e : xs[k]? = some d) : ixD (.lst xs) (.int k) h = .ok d h := by
  show R.ofO (L2.atI xs k) h = _
  rw [L2.atI_nat e]; rfl
theorem ix_fro {xs : List D} {k : Nat} (e : xs[k]? = some d) : ixD (.fro xs) (.int k) h = .ok d h := by
  show R.ofO (L2.atI xs k) h = _
  rw [L2.atI_nat e]; rfl
theorem ix_ref {xs : List D} {k m : Nat} (hm : h[m]? = some (.lst xs)) (e : xs[k]? = some d) : ixD (.ref m) (.int k) h = .ok d h := by
  show (match h[m]? with
      | some (.lst xs) => R.ofO (L2.atI xs k) h
      | some (.dic kvs) => R.ofO (getK kvs (Sum.inl (k : Int))) h
      | _ => .stuck) = _
  rw [hm]
  show R.ofO (L2.atI xs k) h = _
  rw [L2.atI_nat e]; rfl
theorem setIx_ref {xs : List D} {k m : Nat} {v : D} (hm : h[m]? = some (.lst xs)) (hk : k < xs.length) : setIxD (.ref m) (.int k) v h = some (h.set m (.lst (xs.set k v))) := by
  have e : L2.ixN xs.length (k : Int) = some k := by
    unfold L2.ixN
    rw [if_pos (by omega), if_pos (by omega)]; simp
  simp only [setIxD, hm, e, Option.map_some]
end

section
variable {h : Hs} {x y z u : D} {r : List D}
@[simp] theorem ixt0 : ixD (.tup (x :: r)) (.int 0) h = .ok x h := ix_tup (k := 0) rfl
@[simp] theorem ixt1 : ixD (.tup (x :: y :: r)) (.int 1) h = .ok y h := ix_tup (k := 1) rfl
@[simp] theorem ixt2 : ixD (.tup (x :: y :: z :: r)) (.int 2) h = .ok z h := ix_tup (k := 2) rfl
@[simp] theorem ixt3 : ixD (.tup (x :: y :: z :: u :: r)) (.int 3) h = .ok u h := ix_tup (k := 3) rfl
@[simp] theorem ixl0 : ixD (.lst (x :: r)) (.int 0) h = .ok x h := ix_lst (k := 0) rfl
@[simp] theorem ixl1 : ixD (.lst (x :: y :: r)) (.int 1) h = .ok y h := ix_lst (k := 1) rfl
@[simp] theorem ixl2 : ixD (.lst (x :: y :: z :: r)) (.int 2) h = .ok z h := ix_lst (k := 2) rfl
@[simp] theorem ixl3 : ixD (.lst (x :: y :: z :: u :: r)) (.int 3) h = .ok u h := ix_lst (k := 3) rfl
end
/-! ### statements one by one -/
def S.hd : S → S
  | .seq a _ => a
  | s => s
def S.tl : S → S
  | .seq _ b => b
  | _ => .nop
section
variable {G : Glob} {Φ : Nat → List D → Hs → R D} {a b : S} {sl sl1 : Sl} {h h1 : Hs}
theorem seq_nx (e : evS G Φ a sl h = .ok (.nx sl1) h1) : evS G Φ (.seq a b) sl h = evS G Φ b sl1 h1 := by simp only [evS, e]
theorem seq_rt {d : D} (e : evS G Φ a sl h = .ok (.rt d) h1) : evS G Φ (.seq a b) sl h = .ok (.rt d) h1 := by simp only [evS, e]
theorem hd_nx (hb : b = .seq b.hd b.tl) (e : evS G Φ b.hd sl h = .ok (.nx sl1) h1) : evS G Φ b sl h = evS G Φ b.tl sl1 h1 := by rw [hb]; exact seq_nx e
theorem hd_rt {d : D} (hb : b = .seq b.hd b.tl) (e : evS G Φ b.hd sl h = .ok (.rt d) h1) : evS G Φ b sl h = .ok (.rt d) h1 := by rw [hb]; exact seq_rt e
end

/-! ### calls -/
theorem call_ok {G : Glob} {T : Nat → Option Fn} {k f : Nat} {fn : Fn} {args : List D} {h : Hs} (hT : T f = some fn) (ha : args.length = fn.arity) : Phi G T (k + 1) f args h = fin fn.pure h (evS G (Phi G T k) fn.body (startD fn args) h) := by
  simp only [Phi, hT]
  rw [if_pos ha]
theorem fin_imp {h : Hs} {d : D} {h1 : Hs} : fin false h (.ok (.rt d) h1) = .ok d h1 := rfl
theorem fin_pure {h : Hs} {d : D} (hd : d.lo h.length = true) : fin true h (.ok (.rt d) h) = .ok d h := by
  simp only [fin, if_true]
  rw [if_pos (by simp), if_pos hd]
@[simp] theorem fin_int {h : Hs} {i : Int} : fin true h (.ok (.rt (.int i)) h) = .ok (.int i) h := fin_pure rfl
@[simp] theorem fin_bl {h : Hs} {i : Bool} : fin true h (.ok (.rt (.bl i)) h) = .ok (.bl i) h := fin_pure rfl
@[simp] theorem fin_non {h : Hs} : fin true h (.ok (.rt .non) h) = .ok .non h := fin_pure rfl
@[simp] theorem fin_str {h : Hs} {s : Str} : fin true h (.ok (.rt (.str s)) h) = .ok (.str s) h := fin_pure rfl

/-! ### loops -/
/-- a comprehension whose turns leave the heap alone -/
theorem lcLoop_map {still : Hs → Bool} {turn : D → Hs → R (Option D)} {h : Hs} {g : D → Option D} (hs : still h = true) : ∀ (xs acc : List D), (∀ x ∈ xs, turn x h = .ok (g x) h) → acc.length + xs.length ≤ lim → lcLoop still turn xs acc h = .ok (acc ++ xs.filterMap g) h
  | [], acc, _, _ => by simp [lcLoop, hs]
  | x :: xs, acc, ht, hl => by
    unfold lcLoop
    rw [if_pos hs, ht x List.mem_cons_self]
    simp only [List.length_cons] at hl
    cases e : g x with
    | none =>
      simp only [ev_bind]
      rw [lcLoop_map hs xs acc (fun y hy => ht y (List.mem_cons_of_mem _ hy)) (by omega), List.filterMap_cons_none e]
    | some y =>
      simp only [ev_bind]
      rw [if_pos (by omega : acc.length < lim), lcLoop_map hs xs (acc ++ [y]) (fun y hy => ht y (List.mem_cons_of_mem _ hy)) (by simp; omega), List.filterMap_cons_some e]
      simp
/-- the same for two clauses: the outer turns -/
theorem lc2Loop_map {still : Hs → Bool} {turn : D → List D → Hs → R (List D)} {h : Hs} {g : D → List D} {m : Nat} (hs : still h = true) : ∀ (xs acc : List D), (∀ x ∈ xs, ∀ acc : List D, acc.length + m ≤ lim → turn x acc h = .ok (acc ++ g x) h) → (∀ x ∈ xs, (g x).length ≤ m) → acc.length + xs.length * m ≤ lim → lc2Loop still turn xs acc h = .ok (acc ++ xs.flatMap g) h
  | [], acc, _, _, _ => by simp [lc2Loop, hs]
  | x :: xs, acc, ht, hg, hl => by
    unfold lc2Loop
    have e1 : (xs.length + 1) * m = xs.length * m + m := Nat.succ_mul _ _
    simp only [List.length_cons, e1] at hl
    have h1 := hg x List.mem_cons_self
    rw [if_pos hs, ht x List.mem_cons_self acc (by omega)]
    simp only [ev_bind]
    rw [lc2Loop_map hs xs (acc ++ g x) (fun y hy => ht y (List.mem_cons_of_mem _ hy)) (fun y hy => hg y (List.mem_cons_of_mem _ hy)) (by simp; omega)]
    simp
/-- a for loop by an invariant of slots and heap: I i sl h holds ahead of the i-th item -/
theorem forD_inv {still : Hs → Bool} {bindT : D → Sl → Option Sl} {body : Sl → Hs → SR} {I : Nat → Sl → Hs → Prop} (Qr : D → Hs → Prop) : ∀ (xs : List D) (n : Nat) (sl : Sl) (h : Hs), I n sl h →
    (∀ i sl h, I i sl h → still h = true) →
    (∀ i x sl h, xs[i - n]? = some x → n ≤ i → I i sl h → ∃ sl1, bindT x sl = some sl1 ∧ ((∃ sl2 h2, (body sl1 h = .ok (.nx sl2) h2 ∨ body sl1 h = .ok (.ct sl2) h2) ∧ I (i + 1) sl2 h2) ∨ ∃ d h2, body sl1 h = .ok (.rt d) h2 ∧ Qr d h2)) →
    (∃ sl2 h2, forD still bindT body xs sl h = .ok (.nx sl2) h2 ∧ I (n + xs.length) sl2 h2) ∨ ∃ d h2, forD still bindT body xs sl h = .ok (.rt d) h2 ∧ Qr d h2
  | [], n, sl, h, hI, hs, _ => .inl ⟨sl, h, by simp [forD, hs n sl h hI], hI⟩
  | x :: xs, n, sl, h, hI, hs, hb => by
    unfold forD
    rw [if_pos (hs n sl h hI)]
    obtain ⟨sl1, e1, hb1⟩ := hb n x sl h (by simp) (Nat.le_refl n) hI
    rw [e1]
    simp only
    rcases hb1 with ⟨sl2, h2, eb, hI2⟩ | ⟨d, h2, eb, hq⟩
    · have ih := forD_inv Qr xs (n + 1) sl2 h2 hI2 hs fun i y sl h hy hi hI => hb i y sl h (by
        have : i - n = (i - (n + 1)) + 1 := by omega
        rw [this]; simpa using hy) (by omega) hI
      have el : n + (x :: xs).length = n + 1 + xs.length := by simp; omega
      rw [el]
      rcases eb with eb | eb <;> rw [eb] <;> exact ih
    · rw [eb]; exact .inr ⟨d, h2, rfl, hq⟩
theorem forD_nx {still : Hs → Bool} {bindT : D → Sl → Option Sl} {body : Sl → Hs → SR} {I : Nat → Sl → Hs → Prop} (xs : List D) (sl : Sl) (h : Hs) (hI : I 0 sl h) (hs : ∀ i sl h, I i sl h → still h = true)
    (hb : ∀ i x sl h, xs[i]? = some x → I i sl h → ∃ sl1 sl2 h2, bindT x sl = some sl1 ∧ body sl1 h = .ok (.nx sl2) h2 ∧ I (i + 1) sl2 h2) : ∃ sl2 h2, forD still bindT body xs sl h = .ok (.nx sl2) h2 ∧ I xs.length sl2 h2 := by
  rcases forD_inv (I := I) (fun _ _ => False) xs 0 sl h hI hs (fun i x sl h hx _ hI => by
    obtain ⟨sl1, sl2, h2, e1, e2, e3⟩ := hb i x sl h hx hI
    exact ⟨sl1, e1, .inl ⟨sl2, h2, .inl e2, e3⟩⟩) with ⟨sl2, h2, e, hI2⟩ | ⟨_, _, _, hf⟩
  · exact ⟨sl2, h2, e, by rw [Nat.zero_add] at hI2; exact hI2⟩
  · exact hf.elim
section
variable {G : Glob} {Φ : Nat → List D → Hs → R D}
/-- a for statement, by an invariant -/
theorem for_nx {tg : Tg} {k : ItK} {src : E} {b : S} {sl : Sl} {h h1 : Hs} {v : D} {items : List D} (I : Nat → Sl → Hs → Prop) (e1 : evE G Φ src sl h = .ok v h1) (e2 : itemsOf k v h1 = some items) (hI : I 0 sl h1) (hs : ∀ i sl h, I i sl h → itemsOf k v h = some items)
    (hb : ∀ i x sl h, items[i]? = some x → I i sl h → ∃ sl1 sl2 h2, setTg tg [x] sl = some sl1 ∧ evS G Φ b sl1 h = .ok (.nx sl2) h2 ∧ I (i + 1) sl2 h2) : ∃ sl2 h2, evS G Φ (.for tg k src b) sl h = .ok (.nx sl2) h2 ∧ I items.length sl2 h2 := by
  simp only [evS, e1, ev_st, e2]
  exact forD_nx items sl h1 hI (fun i sl h hi => decide_eq_true (hs i sl h hi)) hb
theorem ite_t {t : E} {a b : S} {sl : Sl} {h h1 : Hs} {x : D} (e : evE G Φ t sl h = .ok x h1) (ht : truth h1 x = some true) : evS G Φ (.ite t a b) sl h = evS G Φ a sl h1 := by
  simp only [evS, e, ev_st, ht]
theorem ite_f {t : E} {a b : S} {sl : Sl} {h h1 : Hs} {x : D} (e : evE G Φ t sl h = .ok x h1) (ht : truth h1 x = some false) : evS G Φ (.ite t a b) sl h = evS G Φ b sl h1 := by
  simp only [evS, e, ev_st, ht]
end
/-- a comprehension of one clause whose parts leave the heap alone -/
theorem lc_eval {G : Glob} {Φ : Nat → List D → Hs → R D} {own : List Nat} {tg : Tg} {k : ItK} {src cond elt : E} {sl : Sl} {h h1 : Hs} {v : D} {items : List D} (g : D → Option D) (e1 : evE G Φ src sl h = .ok v h1) (e2 : itemsOf k v h1 = some items) (hl : items.length ≤ lim)
    (ht : ∀ x ∈ items, ∃ sl2 t, setTg tg [x] (wipeD sl own) = some sl2 ∧ evE G Φ cond sl2 h1 = .ok t h1 ∧ ((truth h1 t = some false ∧ g x = none) ∨ (truth h1 t = some true ∧ ∃ y, evE G Φ elt sl2 h1 = .ok y h1 ∧ g x = some y))) :
    evE G Φ (.lc false own tg k src cond elt) sl h = .ok (.lst (items.filterMap g)) h1 := by
  simp only [evE, e1, ev_bind, e2]
  rw [lcLoop_map (g := g) (by simp [e2]) items [] ?_ (by simpa using hl)]
  · simp only [ev_bind, List.nil_append]
    unfold mkL
    have : (items.filterMap g).length ≤ lim := Nat.le_trans (List.length_filterMap_le _ _) hl
    rw [if_pos this]; rfl
  · intro x hx
    obtain ⟨sl2, t, h2, h3, h4⟩ := ht x hx
    simp only [h2, h3, ev_calm, ev_bind]
    rcases h4 with ⟨h5, h6⟩ | ⟨h5, y, h6, h7⟩
    · simp only [h5, h6]
    · simp only [h5, h6, h7, ev_calm, ev_bind]
theorem bin_eval {G : Glob} {Φ : Nat → List D → Hs → R D} {c : Bool} {op : Operator} {a b : E} {sl : Sl} {h h1 h2 : Hs} {x y : D} (e1 : evE G Φ a sl h = .ok x h1) (e2 : evE G Φ b sl h1 = .ok y h2) : evE G Φ (.bin c op a b) sl h = binD c op x y h2 := by
  simp only [evE, e1, e2, ev_bind]
theorem asg_eval {G : Glob} {Φ : Nat → List D → Hs → R D} {tg : Tg} {e : E} {sl sl1 : Sl} {h h1 : Hs} {d : D} (e1 : evE G Φ e sl h = .ok d h1) (t : setTg tg [d] sl = some sl1) : evS G Φ (.asg tg e) sl h = .ok (.nx sl1) h1 := by
  simp only [evS, e1, ev_st, t]
theorem nop_eval {G : Glob} {Φ : Nat → List D → Hs → R D} {sl : Sl} {h : Hs} : evS G Φ .nop sl h = .ok (.nx sl) h := by simp only [evS]
theorem cons_eval {G : Glob} {Φ : Nat → List D → Hs → R D} {a b : E} {sl : Sl} {h h1 h2 : Hs} {x : D} {ys : List D} (e1 : evE G Φ a sl h = .ok x h1) (e2 : evE G Φ b sl h1 = .ok (.tup ys) h2) : evE G Φ (.cons a b) sl h = .ok (.tup (x :: ys)) h2 := by
  simp only [evE, e1, e2, ev_bind]
theorem nil_eval {G : Glob} {Φ : Nat → List D → Hs → R D} {sl : Sl} {h : Hs} : evE G Φ .nil sl h = .ok (.tup []) h := by simp only [evE]
theorem bi_eval {G : Glob} {Φ : Nat → List D → Hs → R D} {f : Bi} {a : E} {sl : Sl} {h h1 : Hs} {xs : List D} (e1 : evE G Φ a sl h = .ok (.tup xs) h1) : evE G Φ (.bi f a) sl h = biD f xs h1 := by
  simp only [evE, e1, ev_bind]
theorem call_eval {G : Glob} {Φ : Nat → List D → Hs → R D} {f : Nat} {a : E} {sl : Sl} {h h1 : Hs} {xs : List D} (e1 : evE G Φ a sl h = .ok (.tup xs) h1) : evE G Φ (.call f a) sl h = Φ f xs h1 := by
  simp only [evE, e1, ev_bind]
theorem cmp_eval {G : Glob} {Φ : Nat → List D → Hs → R D} {op : CmpOp} {a b : E} {sl : Sl} {h h1 h2 : Hs} {x y : D} (e1 : evE G Φ a sl h = .ok x h1) (e2 : evE G Φ b sl h1 = .ok y h2) : evE G Φ (.cmp op a b) sl h = cmpD op x y h2 := by
  simp only [evE, e1, e2, ev_bind]
theorem or_f {G : Glob} {Φ : Nat → List D → Hs → R D} {a b : E} {sl : Sl} {h h1 : Hs} {x : D} (e1 : evE G Φ a sl h = .ok x h1) (t : truth h1 x = some false) : evE G Φ (.or a b) sl h = evE G Φ b sl h1 := by
  simp only [evE, e1, t, ev_bind]
theorem and_t {G : Glob} {Φ : Nat → List D → Hs → R D} {a b : E} {sl : Sl} {h h1 : Hs} {x : D} (e1 : evE G Φ a sl h = .ok x h1) (t : truth h1 x = some true) : evE G Φ (.and a b) sl h = evE G Φ b sl h1 := by
  simp only [evE, e1, t, ev_bind]
theorem ret_eval {G : Glob} {Φ : Nat → List D → Hs → R D} {e : E} {sl : Sl} {h h1 : Hs} {d : D} (e1 : evE G Φ e sl h = .ok d h1) : evS G Φ (.ret e) sl h = .ok (.rt d) h1 := by
  simp only [evS, e1, ev_st]
theorem tup_eval {G : Glob} {Φ : Nat → List D → Hs → R D} {a : E} {sl : Sl} {h h1 : Hs} {xs : List D} (e1 : evE G Φ a sl h = .ok (.tup xs) h1) (hl : xs.length ≤ lim) : evE G Φ (.tup a) sl h = .ok (.tup xs) h1 := by
  simp only [evE, e1, ev_bind]; rw [if_pos hl]
def S.th : S → S
  | .ite _ a _ => a
  | .for _ _ _ a => a
  | .while _ a => a
  | s => s
theorem items_range1 {n : Int} {h : Hs} (h1 : -(2 ^ 62) ≤ n) (h2 : n < 2 ^ 62) : itemsOf .range1 (.tup [.int n]) h = some (rangeD 0 n) := by
  simp only [itemsOf]; rw [if_pos ⟨h1, h2⟩]
theorem items_range2 {a b : Int} {h : Hs} (h1 : -(2 ^ 62) ≤ a) (h2 : a < 2 ^ 62) (h3 : -(2 ^ 62) ≤ b) (h4 : b < 2 ^ 62) : itemsOf .range2 (.tup [.int a, .int b]) h = some (rangeD a b) := by
  simp only [itemsOf]; rw [if_pos ⟨h1, h2, h3, h4⟩]
theorem rangeD_at {a b : Int} {i : Nat} {x : D} (e : (rangeD a b)[i]? = some x) : x = .int (a + i) ∧ a + i < b := by
  unfold rangeD at e
  rw [List.getElem?_map] at e
  cases e2 : (List.range (b - a).toNat)[i]? with
  | none => rw [e2] at e; cases e
  | some j =>
    rw [e2] at e
    cases e
    have h1 : i < (List.range (b - a).toNat).length := (List.getElem?_eq_some_iff.mp e2).1
    have h2 := List.getElem?_range (show i < (b - a).toNat by simpa using h1)
    rw [h2] at e2
    cases e2
    simp at h1
    exact ⟨rfl, by omega⟩
/-! ### cells of lists -/
@[simp] theorem mt_app {h : Hs} {m : Nat} {xs : List D} {d : D} (hm : h[m]? = some (.lst xs)) (hl : xs.length + 1 ≤ lim) : mtD .append (.ref m) [d] h = .ok .non (h.set m (.lst (xs ++ [d]))) := by
  simp only [mtD, mtAppend, hm]
  first | rw [if_pos hl] | rw [if_pos (Nat.lt_of_succ_le hl)] | skip
@[simp] theorem ty_lst {h : Hs} {m : Nat} {xs : List D} (hm : h[m]? = some (.lst xs)) : tyOf h (.ref m) = some "list" := by simp only [tyOf, hm]
theorem end_at {h : Hs} {c : Cell} : (h ++ [c])[h.length]? = some c := by simp
theorem end_set {h : Hs} {c c2 : Cell} : (h ++ [c]).set h.length c2 = h ++ [c2] := by simp
/-- one more for the list in the last cell -/
theorem app_end {G : Glob} {Φ : Nat → List D → Hs → R D} {h : Hs} {xs : List D} {sl : Sl} {i : Nat} {e : E} {d : D} (hv : sl[i]? = some (some (.ref h.length))) (he : evE G Φ e sl (h ++ [.lst xs]) = .ok d (h ++ [.lst xs])) (hl : xs.length + 1 ≤ lim) :
    evS G Φ (.expr (.meth .append (.var i) (.cons e .nil))) sl (h ++ [.lst xs]) = .ok (.nx sl) (h ++ [.lst (xs ++ [d])]) := by
  simp only [evS, evE, hv, ev_bind, ty_lst end_at, mtTy, if_true, he, mt_app end_at hl, end_set, ev_st]
theorem fin_lst {h : Hs} {xs : List D} (hx : D.lo.los h.length xs = true) : fin true h (.ok (.rt (.ref h.length)) (h ++ [.lst xs])) = .ok (.lst xs) h := by
  have e1 : (h ++ [Cell.lst xs]).take h.length = h := by simp
  have e2 : (h ++ [Cell.lst xs])[h.length]? = some (.lst xs) := by simp
  have e3 : ¬ (D.lo h.length (.ref h.length) = true) := by simp [D.lo]
  have e4 : flat (h ++ [Cell.lst xs]) (.ref h.length) = .lst xs := by simp only [flat, e2]
  simp only [fin, if_true, e1, e4]
  rw [if_neg e3, if_pos (by simpa [D.lo] using hx)]
theorem fin_ex {h h1 : Hs} {c : Nat} {sl : Sl} (e : h1.take h.length = h) : fin true h (.ex ⟨c, []⟩ sl h1) = .ex ⟨c, []⟩ h := by
  simp only [fin, if_true, e]
  rw [if_pos ⟨trivial, rfl⟩]
theorem los_map {α : Type} {n : Nat} {f : α → D} (hf : ∀ a, (f a).lo n = true) : ∀ l : List α, D.lo.los n (l.map f) = true
  | [] => rfl
  | a :: l => by simp [D.lo.los, hf a, los_map hf l]
def S.el : S → S
  | .ite _ _ b => b
  | s => s
/-! ### membership -/
@[simp] theorem in_tup {h : Hs} {x : D} {ys : List D} : cmpD .In x (.tup ys) h = R.ofO ((if isFlat x && ys.all isFlat then some (ys.any fun y => eqF y x) else inP h x (.tup ys)).map .bl) h := rfl
@[simp] theorem nin_tup {h : Hs} {x : D} {ys : List D} : cmpD .NotIn x (.tup ys) h = R.ofO (((if isFlat x && ys.all isFlat then some (ys.any fun y => eqF y x) else inP h x (.tup ys)).map (!·)).map .bl) h := rfl
@[simp] theorem eqF_str {s t : Str} : eqF (.str s) (.str t) = decide (s = t) := rfl
@[simp] theorem isFlat_str {s : Str} : isFlat (.str s) = true := rfl
@[simp] theorem isFlat_int {i : Int} : isFlat (.int i) = true := rfl
@[simp] theorem isFlat_bl {i : Bool} : isFlat (.bl i) = true := rfl
@[simp] theorem isFlat_non : isFlat .non = true := rfl
@[simp] theorem isFlat_tup {xs : List D} : isFlat (.tup xs) = false := rfl
@[simp] theorem eqF_sn {t : Str} : eqF (.str t) .non = false := rfl
@[simp] theorem eqF_ns {t : Str} : eqF .non (.str t) = false := rfl
@[simp] theorem eqF_si {t : Str} {i : Int} : eqF (.str t) (.int i) = false := rfl
@[simp] theorem eqF_sb {t : Str} {i : Bool} : eqF (.str t) (.bl i) = false := rfl
theorem in_dic {h : Hs} {m : Nat} {kvs : List (L2.Key × D)} {s : Str} (hm : h[m]? = some (.dic kvs)) : cmpD .In (.str s) (.ref m) h = .ok (.bl (getK kvs (Sum.inr s)).isSome) h := by
  simp only [cmpD, cmpO, inD, hm]; rfl
theorem nin_dic {h : Hs} {m : Nat} {kvs : List (L2.Key × D)} {s : Str} (hm : h[m]? = some (.dic kvs)) : cmpD .NotIn (.str s) (.ref m) h = .ok (.bl (!(getK kvs (Sum.inr s)).isSome)) h := by
  simp only [cmpD, cmpO, inD, hm]; rfl
theorem ix_dic {h : Hs} {m : Nat} {kvs : List (L2.Key × D)} {s : Str} {d : D} (hm : h[m]? = some (.dic kvs)) (hd : getK kvs (Sum.inr s) = some d) : ixD (.ref m) (.str s) h = .ok d h := by
  simp only [ixD, hm, hd]; rfl
theorem fin_ext {h h1 : Hs} {d : D} (e : h1.take h.length = h) (hd : d.lo h.length = true) : fin true h (.ok (.rt d) h1) = .ok d h := by
  simp only [fin, if_true, e]
  rw [if_pos hd]
theorem take_end {h t : Hs} : (h ++ t).take h.length = h := by simp
@[simp] theorem isi_int {t : String} {i : Int} {h : Hs} : isiD t (.int i) h = .ok (.bl (isiB "int" t)) h := rfl
@[simp] theorem isi_bl {t : String} {i : Bool} {h : Hs} : isiD t (.bl i) h = .ok (.bl (isiB "bool" t)) h := rfl
@[simp] theorem isi_non {t : String} {h : Hs} : isiD t .non h = .ok (.bl (isiB "NoneType" t)) h := rfl
@[simp] theorem isi_str {t : String} {i : Str} {h : Hs} : isiD t (.str i) h = .ok (.bl (isiB "str" t)) h := rfl
@[simp] theorem isi_tup {t : String} {i : List D} {h : Hs} : isiD t (.tup i) h = .ok (.bl (isiB "tuple" t)) h := rfl
@[simp] theorem isi_lst {t : String} {i : List D} {h : Hs} : isiD t (.lst i) h = .ok (.bl (isiB "list" t)) h := rfl
/-! ### while -/
section
variable {test : Sl → Hs → R D} {body : Sl → Hs → SR} {n : Nat} {sl sl2 : Sl} {h h1 h2 : Hs} {t : D}
theorem wh_t (e1 : test sl h = .ok t h1) (e2 : truth h1 t = some true) (e3 : body sl h1 = .ok (.nx sl2) h2) : whileD test body (n + 1) sl h = whileD test body n sl2 h2 := by
  simp only [whileD, e1, ev_st, e2, e3]
theorem wh_f (e1 : test sl h = .ok t h1) (e2 : truth h1 t = some false) : whileD test body (n + 1) sl h = .ok (.nx sl) h1 := by
  simp only [whileD, e1, ev_st, e2]
theorem wh_rt {d : D} (e1 : test sl h = .ok t h1) (e2 : truth h1 t = some true) (e3 : body sl h1 = .ok (.rt d) h2) : whileD test body (n + 1) sl h = .ok (.rt d) h2 := by
  simp only [whileD, e1, ev_st, e2, e3]
theorem wh_ex {x : Exn} (e1 : test sl h = .ok t h1) (e2 : truth h1 t = some true) (e3 : body sl h1 = .ex x sl2 h2) : whileD test body (n + 1) sl h = .ex x sl2 h2 := by
  simp only [whileD, e1, ev_st, e2, e3]
end
theorem at_left {h t : Hs} {m : Nat} {c : Cell} (e : h[m]? = some c) : (h ++ t)[m]? = some c := by
  rw [List.getElem?_append_left (List.getElem?_eq_some_iff.mp e).1]; exact e
theorem seq_ex {G : Glob} {Φ : Nat → List D → Hs → R D} {a b : S} {sl sl1 : Sl} {h h1 : Hs} {x : Exn} (e : evS G Φ a sl h = .ex x sl1 h1) : evS G Φ (.seq a b) sl h = .ex x sl1 h1 := by simp only [evS, e]
theorem hd_ex {G : Glob} {Φ : Nat → List D → Hs → R D} {b : S} {sl sl1 : Sl} {h h1 : Hs} {x : Exn} (hb : b = .seq b.hd b.tl) (e : evS G Φ b.hd sl h = .ex x sl1 h1) : evS G Φ b sl h = .ex x sl1 h1 := by rw [hb]; exact seq_ex e
theorem raise2_eval {G : Glob} {Φ : Nat → List D → Hs → R D} {c : Nat} {fa fb : Str} {args : E} {sl : Sl} {h h1 : Hs} {a b : D} (e : evE G Φ args sl h = .ok (.tup [a, b]) h1) : evS G Φ (.raise2 c fa fb args) sl h = .ex ⟨c, [(fb, b), (fa, a)]⟩ sl h1 := by simp only [evS, e, ev_st, raiseV]
theorem expr_eval {G : Glob} {Φ : Nat → List D → Hs → R D} {e : E} {sl : Sl} {h h1 : Hs} {d : D} (e1 : evE G Φ e sl h = .ok d h1) : evS G Φ (.expr e) sl h = .ok (.nx sl) h1 := by simp only [evS, e1, ev_st]
theorem asg_ex {G : Glob} {Φ : Nat → List D → Hs → R D} {tg : Tg} {e : E} {sl : Sl} {h h1 : Hs} {x : Exn} (e1 : evE G Φ e sl h = .ex x h1) : evS G Φ (.asg tg e) sl h = .ex x sl h1 := by simp only [evS, e1, ev_stx]
theorem for_eval {G : Glob} {Φ : Nat → List D → Hs → R D} {tg : Tg} {k : ItK} {src : E} {b : S} {sl : Sl} {h h1 : Hs} {v : D} {items : List D} (e1 : evE G Φ src sl h = .ok v h1) (e2 : itemsOf k v h1 = some items) : evS G Φ (.for tg k src b) sl h = forD (fun h2 => decide (itemsOf k v h2 = some items)) (fun x sl1 => setTg tg [x] sl1) (evS G Φ b) items sl h1 := by
  simp only [evS, e1, ev_st, e2]
section
variable {still : Hs → Bool} {bindT : D → Sl → Option Sl} {body : Sl → Hs → SR} {x : D} {xs : List D} {sl sl1 sl2 : Sl} {h h1 : Hs}
theorem for_nil (hs : still h = true) : forD still bindT body [] sl h = .ok (.nx sl) h := by simp only [forD, hs, if_true]
theorem for_t (hs : still h = true) (hb : bindT x sl = some sl1) (e : body sl1 h = .ok (.nx sl2) h1) : forD still bindT body (x :: xs) sl h = forD still bindT body xs sl2 h1 := by simp only [forD, hs, if_true, hb, e]
theorem for_r {d : D} (hs : still h = true) (hb : bindT x sl = some sl1) (e : body sl1 h = .ok (.rt d) h1) : forD still bindT body (x :: xs) sl h = .ok (.rt d) h1 := by simp only [forD, hs, if_true, hb, e]
theorem for_x {z : Exn} (hs : still h = true) (hb : bindT x sl = some sl1) (e : body sl1 h = .ex z sl2 h1) : forD still bindT body (x :: xs) sl h = .ex z sl2 h1 := by simp only [forD, hs, if_true, hb, e]
end
theorem meth_eval {G : Glob} {Φ : Nat → List D → Hs → R D} {m : Mt} {o a : E} {sl : Sl} {h h1 h2 : Hs} {x : D} {ys : List D} (e1 : evE G Φ o sl h = .ok x h1) (t : tyOf h1 x = some (mtTy m)) (e2 : evE G Φ a sl h1 = .ok (.tup ys) h2) : evE G Φ (.meth m o a) sl h = mtD m x ys h2 := by
  simp only [evE, e1, ev_bind, t, if_true, e2]
theorem ix_eval {G : Glob} {Φ : Nat → List D → Hs → R D} {a b : E} {sl : Sl} {h h1 h2 : Hs} {x y : D} (e1 : evE G Φ a sl h = .ok x h1) (e2 : evE G Φ b sl h1 = .ok y h2) : evE G Φ (.ix a b) sl h = ixD x y h2 := by
  simp only [evE, e1, e2, ev_bind]
theorem lst_eval {G : Glob} {Φ : Nat → List D → Hs → R D} {a : E} {c : Bool} {sl : Sl} {h h1 : Hs} {xs : List D} (e1 : evE G Φ a sl h = .ok (.tup xs) h1) : evE G Φ (.lst c a) sl h = mkL c xs h1 := by
  simp only [evE, e1, ev_bind]
end DI

/-! ### the text's IR (printed by ir.py) -/
namespace Pr
open PySem L2 DI
/-- _law_draws -/
def n0 : List Str := ["script"]
def b0 : S :=
 (.seq (.ret (.lst true (.cons (.bi (.list false) (.cons (.var 0) .nil)) (.cons (.kI 0) (.cons (.kI 0) (.cons (.kI 1) .nil))))))
 .nop)
def f0 : Fn := ⟨n0, 1, b0, false⟩
/-- _law_same -/
def n1 : List Str := ["actual", "expected", "k"]
def b1 : S :=
 (.seq (.ite (.or (.isi "tuple" (.var 1)) (.isi "list" (.var 1)))
  (.seq (.ite (.or (.cmp .NotEq (.isi "tuple" (.var 1)) (.isi "tuple" (.var 0))) (.cmp .NotEq (.isi "list" (.var 1)) (.isi "list" (.var 0))))
    (.seq (.ret (.kB false))
     .nop)
    .nop)
   (.seq (.ite (.cmp .NotEq (.bi .len (.cons (.var 0) .nil)) (.bi .len (.cons (.var 1) .nil)))
    (.seq (.ret (.kB false))
     .nop)
    .nop)
   (.seq (.ret (.cmp .Eq (.bi .len (.cons (.lc false [2] (.nm 2) .range1 (.cons (.bi .len (.cons (.var 1) .nil)) .nil) (.not (.call 1 (.cons (.ix (.var 0) (.var 2)) (.cons (.ix (.var 1) (.var 2)) .nil)))) (.var 2)) .nil)) (.kI 0)))
   .nop)))
  .nop)
 (.seq (.ite (.isi "str" (.var 1))
  (.seq (.ret (.and (.isi "str" (.var 0)) (.cmp .Eq (.var 0) (.var 1))))
   .nop)
  .nop)
 (.seq (.ite (.cmp .Is (.var 1) .kN)
  (.seq (.ret (.cmp .Is (.var 0) .kN))
   .nop)
  .nop)
 (.seq (.ite (.or (.isi "bool" (.var 1)) (.isi "bool" (.var 0)))
  (.seq (.ret (.and (.isi "bool" (.var 1)) (.and (.isi "bool" (.var 0)) (.cmp .Eq (.var 0) (.var 1)))))
   .nop)
  .nop)
 (.seq (.ret (.and (.isi "int" (.var 0)) (.and (.isi "int" (.var 1)) (.cmp .Eq (.var 0) (.var 1)))))
 .nop)))))
def f1 : Fn := ⟨n1, 2, b1, true⟩
/-- _law_draw -/
def n2 : List Str := ["draws", "limit", "cell", "value"]
def b2 : S :=
 (.seq (.ite (.and (.cmp .Eq (.ix (.var 0) (.kI 2)) (.kI 0)) (.cmp .Lt (.ix (.var 0) (.kI 1)) (.bi .len (.cons (.ix (.var 0) (.kI 0)) .nil))))
  (.seq (.asg (.nm 2) (.ix (.ix (.var 0) (.kI 0)) (.ix (.var 0) (.kI 1))))
   (.seq (.setIx (.var 0) (.kI 1) (.bin false .Add (.ix (.var 0) (.kI 1)) (.kI 1)))
   (.seq (.ite (.cmp .GtE (.var 2) (.bin false .Pow (.kI 10) (.kI 18)))
    (.seq (.setIx (.var 0) (.kI 2) (.var 2))
     .nop)
    .nop)
   (.seq (.setIx (.var 0) (.kI 3) (.bin false .Mod (.bi .int (.cons (.bin false .Add (.bin false .Add (.bin false .Mult (.ix (.var 0) (.kI 3)) (.kI 48271)) (.var 2)) (.kI 13)) .nil)) (.kI 2147483647)))
   .nop))))
  .nop)
 (.seq (.ite (.cmp .Gt (.ix (.var 0) (.kI 2)) (.kI 0))
  (.seq (.asg (.nm 3) (.bin false .Mod (.bi .int (.cons (.ix (.var 0) (.kI 2)) .nil)) (.var 1)))
   (.seq (.setIx (.var 0) (.kI 2) (.bin false .FloorDiv (.ix (.var 0) (.kI 2)) (.var 1)))
   (.seq (.ret (.var 3))
   .nop)))
  .nop)
 (.seq (.setIx (.var 0) (.kI 3) (.bin false .Mod (.bi .int (.cons (.bin false .Add (.bin false .Mult (.ix (.var 0) (.kI 3)) (.kI 69621)) (.kI 7)) .nil)) (.kI 2147483629)))
 (.seq (.ret (.bin false .Mod (.bi .int (.cons (.bin false .FloorDiv (.ix (.var 0) (.kI 3)) (.kI 11)) .nil)) (.var 1)))
 .nop))))
def f2 : Fn := ⟨n2, 2, b2, false⟩
/-- is_name -/
def n3 : List Str := ["value", "sign"]
def b3 : S :=
 (.seq (.ite (.or (.not (.isi "str" (.var 0))) (.not (.chain .Lt .LtE (.kI 0) (.bi .len (.cons (.var 0) .nil)) (.kI 12))))
  (.seq (.ret (.kB false))
   .nop)
  .nop)
 (.seq (.ret (.and (.bi .all (.cons (.lc false [1] (.nm 1) .seq (.var 0) (.kB true) (.cmp .In (.var 1) (.glob "SMALL"))) .nil)) (.cmp .NotIn (.var 0) (.glob "KEYS"))))
 .nop))
def f3 : Fn := ⟨n3, 1, b3, true⟩
/-- word_at -/
def n4 : List Str := ["text", "at", "line", "signs", "most", "told", "end"]
def b4 : S :=
 (.seq (.for (.tup (.cons (.nm 3) (.cons (.nm 4) (.cons (.nm 5) .nil)))) .seq (.tup (.cons (.tup (.cons (.glob "SMALL") (.cons (.kI 12) (.cons (.kS "name") .nil)))) (.cons (.tup (.cons (.glob "FIGURES") (.cons (.kI 10) (.cons (.kS "number") .nil)))) .nil)))
  (.seq (.ite (.cmp .In (.ix (.var 0) (.var 1)) (.var 3))
    (.seq (.asg (.nm 6) (.var 1))
     (.seq (.while (.and (.cmp .Lt (.var 6) (.bi .len (.cons (.var 0) .nil))) (.cmp .In (.ix (.var 0) (.var 6)) (.var 3)))
      (.seq (.aug 6 .Add (.kI 1))
       .nop))
     (.seq (.ite (.cmp .Gt (.bin false .Sub (.var 6) (.var 1)) (.var 4))
      (.seq (.raise2 1 "line" "word" (.cons (.var 2) (.cons (.var 5) .nil)))
       .nop)
      .nop)
     (.seq (.ret (.slice false (.var 0) (.var 1) (.var 6)))
     .nop))))
    .nop)
   .nop))
 (.seq (.ite (.cmp .In (.slice false (.var 0) (.var 1) (.bin false .Add (.var 1) (.kI 2))) (.glob "DOUBLE"))
  (.seq (.ret (.slice false (.var 0) (.var 1) (.bin false .Add (.var 1) (.kI 2))))
   .nop)
  .nop)
 (.seq (.ite (.cmp .NotIn (.ix (.var 0) (.var 1)) (.glob "SINGLE"))
  (.seq (.raise2 1 "line" "word" (.cons (.var 2) (.cons (.kS "sign") .nil)))
   .nop)
  .nop)
 (.seq (.ret (.ix (.var 0) (.var 1)))
 .nop))))
def f4 : Fn := ⟨n4, 3, b4, true⟩
/-- tokens_of -/
def n5 : List Str := ["text", "found", "at", "line", "sign", "word"]
def b5 : S :=
 (.seq (.ite (.not (.isi "str" (.var 0)))
  (.seq (.raise2 1 "line" "word" (.cons (.kI 0) (.cons (.kS "text") .nil)))
   .nop)
  .nop)
 (.seq (.asg (.tup (.cons (.nm 1) (.cons (.nm 2) (.cons (.nm 3) .nil)))) (.tup (.cons (.lst true .nil) (.cons (.kI 0) (.cons (.kI 1) .nil)))))
 (.seq (.while (.cmp .Lt (.var 2) (.bi .len (.cons (.var 0) .nil)))
  (.seq (.asg (.nm 4) (.ix (.var 0) (.var 2)))
   (.seq (.ite (.cmp .Eq (.var 4) (.kS "\n"))
    (.seq (.aug 3 .Add (.kI 1))
     (.seq (.aug 2 .Add (.kI 1))
     .nop))
    (.seq (.ite (.cmp .Eq (.var 4) (.kS " "))
      (.seq (.aug 2 .Add (.kI 1))
       .nop)
      (.seq (.ite (.cmp .Eq (.slice false (.var 0) (.var 2) (.bin false .Add (.var 2) (.kI 2))) (.kS "//"))
        (.seq (.while (.and (.cmp .Lt (.var 2) (.bi .len (.cons (.var 0) .nil))) (.cmp .NotEq (.ix (.var 0) (.var 2)) (.kS "\n")))
          (.seq (.aug 2 .Add (.kI 1))
           .nop))
         .nop)
        (.seq (.asg (.nm 5) (.call 4 (.cons (.var 0) (.cons (.var 2) (.cons (.var 3) .nil)))))
         (.seq (.expr (.meth .append (.var 1) (.cons (.tup (.cons (.var 5) (.cons (.var 3) .nil))) .nil)))
         (.seq (.aug 2 .Add (.bi .len (.cons (.var 5) .nil)))
         (.seq (.ite (.cmp .Gt (.bi .len (.cons (.var 1) .nil)) (.glob "MOST_TOKENS"))
          (.seq (.raise2 1 "line" "word" (.cons (.var 3) (.cons (.kS "many") .nil)))
           .nop)
          .nop)
         .nop)))))
       .nop))
     .nop))
   .nop)))
 (.seq (.ret (.bi .tuple (.cons (.var 1) .nil)))
 .nop))))
def f5 : Fn := ⟨n5, 1, b5, true⟩
/-- _law_asked -/
def n6 : List Str := ["text", "e"]
def b6 : S :=
 (.seq (.tryR (.seq (.ret (.call 5 (.cons (.var 0) .nil)))
   .nop) 0 1 1 "line" "word")
 .nop)
def f6 : Fn := ⟨n6, 1, b6, true⟩
/-- _law_tokens -/
def n7 : List Str := ["text", "double", "turn", "found", "at", "line", "sign", "rest", "same", "end", "k", "one"]
def b7 : S :=
 (.seq (.asg (.tup (.cons (.nm 3) (.cons (.nm 4) (.cons (.nm 5) .nil)))) (.tup (.cons (.lst true .nil) (.cons (.kI 0) (.cons (.kI 1) .nil)))))
 (.seq (.asg (.nm 1) (.lst false (.cons (.kS "==") (.cons (.kS "!=") (.cons (.kS "<=") (.cons (.kS ">=") (.cons (.kS "&&") (.cons (.kS "||") (.cons (.kS "<<") (.cons (.kS ">>") .nil))))))))))
 (.seq (.for (.nm 2) .range1 (.cons (.bi .len (.cons (.var 0) .nil)) .nil)
  (.seq (.ite (.cmp .Lt (.var 4) (.bi .len (.cons (.var 0) .nil)))
    (.seq (.asg (.nm 6) (.ix (.var 0) (.var 4)))
     (.seq (.ite (.or (.cmp .Eq (.var 6) (.kS "\n")) (.cmp .Eq (.var 6) (.kS " ")))
      (.seq (.asg (.tup (.cons (.nm 5) (.cons (.nm 4) .nil))) (.tup (.cons (.bin false .Add (.var 5) (.bi .int (.cons (.cmp .Eq (.var 6) (.kS "\n")) .nil))) (.cons (.bin false .Add (.var 4) (.kI 1)) .nil))))
       .nop)
      (.seq (.ite (.cmp .Eq (.slice false (.var 0) (.var 4) (.bin false .Add (.var 4) (.kI 2))) (.kS "//"))
        (.seq (.asg (.nm 7) (.ix (.meth .split (.slice false (.var 0) (.var 4) .kN) (.cons (.kS "\n") .nil)) (.kI 0)))
         (.seq (.asg (.nm 4) (.bin false .Add (.var 4) (.bi .len (.cons (.var 7) .nil))))
         .nop))
        (.seq (.ite (.cmp .In (.var 6) (.kS "abcdefghijklmnopqrstuvwxyz0123456789"))
          (.seq (.asg (.nm 8) (.ite (.cmp .In (.var 6) (.kS "0123456789")) (.kS "0123456789") (.kS "abcdefghijklmnopqrstuvwxyz")))
           (.seq (.asg (.nm 9) (.bi .len (.cons (.lc false [10] (.nm 10) .range2 (.cons (.var 4) (.cons (.bi .len (.cons (.var 0) .nil)) .nil)) (.bi .all (.cons (.lc false [11] (.nm 11) .seq (.slice false (.var 0) (.var 4) (.bin false .Add (.var 10) (.kI 1))) (.kB true) (.cmp .In (.var 11) (.var 8))) .nil)) (.var 10)) .nil)))
           (.seq (.ite (.cmp .Gt (.var 9) (.ite (.cmp .In (.var 6) (.kS "0123456789")) (.kI 10) (.kI 12)))
            (.seq (.ret (.lst false (.cons (.var 5) (.cons (.ite (.cmp .In (.var 6) (.kS "0123456789")) (.kS "number") (.kS "name")) .nil))))
             .nop)
            .nop)
           (.seq (.expr (.meth .append (.var 3) (.cons (.tup (.cons (.slice false (.var 0) (.var 4) (.bin false .Add (.var 4) (.var 9))) (.cons (.var 5) .nil))) .nil)))
           (.seq (.asg (.nm 4) (.bin false .Add (.var 4) (.var 9)))
           .nop)))))
          (.seq (.ite (.cmp .In (.slice false (.var 0) (.var 4) (.bin false .Add (.var 4) (.kI 2))) (.var 1))
            (.seq (.expr (.meth .append (.var 3) (.cons (.tup (.cons (.slice false (.var 0) (.var 4) (.bin false .Add (.var 4) (.kI 2))) (.cons (.var 5) .nil))) .nil)))
             (.seq (.asg (.nm 4) (.bin false .Add (.var 4) (.kI 2)))
             .nop))
            (.seq (.ite (.cmp .In (.var 6) (.kS "+-*/&|^<>=!(){}[];,."))
              (.seq (.expr (.meth .append (.var 3) (.cons (.tup (.cons (.var 6) (.cons (.var 5) .nil))) .nil)))
               (.seq (.asg (.nm 4) (.bin false .Add (.var 4) (.kI 1)))
               .nop))
              (.seq (.ret (.lst false (.cons (.var 5) (.cons (.kS "sign") .nil))))
               .nop))
             .nop))
           .nop))
         .nop))
       .nop))
     .nop))
    .nop)
   .nop))
 (.seq (.ret (.bi .tuple (.cons (.var 3) .nil)))
 .nop))))
def f7 : Fn := ⟨n7, 1, b7, true⟩
/-- law -/
def n8 : List Str := ["script", "draws", "words", "turn", "names", "long", "text", "k", "again", "at", "one"]
def b8 : S :=
 (.seq (.asg (.nm 1) (.call 0 (.cons (.var 0) .nil)))
 (.seq (.asg (.nm 2) (.lst false (.cons (.kS "if") (.cons (.kS "x") (.cons (.kS "while") (.cons (.kS "abcdefghijkl") (.cons (.kS "0") (.cons (.kS "1234567890") (.cons (.kS "=") (.cons (.kS "==") (.cons (.kS "<") (.cons (.kS "<<") (.cons (.kS "<=") (.cons (.kS "!") (.cons (.kS "&&") (.cons (.kS "&") (.cons (.kS "||") (.cons (.kS "|") (.cons (.kS "(") (.cons (.kS ")") (.cons (.kS "{") (.cons (.kS "}") (.cons (.kS ";") (.cons (.kS ".") (.cons (.kS ",") (.cons (.kS "-") (.cons (.kS ">") (.cons (.kS ">>") (.cons (.kS "^") .nil)))))))))))))))))))))))))))))
 (.seq (.asg (.nm 2) (.bin false .Add (.var 2) (.lst false (.cons (.kS "[") (.cons (.kS "]") (.cons (.kS "+") (.cons (.kS "*") (.cons (.kS "/") (.cons (.kS "mod") .nil)))))))))
 (.seq (.for (.nm 3) .range1 (.cons (.kI 8) .nil)
  (.seq (.asg (.nm 6) (.kS ""))
   (.seq (.for (.nm 7) .range1 (.cons (.call 2 (.cons (.var 1) (.cons (.kI 14) .nil))) .nil)
    (.seq (.asg (.nm 6) (.bin false .Add (.bin false .Add (.var 6) (.ix (.var 2) (.call 2 (.cons (.var 1) (.cons (.bi .len (.cons (.var 2) .nil)) .nil))))) (.ix (.lst false (.cons (.kS "") (.cons (.kS " ") (.cons (.kS "\n") (.cons (.kS "  ") (.cons (.kS " // x = @ 1\n") (.cons (.kS "//") .nil))))))) (.call 2 (.cons (.var 1) (.cons (.kI 6) .nil))))))
     .nop))
   (.seq (.ite (.cmp .Eq (.call 2 (.cons (.var 1) (.cons (.kI 3) .nil))) (.kI 0))
    (.seq (.asg (.nm 9) (.call 2 (.cons (.var 1) (.cons (.bin false .Add (.bi .len (.cons (.var 6) .nil)) (.kI 1)) .nil))))
     (.seq (.asg (.nm 6) (.bin false .Add (.bin false .Add (.slice false (.var 6) .kN (.var 9)) (.ix (.lst false (.cons (.kS "@") (.cons (.kS "A") (.cons (.kS "abcdefghijklm") (.cons (.kS "12345678901") (.cons (.kS "_") (.cons (.kS "~") .nil))))))) (.call 2 (.cons (.var 1) (.cons (.kI 6) .nil))))) (.slice false (.var 6) (.var 9) .kN)))
     .nop))
    .nop)
   (.seq (.for (.nm 8) .range1 (.cons (.kI 2) .nil)
    (.seq (.ite (.not (.call 1 (.cons (.call 6 (.cons (.var 6) .nil)) (.cons (.call 7 (.cons (.var 6) .nil)) .nil))))
      (.seq (.ret (.kB false))
       .nop)
      .nop)
     .nop))
   .nop)))))
 (.seq (.asg (.nm 4) (.lst false (.cons (.kS "x") (.cons (.kS "abcdefghijkl") (.cons (.kS "abcdefghijklm") (.cons (.kS "") (.cons (.kS "X") (.cons (.kS "x1") (.cons (.kS "if") (.cons (.kS "int") (.cons (.kS "self") (.cons (.kS "main") (.cons (.kS "any") (.cons (.kS "mod") (.cons (.kS "text") (.cons .kN (.cons (.kI 5) (.cons (.tup (.cons (.kS "x") .nil)) .nil))))))))))))))))))
 (.seq (.ite (.cmp .NotEq (.lc false [10] (.nm 10) .seq (.var 4) (.kB true) (.call 3 (.cons (.var 10) .nil))) (.lst false (.cons (.kB true) (.cons (.kB true) (.cons (.kB false) (.cons (.kB false) (.cons (.kB false) (.cons (.kB false) (.cons (.kB false) (.cons (.kB false) (.cons (.kB true) (.cons (.kB true) (.cons (.kB false) (.cons (.kB false) (.cons (.kB true) (.cons (.kB false) (.cons (.kB false) (.cons (.kB false) .nil))))))))))))))))))
  (.seq (.ret (.kB false))
   .nop)
  .nop)
 (.seq (.asg (.nm 5) (.bin false .Mult (.kS "x ") (.kI 3000)))
 (.seq (.ret (.and (.cmp .Eq (.bi .len (.cons (.call 6 (.cons (.var 5) .nil)) .nil)) (.kI 3000)) (.call 1 (.cons (.lst false (.cons (.call 6 (.cons (.bin false .Add (.var 5) (.kS "\nx")) .nil)) (.cons (.call 6 (.cons (.ix (.lst false (.cons .kN (.cons (.kI 5) (.cons (.lst false (.cons (.kS "x") .nil)) .nil)))) (.call 2 (.cons (.var 1) (.cons (.kI 3) .nil)))) .nil)) .nil))) (.cons (.lst false (.cons (.lst false (.cons (.kI 2) (.cons (.kS "many") .nil))) (.cons (.lst false (.cons (.kI 0) (.cons (.kS "text") .nil))) .nil))) .nil)))))
 .nop))))))))
def f8 : Fn := ⟨n8, 1, b8, false⟩
def tabL : List Fn := [f0, f1, f2, f3, f4, f5, f6, f7, f8]
def T (i : Nat) : Option Fn := tabL[i]?
def fnL : List (Str × Nat) := [("_law_draws", 0), ("_law_same", 1), ("_law_draw", 2), ("is_name", 3), ("word_at", 4), ("tokens_of", 5), ("_law_asked", 6), ("_law_tokens", 7), ("law", 8)]
def bltL : List Str := ["all", "bool", "int", "isinstance", "len", "list", "range", "str", "tuple"]
def clsL : List (Str × Nat) := [("RoadError", 0)]
def clfL : List (Str × (Nat × Str × Str)) := [("BadText", (1, "line", "word"))]
def conL : List (Str × D) := [("SMALL", (.str "abcdefghijklmnopqrstuvwxyz")), ("FIGURES", (.str "0123456789")), ("DOUBLE", (.tup [(.str "=="), (.str "!="), (.str "<="), (.str ">="), (.str "&&"), (.str "||"), (.str "<<"), (.str ">>")])), ("SINGLE", (.str "+-*/&|^<>=!(){}[];,.")), ("KEYS", (.tup [(.str "class"), (.str "of"), (.str "unit"), (.str "void"), (.str "int"), (.str "ints"), (.str "refs"), (.str "any"), (.str "let"), (.str "if"), (.str "else"), (.str "while"), (.str "return"), (.str "tell"), (.str "throw"), (.str "try"), (.str "catch"), (.str "bring"), (.str "null"), (.str "new"), (.str "ask"), (.str "size"), (.str "is"), (.str "as"), (.str "mod"), (.str "same")])), ("MOST_TOKENS", (.int (3000)))]
def G : Glob := { const := fun x => conL.lookup x, sub := fun c d => if c = 0 ∧ d = 0 then some true else if c = 1 ∧ d = 0 then some true else none }
/-! ### that it stands for the text -/
def top (i : Nat) : Stmt := PySem.Challenge.pw_warmroads_k18_whole_words_of_the_languag.main.body.getD i (.Pass ⟨0, 0, 0, 0⟩)
def Γ : Gn := { fn := fun x => fnL.lookup x, ar := fun i => ((tabL[i]?).map (·.arity)).getD 0, cls := fun x => clsL.lookup x, blt := fun x => bltL.contains x, clf := fun x => clfL.lookup x }
theorem c0 : chkB Γ n0 b0 (defScope (top 14)) true (defBody (top 14)) = true := by decide +kernel
theorem c1 : chkB Γ n1 b1 (defScope (top 16)) true (defBody (top 16)) = true := by decide +kernel
theorem c2 : chkB Γ n2 b2 (defScope (top 15)) true (defBody (top 15)) = true := by decide +kernel
theorem c3 : chkB Γ n3 b3 (defScope (top 10)) true (defBody (top 10)) = true := by decide +kernel
theorem c4 : chkB Γ n4 b4 (defScope (top 12)) true (defBody (top 12)) = true := by decide +kernel
theorem c5 : chkB Γ n5 b5 (defScope (top 11)) true (defBody (top 11)) = true := by decide +kernel
theorem c6 : chkB Γ n6 b6 (defScope (top 18)) true (defBody (top 18)) = true := by decide +kernel
theorem c7 : chkB Γ n7 b7 (defScope (top 17)) true (defBody (top 17)) = true := by decide +kernel
theorem c8 : chkB Γ n8 b8 (defScope (top 19)) true (defBody (top 19)) = true := by decide +kernel
theorem s0 : FnScope n0 f0.ps (defScope (top 14)) := ⟨rfl, rfl, rfl, by decide +kernel, by decide +kernel, by decide +kernel, by decide +kernel⟩
theorem s1 : FnScope n1 f1.ps (defScope (top 16)) := ⟨rfl, rfl, rfl, by decide +kernel, by decide +kernel, by decide +kernel, by decide +kernel⟩
theorem s2 : FnScope n2 f2.ps (defScope (top 15)) := ⟨rfl, rfl, rfl, by decide +kernel, by decide +kernel, by decide +kernel, by decide +kernel⟩
theorem s3 : FnScope n3 f3.ps (defScope (top 10)) := ⟨rfl, rfl, rfl, by decide +kernel, by decide +kernel, by decide +kernel, by decide +kernel⟩
theorem s4 : FnScope n4 f4.ps (defScope (top 12)) := ⟨rfl, rfl, rfl, by decide +kernel, by decide +kernel, by decide +kernel, by decide +kernel⟩
theorem s5 : FnScope n5 f5.ps (defScope (top 11)) := ⟨rfl, rfl, rfl, by decide +kernel, by decide +kernel, by decide +kernel, by decide +kernel⟩
theorem s6 : FnScope n6 f6.ps (defScope (top 18)) := ⟨rfl, rfl, rfl, by decide +kernel, by decide +kernel, by decide +kernel, by decide +kernel⟩
theorem s7 : FnScope n7 f7.ps (defScope (top 17)) := ⟨rfl, rfl, rfl, by decide +kernel, by decide +kernel, by decide +kernel, by decide +kernel⟩
theorem s8 : FnScope n8 f8.ps (defScope (top 19)) := ⟨rfl, rfl, rfl, by decide +kernel, by decide +kernel, by decide +kernel, by decide +kernel⟩
end Pr

namespace Pr
open PySem L2 DI
def drw (xs : List Int) (p c s : Int) : Cell := .lst [.lst (xs.map .int), .int p, .int c, .int s]
theorem draws_eq (k : Nat) (xs : List Int) (h : Hs) (hl : xs.length ≤ lim) : Phi G T (k + 1) 0 [.fro (xs.map .int)] h = .ok (.ref h.length) (h ++ [drw xs 0 0 1]) := by
  rw [call_ok (fn := f0) rfl rfl]
  have h4 : 4 ≤ lim := by decide
  simp [f0, b0, n0, startD, evS, evE, biD, biList, seqOf, mkL, hl, drw, fin_imp, h4]
section
variable {h : Hs} {m : Nat} {xs : List Int} {p c s : Int}
theorem ixd0 (hm : h[m]? = some (drw xs p c s)) : ixD (.ref m) (.int 0) h = .ok (.lst (xs.map .int)) h := ix_ref (k := 0) hm rfl
theorem ixd1 (hm : h[m]? = some (drw xs p c s)) : ixD (.ref m) (.int 1) h = .ok (.int p) h := ix_ref (k := 1) hm rfl
theorem ixd2 (hm : h[m]? = some (drw xs p c s)) : ixD (.ref m) (.int 2) h = .ok (.int c) h := ix_ref (k := 2) hm rfl
theorem ixd3 (hm : h[m]? = some (drw xs p c s)) : ixD (.ref m) (.int 3) h = .ok (.int s) h := ix_ref (k := 3) hm rfl
theorem sxd1 (hm : h[m]? = some (drw xs p c s)) (v : Int) : setIxD (.ref m) (.int 1) (.int v) h = some (h.set m (drw xs v c s)) := setIx_ref (k := 1) hm (by simp)
theorem sxd2 (hm : h[m]? = some (drw xs p c s)) (v : Int) : setIxD (.ref m) (.int 2) (.int v) h = some (h.set m (drw xs p v s)) := setIx_ref (k := 2) hm (by simp)
theorem sxd3 (hm : h[m]? = some (drw xs p c s)) (v : Int) : setIxD (.ref m) (.int 3) (.int v) h = some (h.set m (drw xs p c v)) := setIx_ref (k := 3) hm (by simp)
theorem set_at (hm : h[m]? = some (drw xs p c s)) (x : Cell) : (h.set m x)[m]? = some x := List.getElem?_set_self (List.getElem?_eq_some_iff.mp hm).1
theorem pow18 {h : Hs} : binD false .Pow (.int 10) (.int 18) h = .ok (.int 1000000000000000000) h := by
  show R.ofO ((binI .Pow 10 18).map D.int) h = _
  rfl
/-- the second half of a draw -/
theorem draw_two {Φ : Nat → List D → Hs → R D} (hm : h[m]? = some (drw xs p c s)) {L : Int} (hL : 0 < L) (hL2 : L < 2 ^ 64) (d2 d3 : Option D) : ∃ v c' s', 0 ≤ v ∧ v < L ∧
    evS G Φ b2.tl [some (.ref m), some (.int L), d2, d3] h = .ok (.rt (.int v)) (h.set m (drw xs p c' s')) := by
  by_cases hc : 0 < c
  · refine ⟨c % L, c / L, s, Int.emod_nonneg _ (by omega), Int.emod_lt_of_pos _ hL, ?_⟩
    simp [b2, S.tl, evS, evE, ixd2 hm, hc, biD, biInt, bin_mod hL, bin_fdiv hL (log2_small hL hL2), sxd2 hm]
  · refine ⟨((s * 69621 + 7) % 2147483629 / 11) % L, c, (s * 69621 + 7) % 2147483629, Int.emod_nonneg _ (by omega), Int.emod_lt_of_pos _ hL, ?_⟩
    have e1 := set_at hm (drw xs p c ((s * 69621 + 7) % 2147483629))
    have m1 : ∀ {h : Hs}, binD false .Mult (.int s) (.int 69621) h = .ok (.int (s * 69621)) h := bin_mul (.inr (by decide))
    have m2 : ∀ {h : Hs} {i : Int}, binD false .FloorDiv (.int i) (.int 11) h = .ok (.int (i / 11)) h := bin_fdiv (by decide) (by decide)
    have m3 : ∀ {h : Hs} {i : Int}, binD false .Mod (.int i) (.int 2147483629) h = .ok (.int (i % 2147483629)) h := bin_mod (by decide)
    simp [b2, S.tl, evS, evE, ixd2 hm, hc, biD, biInt, ixd3 hm, m1, m2, m3, sxd3 hm, ixd3 e1, bin_mod hL]
theorem draw_eq {k : Nat} (hm : h[m]? = some (drw xs p c s)) (hp : 0 ≤ p) {L : Int} (hL : 0 < L) (hL2 : L < 2 ^ 64) : ∃ v p' c' s', 0 ≤ p' ∧ 0 ≤ v ∧ v < L ∧ Phi G T (k + 1) 2 [.ref m, .int L] h = .ok (.int v) (h.set m (drw xs p' c' s')) := by
  rw [call_ok (fn := f2) rfl rfl]
  show ∃ v p' c' s', 0 ≤ p' ∧ 0 ≤ v ∧ v < L ∧ fin false h (evS G (Phi G T k) b2 [some (.ref m), some (.int L), none, none] h) = _
  by_cases hc : c = 0 ∧ p < xs.length
  · obtain ⟨rfl, hlt⟩ := hc
    obtain ⟨q, rfl⟩ := Int.eq_ofNat_of_zero_le hp
    have hq : q < xs.length := by exact_mod_cast hlt
    have ex : ∀ {h : Hs}, ixD (.lst (xs.map .int)) (.int q) h = .ok (.int xs[q]) h := ix_lst (by simp [hq])
    have m1 : ∀ {h : Hs}, binD false .Mult (.int s) (.int 48271) h = .ok (.int (s * 48271)) h := bin_mul (.inr (by decide))
    have m3 : ∀ {h : Hs} {i : Int}, binD false .Mod (.int i) (.int 2147483647) h = .ok (.int (i % 2147483647)) h := bin_mod (by decide)
    have e1 := set_at hm (drw xs (q + 1) 0 s)
    have e2 := set_at hm (drw xs (q + 1) xs[q] s)
    by_cases h18 : (1000000000000000000 : Int) ≤ xs[q]
    · have e3 := set_at hm (drw xs (q + 1) xs[q] ((s * 48271 + xs[q] + 13) % 2147483647))
      obtain ⟨v, c', s', h1, h2, h3⟩ := draw_two (Φ := Phi G T k) e3 hL hL2 (some (.int xs[q])) none
      refine ⟨v, q + 1, c', s', by omega, h1, h2, ?_⟩
      rw [hd_nx (b := b2) rfl (sl1 := [some (.ref m), some (.int L), some (.int xs[q]), none]) (h1 := h.set m (drw xs (q + 1) xs[q] ((s * 48271 + xs[q] + 13) % 2147483647))), h3, fin_imp]
      · simp
      · simp [b2, S.hd, evS, evE, ixd2 hm, ixd1 hm, ixd0 hm, ex, biD, biLen, seqOf, hq, sxd1 hm, pow18, h18, sxd2 e1, biInt, ixd3 e2, m1, m3, sxd3 e2]
    · have e3 := set_at hm (drw xs (q + 1) 0 ((s * 48271 + xs[q] + 13) % 2147483647))
      obtain ⟨v, c', s', h1, h2, h3⟩ := draw_two (Φ := Phi G T k) e3 hL hL2 (some (.int xs[q])) none
      refine ⟨v, q + 1, c', s', by omega, h1, h2, ?_⟩
      rw [hd_nx (b := b2) rfl (sl1 := [some (.ref m), some (.int L), some (.int xs[q]), none]) (h1 := h.set m (drw xs (q + 1) 0 ((s * 48271 + xs[q] + 13) % 2147483647))), h3, fin_imp]
      · simp
      · simp [b2, S.hd, evS, evE, ixd2 hm, ixd1 hm, ixd0 hm, ex, biD, biLen, seqOf, hq, sxd1 hm, pow18, h18, biInt, ixd3 e1, m1, m3, sxd3 e1]
  · obtain ⟨v, c', s', h1, h2, h3⟩ := draw_two (Φ := Phi G T k) hm hL hL2 none none
    refine ⟨v, p, c', s', hp, h1, h2, ?_⟩
    rw [hd_nx (b := b2) rfl (sl1 := [some (.ref m), some (.int L), none, none]) (h1 := h), h3, fin_imp]
    by_cases hc0 : c = 0
    · have hlt : ¬ p < xs.length := fun z => hc ⟨hc0, z⟩
      simp [b2, S.hd, evS, evE, ixd2 hm, ixd1 hm, ixd0 hm, hc0, biD, biLen, seqOf, hlt]
    · simp [b2, S.hd, evS, evE, ixd2 hm, hc0]
end
def Dr (xs : List Int) (h : Hs) : Prop := ∃ p c s, 0 ≤ p ∧ h = [drw xs p c s]
theorem drawS {k : Nat} {xs : List Int} {h : Hs} (hd : Dr xs h) {L : Int} (hL : 0 < L) (hL2 : L < 2 ^ 64) : ∃ v h', Dr xs h' ∧ 0 ≤ v ∧ v < L ∧ Phi G T (k + 1) 2 [.ref 0, .int L] h = .ok (.int v) h' := by
  obtain ⟨p, c, s, hp, rfl⟩ := hd
  obtain ⟨v, p', c', s', h1, h2, h3, h4⟩ := draw_eq (k := k) (m := 0) (h := [drw xs p c s]) rfl hp hL hL2
  exact ⟨v, _, ⟨p', c', s', h1, rfl⟩, h2, h3, h4⟩
/-! ### texts by their code points -/
abbrev TX (l : List Nat) : D := .str (SX.S l)
def SM : List Nat := (Str.ofString "abcdefghijklmnopqrstuvwxyz").cps.toList
def FI : List Nat := (Str.ofString "0123456789").cps.toList
def SI : List Nat := (Str.ofString "+-*/&|^<>=!(){}[];,.").cps.toList
theorem gSM : G.const "SMALL" = some (TX SM) := by
  have : SX.S SM = Str.ofString "abcdefghijklmnopqrstuvwxyz" := SX.S_tl _
  unfold TX; rw [this]; rfl
theorem gFI : G.const "FIGURES" = some (TX FI) := by
  have : SX.S FI = Str.ofString "0123456789" := SX.S_tl _
  unfold TX; rw [this]; rfl
theorem gSI : G.const "SINGLE" = some (TX SI) := by
  have : SX.S SI = Str.ofString "+-*/&|^<>=!(){}[];,." := SX.S_tl _
  unfold TX; rw [this]; rfl
def DB : List (List Nat) := [[61, 61], [33, 61], [60, 61], [62, 61], [38, 38], [124, 124], [60, 60], [62, 62]]
theorem gDB : G.const "DOUBLE" = some (.tup (DB.map TX)) := by rfl
theorem gMT : G.const "MOST_TOKENS" = some (.int 3000) := by rfl
section
variable {h : Hs} {cs a b : List Nat} {c : Nat}
theorem ix_S {k : Nat} (hl : cs.length ≤ lim) (e : cs[k]? = some c) : ixD (TX cs) (.int k) h = .ok (TX [c]) h := by
  have hz : (SX.S cs).length ≤ lim := by rw [SX.S_len]; exact hl
  have hi : L2.atI cs (k : Int) = some c := atI_nat e
  simp only [ixD, hz, if_true]
  show R.ofO ((L2.atI cs (k : Int)).map fun c => D.str ⟨#[c]⟩) h = _
  rw [hi]; rfl
theorem len_S (hl : cs.length ≤ lim) : biD .len [TX cs] h = .ok (.int cs.length) h := by
  have hz : (SX.S cs).length ≤ lim := by rw [SX.S_len]; exact hl
  simp only [biD, biLen]
  rw [if_pos hz, SX.S_len]
theorem eq_S : cmpD .Eq (TX a) (TX b) h = .ok (.bl (decide (a = b))) h := by
  rw [cmp_eqs]
  congr 2
  rw [decide_eq_decide]
  exact ⟨SX.S_inj, fun e => by rw [e]⟩
theorem ne_S : cmpD .NotEq (TX a) (TX b) h = .ok (.bl (!decide (a = b))) h := by
  rw [cmp_nes]
  congr 3
  rw [decide_eq_decide]
  exact ⟨SX.S_inj, fun e => by rw [e]⟩
theorem in_S : cmpD .In (TX [c]) (TX b) h = .ok (.bl (decide (c ∈ b))) h := rfl
theorem nin_S : cmpD .NotIn (TX [c]) (TX b) h = .ok (.bl (!decide (c ∈ b))) h := rfl
theorem any_S {l : List (List Nat)} : ((l.map TX).any fun y => eqF y (TX a)) = l.contains a := by
  rw [List.any_map]
  rw [Bool.eq_iff_iff, List.any_eq_true, List.contains_iff_mem]
  constructor
  · rintro ⟨x, hx, e⟩
    have e2 : decide (SX.S x = SX.S a) = true := e
    rw [decide_eq_true_iff] at e2
    rw [← SX.S_inj e2]; exact hx
  · intro hm
    exact ⟨a, hm, by show decide (SX.S a = SX.S a) = true; simp⟩
theorem flat_S {l : List (List Nat)} : ((l.map TX).all isFlat) = true := by
  rw [List.all_map]; exact List.all_eq_true.mpr fun _ _ => rfl
theorem in_TS {l : List (List Nat)} : cmpD .In (TX a) (.tup (l.map TX)) h = .ok (.bl (l.contains a)) h := by
  rw [in_tup]
  simp only [isFlat_str, flat_S, Bool.and_true, if_true, any_S]
  rfl
theorem in_LS {l : List (List Nat)} : cmpD .In (TX a) (.lst (l.map TX)) h = .ok (.bl (l.contains a)) h := by
  simp only [cmpD, cmpO, inD, isFlat_str, flat_S, Bool.and_true, if_true, any_S]
  rfl
theorem slice_S {i j : Nat} (hij : i ≤ j) (hi : i ≤ cs.length) : Txt.slice (SX.S cs) (some (i : Int)) (some (j : Int)) = SX.S ((cs.drop i).take (j - i)) := by
  by_cases hj : j ≤ cs.length
  · have e := beq_iff_eq.mp (PyProof.Rows.slice_closes (x := SX.S cs) (i := (i : Int)) (j := (j : Int)) ⟨by omega, by omega, by show (j : Int) ≤ (cs.length : Int); omega⟩)
    rw [e]
    show (⟨((cs.drop (i : Int).toNat).take ((j : Int) - (i : Int)).toNat).toArray⟩ : Str) = _
    rw [Int.toNat_natCast, show ((j : Int) - (i : Int)).toNat = j - i by omega]
  · have e2 : Txt.slice (SX.S cs) (some (i : Int)) (some (j : Int)) = Txt.slice (SX.S cs) (some (i : Int)) (some (cs.length : Int)) := by
      unfold Txt.slice
      rw [SX.S_len, SX.idx_hi (by omega)]
    have e := beq_iff_eq.mp (PyProof.Rows.slice_closes (x := SX.S cs) (i := (i : Int)) (j := (cs.length : Int)) ⟨by omega, by omega, by show (cs.length : Int) ≤ (cs.length : Int); omega⟩)
    rw [e2, e]
    show (⟨((cs.drop (i : Int).toNat).take ((cs.length : Int) - (i : Int)).toNat).toArray⟩ : Str) = _
    rw [Int.toNat_natCast, show ((cs.length : Int) - (i : Int)).toNat = cs.length - i by omega, List.take_of_length_le (by rw [List.length_drop]; omega), List.take_of_length_le (by rw [List.length_drop]; omega)]
theorem sl_S {i j : Nat} (hl : cs.length ≤ lim) (hij : i ≤ j) (hi : i ≤ cs.length) : sliceD false (TX cs) (some (i : Int)) (some (j : Int)) h = .ok (TX ((cs.drop i).take (j - i))) h := by
  have hz : (SX.S cs).length ≤ lim := by rw [SX.S_len]; exact hl
  simp only [sliceD, hz, if_true, slice_S hij hi]
theorem slf_S {i : Nat} (hl : cs.length ≤ lim) : sliceD false (TX cs) (some (i : Int)) none h = .ok (TX (cs.drop i)) h := by
  have hz : (SX.S cs).length ≤ lim := by rw [SX.S_len]; exact hl
  simp only [sliceD, hz, if_true, SX.slice_from (a := cs) (show (0 : Int) ≤ (i : Int) by omega), Int.toNat_natCast]
theorem slt_S {i : Nat} (hl : cs.length ≤ lim) : sliceD false (TX cs) none (some (i : Int)) h = .ok (TX (cs.take i)) h := by
  have hz : (SX.S cs).length ≤ lim := by rw [SX.S_len]; exact hl
  simp only [sliceD, hz, if_true, SX.slice_to (a := cs) (show (0 : Int) ≤ (i : Int) by omega), Int.toNat_natCast]
theorem add_S (hl : a.length + b.length ≤ lim) : binD false .Add (TX a) (TX b) h = .ok (TX (a ++ b)) h := by
  have hz : (SX.S a).length + (SX.S b).length ≤ lim := by rw [SX.S_len, SX.S_len]; exact hl
  simp only [binD, hz, if_true, SX.S_cat]
end
/-! ### the model -/
def rl (P : Nat → Bool) : List Nat → Nat
  | [] => 0
  | c :: r => if P c then 1 + rl P r else 0
inductive W1 where
  | w (t : List Nat) | bad (s : String)
def wd (c : Nat) (r : List Nat) : W1 :=
  if c ∈ SM then (if 12 < rl (fun x => decide (x ∈ SM)) (c :: r) then .bad "name" else .w ((c :: r).take (rl (fun x => decide (x ∈ SM)) (c :: r))))
  else if c ∈ FI then (if 10 < rl (fun x => decide (x ∈ FI)) (c :: r) then .bad "number" else .w ((c :: r).take (rl (fun x => decide (x ∈ FI)) (c :: r))))
  else if DB.contains ((c :: r).take 2) then .w ((c :: r).take 2)
  else if c ∈ SI then .w [c] else .bad "sign"
inductive Res where
  | go (w : Option (List Nat)) (m : Nat) (nl : Bool) | bad (s : String)
def stp (c : Nat) (r : List Nat) : Res :=
  if c = 10 then .go none 1 true
  else if c = 32 then .go none 1 false
  else if (c :: r).take 2 = [47, 47] then .go none (rl (fun x => !decide (x = 10)) (c :: r)) false
  else match wd c r with
    | .w t => .go (some t) t.length false
    | .bad s => .bad s
theorem rl_le (P : Nat → Bool) : ∀ l, rl P l ≤ l.length
  | [] => Nat.le_refl _
  | c :: r => by
    have := rl_le P r
    simp only [rl, List.length_cons]
    split <;> omega
theorem rl_pos {P : Nat → Bool} {c : Nat} {r : List Nat} (h : P c = true) : 1 ≤ rl P (c :: r) := by simp [rl, h]
theorem dbl_len : ∀ {t : List Nat}, DB.contains t = true → t.length = 2 := by
  intro t ht
  have := List.contains_iff_mem.mp ht
  simp only [DB, List.mem_cons, List.not_mem_nil, or_false] at this
  rcases this with rfl | rfl | rfl | rfl | rfl | rfl | rfl | rfl <;> rfl
theorem wd_len {c : Nat} {r t : List Nat} (h : wd c r = .w t) : 1 ≤ t.length ∧ t.length ≤ (c :: r).length := by
  unfold wd at h
  split at h
  · rename_i hc
    split at h
    · cases h
    · cases h
      have h1 := rl_pos (P := fun x => decide (x ∈ SM)) (r := r) (decide_eq_true hc)
      have h2 := rl_le (fun x => decide (x ∈ SM)) (c :: r)
      rw [List.length_take]; omega
  · split at h
    · rename_i hc
      split at h
      · cases h
      · cases h
        have h1 := rl_pos (P := fun x => decide (x ∈ FI)) (r := r) (decide_eq_true hc)
        have h2 := rl_le (fun x => decide (x ∈ FI)) (c :: r)
        rw [List.length_take]; omega
    · split at h
      · rename_i hd
        cases h
        have h3 := dbl_len hd
        rw [List.length_take] at h3 ⊢
        omega
      · split at h
        · cases h
          simp
        · cases h
theorem stp_adv {c : Nat} {r : List Nat} {w : Option (List Nat)} {m : Nat} {nl : Bool} (h : stp c r = .go w m nl) : 1 ≤ m ∧ m ≤ (c :: r).length := by
  unfold stp at h
  split at h
  · cases h; simp
  · rename_i h10
    split at h
    · cases h; simp
    · split at h
      · cases h
        exact ⟨rl_pos (by simpa using h10), rl_le _ _⟩
      · split at h
        · rename_i t e
          cases h
          exact wd_len e
        · cases h
def tok (t : List Nat) (ln : Int) : D := .tup [TX t, .int ln]
inductive Out2 where
  | done (acc : List D) | err (l : Int) (w : String)
def run : Nat → List Nat → Int → List D → Out2
  | 0, _, _, acc => .done acc
  | _ + 1, [], _, acc => .done acc
  | f + 1, c :: r, ln, acc => match stp c r with
    | .bad s => .err ln s
    | .go w m nl => run f ((c :: r).drop m) (if nl then ln + 1 else ln) (match w with | some t => acc ++ [tok t ln] | none => acc)
end Pr
namespace Pr
open PySem L2 DI
abbrev SL := List (Option D)
def exn (w : String) (ln : Int) : Exn := ⟨1, [("word", .str (Str.ofString w)), ("line", .int ln)]⟩
theorem fin_exf {h h1 : Hs} {w : String} {ln : Int} {sl : Sl} (e : h1.take h.length = h) : fin true h (.ex (exn w ln) sl h1) = .ex (exn w ln) h := by
  simp only [fin, if_true, e]
  rw [if_pos ⟨trivial, rfl⟩]
section
variable {k : Nat} {h : Hs} {cs : List Nat} {ln : Int}
/-- the run of signs -/
theorem run_loop {G : Glob} {Φ : Nat → List D → Hs → R D} {Sg : List Nat} {a l m t : Option D} (hl : cs.length ≤ lim) : ∀ (f e n : Nat), cs.length - e ≤ f → e ≤ cs.length → f + 1 ≤ n →
    whileD (evE G Φ (.and (.cmp .Lt (.var 6) (.bi .len (.cons (.var 0) .nil))) (.cmp .In (.ix (.var 0) (.var 6)) (.var 3)))) (evS G Φ (.seq (.aug 6 .Add (.kI 1)) .nop)) n [some (TX cs), a, l, some (TX Sg), m, t, some (.int (e : Nat))] h =
      .ok (.nx [some (TX cs), a, l, some (TX Sg), m, t, some (.int ((e + rl (fun x => decide (x ∈ Sg)) (cs.drop e) : Nat) : Int))]) h := by
  intro f
  induction f with
  | zero =>
    intro e n h1 h2 h3
    obtain ⟨n, rfl⟩ : ∃ q, n = q + 1 := ⟨n - 1, by omega⟩
    have he : e = cs.length := by omega
    have hd : cs.drop e = [] := List.drop_eq_nil_of_le (by omega)
    rw [hd]
    refine wh_f (t := .bl false) ?_ rfl
    have nlt : ¬ ((e : Int) < (cs.length : Int)) := by omega
    have e1 : evE G Φ (.cmp .Lt (.var 6) (.bi .len (.cons (.var 0) .nil))) [some (TX cs), a, l, some (TX Sg), m, t, some (.int (e : Nat))] h = .ok (.bl false) h := by
      simp only [evE, List.getElem?_cons_zero, List.getElem?_cons_succ, ev_bind, len_S hl, cmp_lt, nlt, decide_false]
    simp only [evE] at e1 ⊢
    rw [e1]; rfl
  | succ f ih =>
    intro e n h1 h2 h3
    obtain ⟨n, rfl⟩ : ∃ q, n = q + 1 := ⟨n - 1, by omega⟩
    by_cases he : e = cs.length
    · have hd : cs.drop e = [] := List.drop_eq_nil_of_le (by omega)
      rw [hd]
      refine wh_f (t := .bl false) ?_ rfl
      have nlt : ¬ ((e : Int) < (cs.length : Int)) := by omega
      have e1 : evE G Φ (.cmp .Lt (.var 6) (.bi .len (.cons (.var 0) .nil))) [some (TX cs), a, l, some (TX Sg), m, t, some (.int (e : Nat))] h = .ok (.bl false) h := by
        simp only [evE, List.getElem?_cons_zero, List.getElem?_cons_succ, ev_bind, len_S hl, cmp_lt, nlt, decide_false]
      simp only [evE] at e1 ⊢
      rw [e1]; rfl
    · have hlt : e < cs.length := by omega
      have hd : cs.drop e = cs[e] :: cs.drop (e + 1) := List.drop_eq_getElem_cons hlt
      have lt : ((e : Int) < (cs.length : Int)) := by omega
      have e1 : evE G Φ (.cmp .Lt (.var 6) (.bi .len (.cons (.var 0) .nil))) [some (TX cs), a, l, some (TX Sg), m, t, some (.int (e : Nat))] h = .ok (.bl true) h := by
        simp only [evE, List.getElem?_cons_zero, List.getElem?_cons_succ, ev_bind, len_S hl, cmp_lt, lt, decide_true]
      have e2 : evE G Φ (.cmp .In (.ix (.var 0) (.var 6)) (.var 3)) [some (TX cs), a, l, some (TX Sg), m, t, some (.int (e : Nat))] h = .ok (.bl (decide (cs[e] ∈ Sg))) h := by
        have := ix_S (h := h) hl (List.getElem?_eq_getElem hlt)
        simp only [evE, List.getElem?_cons_zero, List.getElem?_cons_succ, ev_bind, this, in_S]
      have e3 := (and_t e1 rfl).trans e2
      rw [hd]
      by_cases hc : cs[e] ∈ Sg
      · rw [decide_eq_true hc] at e3
        have hr : rl (fun x => decide (x ∈ Sg)) (cs[e] :: cs.drop (e + 1)) = 1 + rl (fun x => decide (x ∈ Sg)) (cs.drop (e + 1)) := by simp [rl, hc]
        rw [hr, show e + (1 + rl (fun x => decide (x ∈ Sg)) (cs.drop (e + 1))) = (e + 1) + rl (fun x => decide (x ∈ Sg)) (cs.drop (e + 1)) by omega]
        rw [wh_t (sl2 := [some (TX cs), a, l, some (TX Sg), m, t, some (.int ((e + 1 : Nat) : Int))]) (h2 := h) e3 rfl (by simp [evS, evE, binI])]
        exact ih (e + 1) n (by omega) (by omega) (by omega)
      · rw [decide_eq_false hc] at e3
        have hr : rl (fun x => decide (x ∈ Sg)) (cs[e] :: cs.drop (e + 1)) = 0 := by simp [rl, hc]
        rw [hr]
        exact wh_f e3 rfl
/-- one turn of word_at's loop -/
theorem turn_in {Φ : Nat → List D → Hs → R D} {Sg : List Nat} {mo : Int} {told : String} {d : Option D} {at_ : Nat} {c : Nat} {r : List Nat} (hl : cs.length ≤ 10000) (hr : cs.drop at_ = c :: r) (hc : c ∈ Sg) :
    evS G Φ b4.hd.th [some (TX cs), some (.int (at_ : Nat)), some (.int ln), some (TX Sg), some (.int mo), some (.str told), d] h =
      if mo < rl (fun x => decide (x ∈ Sg)) (c :: r) then .ex (exn told ln) [some (TX cs), some (.int (at_ : Nat)), some (.int ln), some (TX Sg), some (.int mo), some (.str told), some (.int ((at_ + rl (fun x => decide (x ∈ Sg)) (c :: r) : Nat) : Int))] h
      else .ok (.rt (TX ((c :: r).take (rl (fun x => decide (x ∈ Sg)) (c :: r))))) h := by
  have hlim : cs.length ≤ lim := Nat.le_trans hl (by decide)
  have hlt : at_ < cs.length := by
    by_cases q : at_ < cs.length
    · exact q
    · rw [List.drop_eq_nil_of_le (by omega)] at hr; cases hr
  have hce : cs[at_]? = some c := by
    rw [List.drop_eq_getElem_cons hlt] at hr
    rw [List.getElem?_eq_getElem hlt, (List.cons.inj hr).1]
  have t1 : evE G Φ (.cmp .In (.ix (.var 0) (.var 1)) (.var 3)) [some (TX cs), some (.int (at_ : Nat)), some (.int ln), some (TX Sg), some (.int mo), some (.str told), d] h = .ok (.bl true) h := by
    have := ix_S (h := h) hlim hce
    simp only [evE, List.getElem?_cons_zero, List.getElem?_cons_succ, ev_bind, this, in_S, hc, decide_true]
  have hwf : 10002 ≤ wf := by decide
  have wl := run_loop (h := h) (G := G) (Φ := Φ) (Sg := Sg) (a := some (.int (at_ : Nat))) (l := some (.int ln)) (m := some (.int mo)) (t := some (.str told)) hlim (cs.length - at_) at_ wf (Nat.le_refl _) (by omega) (by omega)
  rw [hr] at wl
  generalize hR : rl (fun x => decide (x ∈ Sg)) (c :: r) = R at wl ⊢
  have hRl : R ≤ (c :: r).length := by rw [← hR]; exact rl_le _ _
  have hlen : (c :: r).length = cs.length - at_ := by rw [← hr, List.length_drop]
  have sl := sl_S (h := h) (i := at_) (j := at_ + R) hlim (by omega) (by omega)
  rw [hr, show at_ + R - at_ = R by omega] at sl
  have diff : ((at_ + R : Nat) : Int) - (at_ : Int) = (R : Int) := by omega
  have a1 : evS G Φ (.asg (.nm 6) (.var 1)) [some (TX cs), some (.int (at_ : Nat)), some (.int ln), some (TX Sg), some (.int mo), some (.str told), d] h = .ok (.nx [some (TX cs), some (.int (at_ : Nat)), some (.int ln), some (TX Sg), some (.int mo), some (.str told), some (.int (at_ : Nat))]) h := asg_eval (by simp only [evE, List.getElem?_cons_zero, List.getElem?_cons_succ]) rfl
  have a2 : evS G Φ (.while (.and (.cmp .Lt (.var 6) (.bi .len (.cons (.var 0) .nil))) (.cmp .In (.ix (.var 0) (.var 6)) (.var 3))) (.seq (.aug 6 .Add (.kI 1)) .nop)) [some (TX cs), some (.int (at_ : Nat)), some (.int ln), some (TX Sg), some (.int mo), some (.str told), some (.int (at_ : Nat))] h = .ok (.nx [some (TX cs), some (.int (at_ : Nat)), some (.int ln), some (TX Sg), some (.int mo), some (.str told), some (.int ((at_ + R : Nat) : Int))]) h := (by rw [evS]; exact wl)
  have t2 : evE G Φ (.cmp .Gt (.bin false .Sub (.var 6) (.var 1)) (.var 4)) [some (TX cs), some (.int (at_ : Nat)), some (.int ln), some (TX Sg), some (.int mo), some (.str told), some (.int ((at_ + R : Nat) : Int))] h = .ok (.bl (decide (mo < (R : Int)))) h := by
    simp only [evE, List.getElem?_cons_zero, List.getElem?_cons_succ, ev_bind, bin_sub, diff, cmp_gt]
  have r1 : evE G Φ (.slice false (.var 0) (.var 1) (.var 6)) [some (TX cs), some (.int (at_ : Nat)), some (.int ln), some (TX Sg), some (.int mo), some (.str told), some (.int ((at_ + R : Nat) : Int))] h = .ok (TX ((c :: r).take R)) h := by
    simp only [evE, List.getElem?_cons_zero, List.getElem?_cons_succ, ev_bind, isKN, partD]
    exact sl
  by_cases hm : mo < (R : Int)
  · rw [if_pos hm]
    rw [decide_eq_true hm] at t2
    exact seq_ex ((ite_t t1 rfl).trans ((seq_nx a1).trans ((seq_nx a2).trans (seq_ex ((ite_t t2 rfl).trans (seq_ex (raise2_eval (by simp only [evE, List.getElem?_cons_zero, List.getElem?_cons_succ, ev_bind]))))))))
  · rw [if_neg hm]
    rw [decide_eq_false hm] at t2
    exact seq_rt ((ite_t t1 rfl).trans ((seq_nx a1).trans ((seq_nx a2).trans ((seq_nx ((ite_f t2 rfl).trans nop_eval)).trans (seq_rt (ret_eval r1))))))
theorem turn_out {Φ : Nat → List D → Hs → R D} {Sg : List Nat} {mo : Int} {told : String} {d : Option D} {at_ : Nat} {c : Nat} {r : List Nat} (hl : cs.length ≤ 10000) (hr : cs.drop at_ = c :: r) (hc : c ∉ Sg) :
    evS G Φ b4.hd.th [some (TX cs), some (.int (at_ : Nat)), some (.int ln), some (TX Sg), some (.int mo), some (.str told), d] h = .ok (.nx [some (TX cs), some (.int (at_ : Nat)), some (.int ln), some (TX Sg), some (.int mo), some (.str told), d]) h := by
  have hlim : cs.length ≤ lim := Nat.le_trans hl (by decide)
  have hlt : at_ < cs.length := by
    by_cases q : at_ < cs.length
    · exact q
    · rw [List.drop_eq_nil_of_le (by omega)] at hr; cases hr
  have hce : cs[at_]? = some c := by
    rw [List.drop_eq_getElem_cons hlt] at hr
    rw [List.getElem?_eq_getElem hlt, (List.cons.inj hr).1]
  have t1 : evE G Φ (.cmp .In (.ix (.var 0) (.var 1)) (.var 3)) [some (TX cs), some (.int (at_ : Nat)), some (.int ln), some (TX Sg), some (.int mo), some (.str told), d] h = .ok (.bl false) h := by
    have := ix_S (h := h) hlim hce
    simp only [evE, List.getElem?_cons_zero, List.getElem?_cons_succ, ev_bind, this, in_S, hc, decide_false]
  exact (seq_nx ((ite_f t1 rfl).trans nop_eval)).trans nop_eval
theorem fin_sx {a : List Nat} : fin true h (.ok (.rt (TX a)) h) = .ok (TX a) h := fin_str
/-- word_at -/
theorem word_eq {at_ : Nat} {c : Nat} {r : List Nat} (hl : cs.length ≤ 10000) (hr : cs.drop at_ = c :: r) : Phi G T (k + 1) 4 [TX cs, .int (at_ : Nat), .int ln] h = match wd c r with
    | .w t => .ok (TX t) h
    | .bad s => .ex (exn s ln) h := by
  have h0 : h.take h.length = h := List.take_length
  have hlim : cs.length ≤ lim := Nat.le_trans hl (by decide)
  have h3 : 3 ≤ lim := by decide
  have h2 : 2 ≤ lim := by decide
  have hlt : at_ < cs.length := by
    by_cases q : at_ < cs.length
    · exact q
    · rw [List.drop_eq_nil_of_le (by omega)] at hr; cases hr
  have hce : cs[at_]? = some c := by
    rw [List.drop_eq_getElem_cons hlt] at hr
    rw [List.getElem?_eq_getElem hlt, (List.cons.inj hr).1]
  rw [call_ok (fn := f4) rfl rfl]
  show fin true h (evS G (Phi G T k) b4 [some (TX cs), some (.int (at_ : Nat)), some (.int ln), none, none, none, none] h) = _
  have es : evE G (Phi G T k) (.tup (.cons (.tup (.cons (.glob "SMALL") (.cons (.kI 12) (.cons (.kS "name") .nil)))) (.cons (.tup (.cons (.glob "FIGURES") (.cons (.kI 10) (.cons (.kS "number") .nil)))) .nil))) [some (TX cs), some (.int (at_ : Nat)), some (.int ln), none, none, none, none] h = .ok (.tup [.tup [TX SM, .int 12, .str "name"], .tup [TX FI, .int 10, .str "number"]]) h :=
    by simp [evE, gSM, gFI, h2, h3]
  have ef := for_eval (G := G) (Φ := Phi G T k) (tg := .tup (.cons (.nm 3) (.cons (.nm 4) (.cons (.nm 5) .nil)))) (k := .seq) (b := b4.hd.th) es rfl
  have st : decide (itemsOf .seq (.tup [.tup [TX SM, .int 12, .str "name"], .tup [TX FI, .int 10, .str "number"]]) h = some [.tup [TX SM, .int 12, .str "name"], .tup [TX FI, .int 10, .str "number"]]) = true := decide_eq_true rfl
  unfold wd
  by_cases hs : c ∈ SM
  · rw [if_pos hs]
    have tn := turn_in (h := h) (ln := ln) (Φ := Phi G T k) (mo := 12) (told := "name") (d := none) hl hr hs
    by_cases hm : 12 < rl (fun x => decide (x ∈ SM)) (c :: r)
    · rw [if_pos (by exact_mod_cast hm)] at tn
      rw [if_pos hm, hd_ex (b := b4) rfl (ef.trans (for_x st (by simp) tn))]
      exact fin_exf h0
    · rw [if_neg (by exact_mod_cast hm)] at tn
      rw [if_neg hm, hd_rt (b := b4) rfl (ef.trans (for_r st (by simp) tn))]
      exact fin_sx
  · rw [if_neg hs]
    have to := turn_out (h := h) (ln := ln) (Φ := Phi G T k) (mo := 12) (told := "name") (d := none) hl hr hs
    by_cases hf : c ∈ FI
    · rw [if_pos hf]
      have tn := turn_in (h := h) (ln := ln) (Φ := Phi G T k) (mo := 10) (told := "number") (d := none) hl hr hf
      by_cases hm : 10 < rl (fun x => decide (x ∈ FI)) (c :: r)
      · rw [if_pos (by exact_mod_cast hm)] at tn
        rw [if_pos hm, hd_ex (b := b4) rfl (ef.trans ((for_t st (by simp) to).trans (for_x st (by simp) tn)))]
        exact fin_exf h0
      · rw [if_neg (by exact_mod_cast hm)] at tn
        rw [if_neg hm, hd_rt (b := b4) rfl (ef.trans ((for_t st (by simp) to).trans (for_r st (by simp) tn)))]
        exact fin_sx
    · rw [if_neg hf]
      have to2 := turn_out (h := h) (ln := ln) (Φ := Phi G T k) (mo := 10) (told := "number") (d := none) hl hr hf
      have sl := sl_S (h := h) (i := at_) (j := at_ + 2) hlim (by omega) (by omega)
      rw [hr, show at_ + 2 - at_ = 2 by omega] at sl
      have nx := ef.trans ((for_t st (by simp) to).trans ((for_t st (by simp) to2).trans (for_nil st)))
      generalize hslv : ([some (TX cs), some (.int (at_ : Nat)), some (.int ln), some (TX FI), some (.int 10), some (.str "number"), none] : SL) = slv at nx
      have g0 : slv[0]? = some (some (TX cs)) := by rw [← hslv]; rfl
      have g1 : slv[1]? = some (some (.int (at_ : Nat))) := by rw [← hslv]; rfl
      have g2 : slv[2]? = some (some (.int ln)) := by rw [← hslv]; rfl
      have ex := ix_S (h := h) hlim hce
      have e2 : evE G (Phi G T k) (.slice false (.var 0) (.var 1) (.bin false .Add (.var 1) (.kI 2))) slv h = .ok (TX ((c :: r).take 2)) h := by
        simp only [evE, g0, g1, ev_bind, isKN, partD, bin_add]
        have : ((at_ : Int) + 2) = ((at_ + 2 : Nat) : Int) := by omega
        rw [this]; exact sl
      have e3 : evE G (Phi G T k) (.cmp .In (.slice false (.var 0) (.var 1) (.bin false .Add (.var 1) (.kI 2))) (.glob "DOUBLE")) slv h = .ok (.bl (DB.contains ((c :: r).take 2))) h := (cmp_eval e2 (by simp only [evE, gDB]; rfl)).trans in_TS
      by_cases hd : DB.contains ((c :: r).take 2) = true
      · rw [if_pos hd, hd_nx (b := b4) rfl nx]
        rw [hd] at e3
        rw [hd_rt (b := b4.tl) rfl ((ite_t e3 rfl).trans (seq_rt (ret_eval e2)))]
        exact fin_sx
      · rw [if_neg hd, hd_nx (b := b4) rfl nx]
        rw [Bool.not_eq_true] at hd
        rw [hd] at e3
        rw [hd_nx (b := b4.tl) rfl ((ite_f e3 rfl).trans nop_eval)]
        have e4 : evE G (Phi G T k) (.ix (.var 0) (.var 1)) slv h = .ok (TX [c]) h := by simp only [evE, g0, g1, ev_bind, ex]
        have e5 : evE G (Phi G T k) (.cmp .NotIn (.ix (.var 0) (.var 1)) (.glob "SINGLE")) slv h = .ok (.bl (!decide (c ∈ SI))) h := (cmp_eval e4 (by simp only [evE, gSI]; rfl)).trans nin_S
        by_cases hi : c ∈ SI
        · rw [if_pos hi]
          rw [decide_eq_true hi] at e5
          rw [hd_nx (b := b4.tl.tl) rfl ((ite_f e5 rfl).trans nop_eval)]
          have e6 : evS G (Phi G T k) b4.tl.tl.tl slv h = .ok (.rt (TX [c])) h := seq_rt (ret_eval e4)
          rw [e6]; exact fin_sx
        · rw [if_neg hi]
          rw [decide_eq_false hi] at e5
          rw [hd_ex (b := b4.tl.tl) rfl ((ite_t e5 rfl).trans (seq_ex (raise2_eval (a := .int ln) (b := .str "sign") (h1 := h) (by simp only [evE, g2, ev_bind]))))]
          exact fin_exf h0
end
end Pr
namespace Pr
open PySem L2 DI
def runP : Nat → List Nat → Int → List D → Out2
  | 0, _, _, acc => .done acc
  | _ + 1, [], _, acc => .done acc
  | f + 1, c :: r, ln, acc => match stp c r with
    | .bad s => .err ln s
    | .go w m nl => match w with
      | some t => if 3000 < acc.length + 1 then .err ln "many" else runP f ((c :: r).drop m) (if nl then ln + 1 else ln) (acc ++ [tok t ln])
      | none => runP f ((c :: r).drop m) (if nl then ln + 1 else ln) acc
theorem kNL : (.str "\n" : D) = TX [10] := rfl
theorem kSP : (.str " " : D) = TX [32] := rfl
theorem kSS : (.str "//" : D) = TX [47, 47] := rfl
theorem at_lt {cs : List Nat} {at_ c : Nat} {r : List Nat} (hr : cs.drop at_ = c :: r) : at_ < cs.length ∧ cs[at_]? = some c ∧ (c :: r).length = cs.length - at_ := by
  have hlt : at_ < cs.length := by
    by_cases q : at_ < cs.length
    · exact q
    · rw [List.drop_eq_nil_of_le (by omega)] at hr; cases hr
  refine ⟨hlt, ?_, by rw [← hr, List.length_drop]⟩
  rw [List.drop_eq_getElem_cons hlt] at hr
  rw [List.getElem?_eq_getElem hlt, (List.cons.inj hr).1]
section
variable {k : Nat} {h : Hs} {cs : List Nat} {ln : Int}
/-- the remark's loop -/
theorem rem_loop {G : Glob} {Φ : Nat → List D → Hs → R D} {a l m t : Option D} (hl : cs.length ≤ lim) : ∀ (f e n : Nat), cs.length - e ≤ f → e ≤ cs.length → f + 1 ≤ n →
    whileD (evE G Φ (.and (.cmp .Lt (.var 2) (.bi .len (.cons (.var 0) .nil))) (.cmp .NotEq (.ix (.var 0) (.var 2)) (.kS "\n")))) (evS G Φ (.seq (.aug 2 .Add (.kI 1)) .nop)) n [some (TX cs), a, some (.int (e : Nat)), l, m, t] h =
      .ok (.nx [some (TX cs), a, some (.int ((e + rl (fun x => !decide (x = 10)) (cs.drop e) : Nat) : Int)), l, m, t]) h := by
  intro f
  induction f with
  | zero =>
    intro e n h1 h2 h3
    obtain ⟨n, rfl⟩ : ∃ q, n = q + 1 := ⟨n - 1, by omega⟩
    have hd : cs.drop e = [] := List.drop_eq_nil_of_le (by omega)
    rw [hd]
    refine wh_f (t := .bl false) ?_ rfl
    have nlt : ¬ ((e : Int) < (cs.length : Int)) := by omega
    have e1 : evE G Φ (.cmp .Lt (.var 2) (.bi .len (.cons (.var 0) .nil))) [some (TX cs), a, some (.int (e : Nat)), l, m, t] h = .ok (.bl false) h := by
      simp only [evE, List.getElem?_cons_zero, List.getElem?_cons_succ, ev_bind, len_S hl, cmp_lt, nlt, decide_false]
    simp only [evE] at e1 ⊢
    rw [e1]; rfl
  | succ f ih =>
    intro e n h1 h2 h3
    obtain ⟨n, rfl⟩ : ∃ q, n = q + 1 := ⟨n - 1, by omega⟩
    by_cases he : e = cs.length
    · have hd : cs.drop e = [] := List.drop_eq_nil_of_le (by omega)
      rw [hd]
      refine wh_f (t := .bl false) ?_ rfl
      have nlt : ¬ ((e : Int) < (cs.length : Int)) := by omega
      have e1 : evE G Φ (.cmp .Lt (.var 2) (.bi .len (.cons (.var 0) .nil))) [some (TX cs), a, some (.int (e : Nat)), l, m, t] h = .ok (.bl false) h := by
        simp only [evE, List.getElem?_cons_zero, List.getElem?_cons_succ, ev_bind, len_S hl, cmp_lt, nlt, decide_false]
      simp only [evE] at e1 ⊢
      rw [e1]; rfl
    · have hlt : e < cs.length := by omega
      have hd : cs.drop e = cs[e] :: cs.drop (e + 1) := List.drop_eq_getElem_cons hlt
      have lt : ((e : Int) < (cs.length : Int)) := by omega
      have e1 : evE G Φ (.cmp .Lt (.var 2) (.bi .len (.cons (.var 0) .nil))) [some (TX cs), a, some (.int (e : Nat)), l, m, t] h = .ok (.bl true) h := by
        simp only [evE, List.getElem?_cons_zero, List.getElem?_cons_succ, ev_bind, len_S hl, cmp_lt, lt, decide_true]
      have e0 : evE G Φ (.ix (.var 0) (.var 2)) [some (TX cs), a, some (.int (e : Nat)), l, m, t] h = .ok (TX [cs[e]]) h := by
        have := ix_S (h := h) hl (List.getElem?_eq_getElem hlt)
        simp only [evE, List.getElem?_cons_zero, List.getElem?_cons_succ, ev_bind, this]
      have e2 : evE G Φ (.cmp .NotEq (.ix (.var 0) (.var 2)) (.kS "\n")) [some (TX cs), a, some (.int (e : Nat)), l, m, t] h = .ok (.bl (!decide (cs[e] = 10))) h := by
        refine (cmp_eval e0 (y := TX [10]) (h2 := h) (by simp only [evE]; rfl)).trans (ne_S.trans ?_)
        congr 3
        simp
      have e3 := (and_t e1 rfl).trans e2
      rw [hd]
      by_cases hc : cs[e] = 10
      · rw [decide_eq_true hc] at e3
        have hr : rl (fun x => !decide (x = 10)) (cs[e] :: cs.drop (e + 1)) = 0 := by simp [rl, hc]
        rw [hr]
        exact wh_f e3 rfl
      · rw [decide_eq_false hc] at e3
        have hr : rl (fun x => !decide (x = 10)) (cs[e] :: cs.drop (e + 1)) = 1 + rl (fun x => !decide (x = 10)) (cs.drop (e + 1)) := by simp [rl, hc]
        rw [hr, show e + (1 + rl (fun x => !decide (x = 10)) (cs.drop (e + 1))) = (e + 1) + rl (fun x => !decide (x = 10)) (cs.drop (e + 1)) by omega]
        rw [wh_t (sl2 := [some (TX cs), a, some (.int ((e + 1 : Nat) : Int)), l, m, t]) (h2 := h) e3 rfl (by simp [evS, evE, binI])]
        exact ih (e + 1) n (by omega) (by omega) (by omega)
abbrev S5 (cs : List Nat) (L at_ : Nat) (ln : Int) (a b : Option D) : SL := [some (TX cs), some (.ref L), some (.int (at_ : Nat)), some (.int ln), a, b]
theorem body5 {at_ : Nat} {c : Nat} {r : List Nat} {acc : List D} {a b : Option D} (hl : cs.length ≤ 10000) (hr : cs.drop at_ = c :: r) (hacc : acc.length ≤ 3000) :
    match stp c r with
    | .bad s => ∃ sl', evS G (Phi G T (k + 1)) b5.tl.tl.hd.th (S5 cs h.length at_ ln a b) (h ++ [.lst acc]) = .ex (exn s ln) sl' (h ++ [.lst acc])
    | .go none m nl => ∃ a' b', evS G (Phi G T (k + 1)) b5.tl.tl.hd.th (S5 cs h.length at_ ln a b) (h ++ [.lst acc]) = .ok (.nx (S5 cs h.length (at_ + m) (if nl then ln + 1 else ln) a' b')) (h ++ [.lst acc])
    | .go (some t) m nl => (3000 < acc.length + 1 → ∃ sl', evS G (Phi G T (k + 1)) b5.tl.tl.hd.th (S5 cs h.length at_ ln a b) (h ++ [.lst acc]) = .ex (exn "many" ln) sl' (h ++ [.lst (acc ++ [tok t ln])])) ∧
        (¬ 3000 < acc.length + 1 → ∃ a' b', evS G (Phi G T (k + 1)) b5.tl.tl.hd.th (S5 cs h.length at_ ln a b) (h ++ [.lst acc]) = .ok (.nx (S5 cs h.length (at_ + m) (if nl then ln + 1 else ln) a' b')) (h ++ [.lst (acc ++ [tok t ln])])) := by
  obtain ⟨hlt, hce, hlen⟩ := at_lt hr
  have hlim : cs.length ≤ lim := Nat.le_trans hl (by decide)
  have h2 : 2 ≤ lim := by decide
  have ha : acc.length + 1 ≤ lim := Nat.le_trans (Nat.succ_le_succ hacc) (by decide)
  have ex := ix_S (h := h ++ [.lst acc]) hlim hce
  have a1 : evS G (Phi G T (k + 1)) (.asg (.nm 4) (.ix (.var 0) (.var 2))) (S5 cs h.length at_ ln a b) (h ++ [.lst acc]) = .ok (.nx (S5 cs h.length at_ ln (some (TX [c])) b)) (h ++ [.lst acc]) :=
    asg_eval (d := TX [c]) (by simp only [evE, List.getElem?_cons_zero, List.getElem?_cons_succ, ev_bind, ex]) rfl
  have t1 : evE G (Phi G T (k + 1)) (.cmp .Eq (.var 4) (.kS "\n")) (S5 cs h.length at_ ln (some (TX [c])) b) (h ++ [.lst acc]) = .ok (.bl (decide (c = 10))) (h ++ [.lst acc]) := by
    refine (cmp_eval (x := TX [c]) (y := TX [10]) (h1 := h ++ [.lst acc]) (h2 := h ++ [.lst acc]) (by simp only [evE, List.getElem?_cons_zero, List.getElem?_cons_succ]) (by simp only [evE]; rfl)).trans (eq_S.trans ?_)
    congr 2; simp
  have t2 : evE G (Phi G T (k + 1)) (.cmp .Eq (.var 4) (.kS " ")) (S5 cs h.length at_ ln (some (TX [c])) b) (h ++ [.lst acc]) = .ok (.bl (decide (c = 32))) (h ++ [.lst acc]) := by
    refine (cmp_eval (x := TX [c]) (y := TX [32]) (h1 := h ++ [.lst acc]) (h2 := h ++ [.lst acc]) (by simp only [evE, List.getElem?_cons_zero, List.getElem?_cons_succ]) (by simp only [evE]; rfl)).trans (eq_S.trans ?_)
    congr 2; simp
  have sl := sl_S (h := h ++ [.lst acc]) (i := at_) (j := at_ + 2) hlim (by omega) (by omega)
  rw [hr, show at_ + 2 - at_ = 2 by omega] at sl
  have e2 : evE G (Phi G T (k + 1)) (.slice false (.var 0) (.var 2) (.bin false .Add (.var 2) (.kI 2))) (S5 cs h.length at_ ln (some (TX [c])) b) (h ++ [.lst acc]) = .ok (TX ((c :: r).take 2)) (h ++ [.lst acc]) := by
    simp only [evE, List.getElem?_cons_zero, List.getElem?_cons_succ, ev_bind, isKN, partD, bin_add]
    have : ((at_ : Int) + 2) = ((at_ + 2 : Nat) : Int) := by omega
    rw [this]; exact sl
  have t3 : evE G (Phi G T (k + 1)) (.cmp .Eq (.slice false (.var 0) (.var 2) (.bin false .Add (.var 2) (.kI 2))) (.kS "//")) (S5 cs h.length at_ ln (some (TX [c])) b) (h ++ [.lst acc]) = .ok (.bl (decide ((c :: r).take 2 = [47, 47]))) (h ++ [.lst acc]) :=
    (cmp_eval e2 (y := TX [47, 47]) (h2 := h ++ [.lst acc]) (by simp only [evE]; rfl)).trans eq_S
  have hwf : 10002 ≤ wf := by decide
  unfold stp
  by_cases c10 : c = 10
  · rw [if_pos c10]
    rw [decide_eq_true c10] at t1
    refine ⟨some (TX [c]), b, hd_nx (b := b5.tl.tl.hd.th) rfl a1 |>.trans (seq_nx (sl1 := S5 cs h.length (at_ + 1) (ln + 1) (some (TX [c])) b) (h1 := h ++ [.lst acc]) ((ite_t t1 rfl).trans ?_) |>.trans nop_eval)⟩
    simp [evS, evE, binI]
  · rw [if_neg c10]
    rw [decide_eq_false c10] at t1
    by_cases c32 : c = 32
    · rw [if_pos c32]
      rw [decide_eq_true c32] at t2
      refine ⟨some (TX [c]), b, hd_nx (b := b5.tl.tl.hd.th) rfl a1 |>.trans (seq_nx (sl1 := S5 cs h.length (at_ + 1) ln (some (TX [c])) b) (h1 := h ++ [.lst acc]) ((ite_f t1 rfl).trans ((seq_nx (sl1 := S5 cs h.length (at_ + 1) ln (some (TX [c])) b) (h1 := h ++ [.lst acc]) ((ite_t t2 rfl).trans ?_)).trans nop_eval)) |>.trans nop_eval)⟩
      simp [evS, evE, binI]
    · rw [if_neg c32]
      rw [decide_eq_false c32] at t2
      by_cases css : (c :: r).take 2 = [47, 47]
      · rw [if_pos css]
        rw [decide_eq_true css] at t3
        have wl := rem_loop (h := h ++ [.lst acc]) (G := G) (Φ := Phi G T (k + 1)) (a := some (.ref h.length)) (l := some (.int ln)) (m := some (TX [c])) (t := b) hlim (cs.length - at_) at_ wf (Nat.le_refl _) (by omega) (by omega)
        rw [hr] at wl
        have a2 : evS G (Phi G T (k + 1)) (.while (.and (.cmp .Lt (.var 2) (.bi .len (.cons (.var 0) .nil))) (.cmp .NotEq (.ix (.var 0) (.var 2)) (.kS "\n"))) (.seq (.aug 2 .Add (.kI 1)) .nop)) (S5 cs h.length at_ ln (some (TX [c])) b) (h ++ [.lst acc]) = .ok (.nx (S5 cs h.length (at_ + rl (fun x => !decide (x = 10)) (c :: r)) ln (some (TX [c])) b)) (h ++ [.lst acc]) := (by rw [evS]; exact wl)
        exact ⟨some (TX [c]), b, hd_nx (b := b5.tl.tl.hd.th) rfl a1 |>.trans ((seq_nx ((ite_f t1 rfl).trans ((seq_nx ((ite_f t2 rfl).trans ((seq_nx ((ite_t t3 rfl).trans ((seq_nx a2).trans nop_eval))).trans nop_eval))).trans nop_eval))).trans nop_eval)⟩
      · rw [if_neg css]
        rw [decide_eq_false css] at t3
        have wq := word_eq (k := k) (h := h ++ [.lst acc]) (ln := ln) hl hr
        cases hw : wd c r with
        | bad s =>
          rw [hw] at wq
          have a2 : evS G (Phi G T (k + 1)) (.asg (.nm 5) (.call 4 (.cons (.var 0) (.cons (.var 2) (.cons (.var 3) .nil))))) (S5 cs h.length at_ ln (some (TX [c])) b) (h ++ [.lst acc]) = .ex (exn s ln) (S5 cs h.length at_ ln (some (TX [c])) b) (h ++ [.lst acc]) :=
            asg_ex ((call_eval (xs := [TX cs, .int (at_ : Nat), .int ln]) (h1 := h ++ [.lst acc]) (by simp only [evE, List.getElem?_cons_zero, List.getElem?_cons_succ, ev_bind])).trans wq)
          exact ⟨_, hd_nx (b := b5.tl.tl.hd.th) rfl a1 |>.trans (seq_ex ((ite_f t1 rfl).trans (seq_ex ((ite_f t2 rfl).trans (seq_ex ((ite_f t3 rfl).trans (seq_ex a2)))))))⟩
        | w t =>
          rw [hw] at wq
          have tl := wd_len hw
          have htl : t.length ≤ lim := by omega
          have a2 : evS G (Phi G T (k + 1)) (.asg (.nm 5) (.call 4 (.cons (.var 0) (.cons (.var 2) (.cons (.var 3) .nil))))) (S5 cs h.length at_ ln (some (TX [c])) b) (h ++ [.lst acc]) = .ok (.nx (S5 cs h.length at_ ln (some (TX [c])) (some (TX t)))) (h ++ [.lst acc]) :=
            asg_eval ((call_eval (xs := [TX cs, .int (at_ : Nat), .int ln]) (h1 := h ++ [.lst acc]) (by simp only [evE, List.getElem?_cons_zero, List.getElem?_cons_succ, ev_bind])).trans wq) rfl
          have a3 : evS G (Phi G T (k + 1)) (.expr (.meth .append (.var 1) (.cons (.tup (.cons (.var 5) (.cons (.var 3) .nil))) .nil))) (S5 cs h.length at_ ln (some (TX [c])) (some (TX t))) (h ++ [.lst acc]) = .ok (.nx (S5 cs h.length at_ ln (some (TX [c])) (some (TX t)))) (h ++ [.lst (acc ++ [tok t ln])]) :=
            app_end rfl (tup_eval (xs := [TX t, .int ln]) (by simp only [evE, List.getElem?_cons_zero, List.getElem?_cons_succ, ev_bind]) h2) ha
          have a4 : evS G (Phi G T (k + 1)) (.aug 2 .Add (.bi .len (.cons (.var 5) .nil))) (S5 cs h.length at_ ln (some (TX [c])) (some (TX t))) (h ++ [.lst (acc ++ [tok t ln])]) = .ok (.nx (S5 cs h.length (at_ + t.length) ln (some (TX [c])) (some (TX t)))) (h ++ [.lst (acc ++ [tok t ln])]) := by
            simp only [evS, evE, List.getElem?_cons_zero, List.getElem?_cons_succ, ev_bind, ev_st, len_S htl, binI]
            rfl
          have t4 : evE G (Phi G T (k + 1)) (.cmp .Gt (.bi .len (.cons (.var 1) .nil)) (.glob "MOST_TOKENS")) (S5 cs h.length (at_ + t.length) ln (some (TX [c])) (some (TX t))) (h ++ [.lst (acc ++ [tok t ln])]) = .ok (.bl (decide ((3000 : Int) < ((acc.length + 1 : Nat) : Int)))) (h ++ [.lst (acc ++ [tok t ln])]) := by
            have e5 : evE G (Phi G T (k + 1)) (.bi .len (.cons (.var 1) .nil)) (S5 cs h.length (at_ + t.length) ln (some (TX [c])) (some (TX t))) (h ++ [.lst (acc ++ [tok t ln])]) = .ok (.int ((acc.length + 1 : Nat) : Int)) (h ++ [.lst (acc ++ [tok t ln])]) := by
              simp only [evE, List.getElem?_cons_zero, List.getElem?_cons_succ, ev_bind, biD, biLen, seqOf, end_at]
              simp
            exact (cmp_eval e5 (y := .int 3000) (h2 := h ++ [.lst (acc ++ [tok t ln])]) (by simp only [evE, gMT]; rfl)).trans cmp_gt
          refine ⟨fun hm => ?_, fun hm => ?_⟩
          · rw [decide_eq_true (show (3000 : Int) < ((acc.length + 1 : Nat) : Int) by omega)] at t4
            exact ⟨_, hd_nx (b := b5.tl.tl.hd.th) rfl a1 |>.trans (seq_ex ((ite_f t1 rfl).trans (seq_ex ((ite_f t2 rfl).trans (seq_ex ((ite_f t3 rfl).trans ((seq_nx a2).trans ((seq_nx a3).trans ((seq_nx a4).trans (seq_ex ((ite_t t4 rfl).trans (seq_ex (raise2_eval (a := .int ln) (b := .str "many") (h1 := h ++ [.lst (acc ++ [tok t ln])]) (by simp only [evE, List.getElem?_cons_zero, List.getElem?_cons_succ, ev_bind]))))))))))))))⟩
          · rw [decide_eq_false (show ¬ (3000 : Int) < ((acc.length + 1 : Nat) : Int) by omega)] at t4
            exact ⟨_, _, hd_nx (b := b5.tl.tl.hd.th) rfl a1 |>.trans ((seq_nx ((ite_f t1 rfl).trans ((seq_nx ((ite_f t2 rfl).trans ((seq_nx ((ite_f t3 rfl).trans ((seq_nx a2).trans ((seq_nx a3).trans ((seq_nx a4).trans ((seq_nx ((ite_f t4 rfl).trans nop_eval)).trans nop_eval)))))).trans nop_eval))).trans nop_eval))).trans nop_eval)⟩
end
end Pr
namespace Pr
open PySem L2 DI
section
variable {k : Nat} {h : Hs} {cs : List Nat}
theorem test5 {at_ : Nat} {ln : Int} {a b : Option D} {acc : List D} (hl : cs.length ≤ 10000) : evE G (Phi G T (k + 1)) (.cmp .Lt (.var 2) (.bi .len (.cons (.var 0) .nil))) (S5 cs h.length at_ ln a b) (h ++ [.lst acc]) = .ok (.bl (decide (at_ < cs.length))) (h ++ [.lst acc]) := by
  have hlim : cs.length ≤ lim := Nat.le_trans hl (by decide)
  simp only [evE, List.getElem?_cons_zero, List.getElem?_cons_succ, ev_bind, len_S hlim, cmp_lt]
  congr 2
  rw [decide_eq_decide]; omega
/-- the whole walk of tokens_of's loop -/
theorem loop5 (hl : cs.length ≤ 10000) : ∀ (f at_ : Nat) (ln : Int) (acc : List D) (a b : Option D) (n : Nat), cs.length - at_ ≤ f → acc.length ≤ 3000 → f + 1 ≤ n →
    match runP f (cs.drop at_) ln acc with
    | .done acc' => ∃ sl', whileD (evE G (Phi G T (k + 1)) (.cmp .Lt (.var 2) (.bi .len (.cons (.var 0) .nil)))) (evS G (Phi G T (k + 1)) b5.tl.tl.hd.th) n (S5 cs h.length at_ ln a b) (h ++ [.lst acc]) = .ok (.nx sl') (h ++ [.lst acc']) ∧ sl'[1]? = some (some (.ref h.length)) ∧ (∀ m, (∀ d ∈ acc, d.lo m = true) → ∀ d ∈ acc', d.lo m = true)
    | .err l w => ∃ sl' acc', whileD (evE G (Phi G T (k + 1)) (.cmp .Lt (.var 2) (.bi .len (.cons (.var 0) .nil)))) (evS G (Phi G T (k + 1)) b5.tl.tl.hd.th) n (S5 cs h.length at_ ln a b) (h ++ [.lst acc]) = .ex (exn w l) sl' (h ++ [.lst acc']) := by
  intro f
  induction f with
  | zero =>
    intro at_ ln acc a b n h1 h2 h3
    obtain ⟨n, rfl⟩ : ∃ q, n = q + 1 := ⟨n - 1, by omega⟩
    have t := test5 (k := k) (h := h) (at_ := at_) (ln := ln) (a := a) (b := b) (acc := acc) hl
    rw [decide_eq_false (by omega)] at t
    simp only [runP]
    exact ⟨_, wh_f t rfl, rfl, fun _ hh => hh⟩
  | succ f ih =>
    intro at_ ln acc a b n h1 h2 h3
    obtain ⟨n, rfl⟩ : ∃ q, n = q + 1 := ⟨n - 1, by omega⟩
    have t := test5 (k := k) (h := h) (at_ := at_) (ln := ln) (a := a) (b := b) (acc := acc) hl
    cases hr : cs.drop at_ with
    | nil =>
      have : ¬ at_ < cs.length := by
        intro q
        rw [List.drop_eq_getElem_cons q] at hr; cases hr
      rw [decide_eq_false this] at t
      simp only [runP]
      exact ⟨_, wh_f t rfl, rfl, fun _ hh => hh⟩
    | cons c r =>
      obtain ⟨hlt, hce, hlen⟩ := at_lt hr
      rw [decide_eq_true hlt] at t
      have bd := body5 (k := k) (h := h) (ln := ln) (acc := acc) (a := a) (b := b) hl hr h2
      simp only [runP]
      cases hs : stp c r with
      | bad s =>
        rw [hs] at bd
        obtain ⟨sl', e⟩ := bd
        exact ⟨sl', acc, wh_ex t rfl e⟩
      | go w m nl =>
        rw [hs] at bd
        have adv := stp_adv hs
        have hdm : (c :: r).drop m = cs.drop (at_ + m) := by rw [← hr, List.drop_drop]
        cases w with
        | none =>
          obtain ⟨a', b', e⟩ := bd
          simp only
          rw [hdm, wh_t t rfl e]
          exact ih (at_ + m) _ acc a' b' n (by omega) h2 (by omega)
        | some tt =>
          obtain ⟨e1, e2⟩ := bd
          simp only
          by_cases hm : 3000 < acc.length + 1
          · rw [if_pos hm]
            obtain ⟨sl', e⟩ := e1 hm
            exact ⟨sl', _, wh_ex t rfl e⟩
          · rw [if_neg hm]
            obtain ⟨a', b', e⟩ := e2 hm
            rw [hdm, wh_t t rfl e]
            have := ih (at_ + m) (if nl = true then ln + 1 else ln) (acc ++ [tok tt ln]) a' b' n (by omega) (by simp; omega) (by omega)
            cases hq : runP f (cs.drop (at_ + m)) (if nl = true then ln + 1 else ln) (acc ++ [tok tt ln]) with
            | done acc' =>
              rw [hq] at this
              obtain ⟨sl', z1, z2, z3⟩ := this
              refine ⟨sl', z1, z2, fun m hh => z3 m fun d hd => ?_⟩
              rcases List.mem_append.mp hd with hd | hd
              · exact hh d hd
              · rw [List.mem_singleton.mp hd]; rfl
            | err l w => rw [hq] at this; exact this
theorem los_of {n : Nat} : ∀ {l : List D}, (∀ d ∈ l, d.lo n = true) → D.lo.los n l = true
  | [], _ => rfl
  | d :: l, hh => by
    simp only [D.lo.los, hh d List.mem_cons_self, Bool.true_and]
    exact los_of fun x hx => hh x (List.mem_cons_of_mem _ hx)
def outD : Out2 → D
  | .done acc => .tup acc
  | .err l w => .lst [.int l, .str (Str.ofString w)]
def resO (h : Hs) : Out2 → R D
  | .done acc => .ok (.tup acc) h
  | .err l w => .ex (exn w l) h
theorem tokens_eq (hl : cs.length ≤ 10000) : Phi G T (k + 2) 5 [TX cs] h = resO h (runP cs.length cs 1 []) := by
  have h3 : 3 ≤ lim := by decide
  have hwf : 10002 ≤ wf := by decide
  rw [call_ok (fn := f5) rfl rfl]
  show fin true h (evS G (Phi G T (k + 1)) b5 [some (TX cs), none, none, none, none, none] h) = _
  have a1 : evS G (Phi G T (k + 1)) b5.hd [some (TX cs), none, none, none, none, none] h = .ok (.nx [some (TX cs), none, none, none, none, none]) h := by
    simp [b5, S.hd, evS, evE, isiB]
  have a2 : evS G (Phi G T (k + 1)) b5.tl.hd [some (TX cs), none, none, none, none, none] h = .ok (.nx (S5 cs h.length 0 1 none none)) (h ++ [.lst []]) := by
    simp [b5, S.hd, S.tl, evS, evE, mkL, h3]
  have lp := loop5 (k := k) (h := h) hl cs.length 0 1 [] none none wf (by omega) (by simp) (by omega)
  rw [List.drop_zero] at lp
  cases hq : runP cs.length cs 1 [] with
  | err l w =>
    rw [hq] at lp
    obtain ⟨sl', acc', e⟩ := lp
    have a3 : evS G (Phi G T (k + 1)) b5.tl.tl.hd (S5 cs h.length 0 1 none none) (h ++ [.lst []]) = .ex (exn w l) sl' (h ++ [.lst acc']) := by
      show evS G (Phi G T (k + 1)) (.while (.cmp .Lt (.var 2) (.bi .len (.cons (.var 0) .nil))) b5.tl.tl.hd.th) _ _ = _
      rw [evS]; exact e
    rw [hd_nx (b := b5) rfl a1, hd_nx (b := b5.tl) rfl a2, hd_ex (b := b5.tl.tl) rfl a3]
    exact fin_exf take_end
  | done acc =>
    rw [hq] at lp
    obtain ⟨sl', e, g1, lo⟩ := lp
    have a3 : evS G (Phi G T (k + 1)) b5.tl.tl.hd (S5 cs h.length 0 1 none none) (h ++ [.lst []]) = .ok (.nx sl') (h ++ [.lst acc]) := by
      show evS G (Phi G T (k + 1)) (.while (.cmp .Lt (.var 2) (.bi .len (.cons (.var 0) .nil))) b5.tl.tl.hd.th) _ _ = _
      rw [evS]; exact e
    have a4 : evS G (Phi G T (k + 1)) b5.tl.tl.tl sl' (h ++ [.lst acc]) = .ok (.rt (.tup acc)) (h ++ [.lst acc]) :=
      seq_rt (ret_eval (by simp only [evE, g1, ev_bind, biD, biTuple, isLst, end_at]))
    rw [hd_nx (b := b5) rfl a1, hd_nx (b := b5.tl) rfl a2, hd_nx (b := b5.tl.tl) rfl a3, a4]
    exact fin_ext take_end (by
      simp only [D.lo]
      exact los_of (lo h.length fun d hd => by cases hd))
theorem tokens_no {d : D} (hd : isiD "str" d h = .ok (.bl false) h) : Phi G T (k + 2) 5 [d] h = .ex (exn "text" 0) h := by
  rw [call_ok (fn := f5) rfl rfl]
  show fin true h (evS G (Phi G T (k + 1)) b5 [some d, none, none, none, none, none] h) = _
  have t1 : evE G (Phi G T (k + 1)) (.not (.isi "str" (.var 0))) [some d, none, none, none, none, none] h = .ok (.bl true) h := by
    simp only [evE, List.getElem?_cons_zero, ev_bind, hd, tr_bl]; rfl
  rw [hd_ex (b := b5) rfl ((ite_t t1 rfl).trans (seq_ex (raise2_eval (a := .int 0) (b := .str "text") (h1 := h) (by simp only [evE, ev_bind]))))]
  exact fin_exf List.take_length
theorem asked_of {d : D} {o : Out2} (e : Phi G T (k + 2) 5 [d] h = resO h o) (hlo : ∀ acc, o = .done acc → ∀ n, D.lo.los n acc = true) : Phi G T (k + 3) 6 [d] h = .ok (outD o) h := by
  rw [call_ok (fn := f6) rfl rfl]
  show fin true h (evS G (Phi G T (k + 2)) b6 [some d, none] h) = _
  have hc : evE G (Phi G T (k + 2)) (.call 5 (.cons (.var 0) .nil)) [some d, none] h = resO h o := (call_eval (xs := [d]) (h1 := h) (by simp only [evE, List.getElem?_cons_zero, ev_bind])).trans e
  cases o with
  | done acc =>
    have e1 : evS G (Phi G T (k + 2)) b6 [some d, none] h = .ok (.rt (.tup acc)) h := by
      simp only [evE] at hc
      simp only [b6, evS, evE, hc, resO, ev_st]
    rw [e1]
    exact fin_pure (by simp only [D.lo]; exact hlo acc rfl _)
  | err l w =>
    have e1 : evS G (Phi G T (k + 2)) b6 [some d, none] h = .ok (.rt (.lst [.int l, .str (Str.ofString w)])) h := by
      simp only [evE] at hc
      simp only [b6, evS, evE, hc, resO, ev_stx]
      rfl
    rw [e1]
    exact fin_pure rfl
end
end Pr
namespace Pr
open PySem L2 DI
theorem cnt_run (P : Nat → Bool) : ∀ l : List Nat, ((List.range l.length).filter fun j => (l.take (j + 1)).all P).length = rl P l
  | [] => rfl
  | c :: r => by
    have ih := cnt_run P r
    rw [List.length_cons, List.range_succ_eq_map, List.filter_cons]
    have e : (List.filter (fun j => ((c :: r).take (j + 1)).all P) ((List.range r.length).map Nat.succ)).length = if P c = true then rl P r else 0 := by
      rw [List.filter_map, List.length_map]
      cases hP : P c with
      | true =>
        rw [if_pos rfl, ← ih]
        congr 1
        refine List.filter_congr fun j _ => ?_
        simp [hP]
      | false =>
        have : (List.filter ((fun j => ((c :: r).take (j + 1)).all P) ∘ Nat.succ) (List.range r.length)) = [] := by
          rw [List.filter_eq_nil_iff]
          intro j _
          simp [hP]
        rw [this]; rfl
    have e0 : ((c :: r).take (0 + 1)).all P = P c := by simp
    rw [e0]
    cases hP : P c with
    | true =>
      rw [hP, if_pos rfl] at e
      rw [if_pos rfl, List.length_cons, e]
      simp [rl, hP]; omega
    | false =>
      rw [hP, if_neg (by decide)] at e
      rw [if_neg (by decide), e]
      simp [rl, hP]
theorem spl_head : ∀ (l acc : List Nat), ∃ t, TL.spl [10] 0 acc l = (acc ++ l.take (rl (fun x => !decide (x = 10)) l)) :: t ∧ t.length ≤ l.length
  | [], acc => ⟨[], by simp [rl, TL.spl], Nat.le_refl _⟩
  | c :: r, acc => by
    by_cases hc : c = 10
    · have hp : TL.pre [10] (c :: r) = true := by subst hc; rfl
      obtain ⟨t, e, ht⟩ := spl_head r []
      rw [TL.spl_hit hp]
      refine ⟨TL.spl [10] 0 [] r, by simp [rl, hc], ?_⟩
      rw [e]; simp; omega
    · have hp : ¬ TL.pre [10] (c :: r) = true := by
        unfold TL.pre
        simp [hc]
      obtain ⟨t, e, ht⟩ := spl_head r (acc ++ [c])
      refine ⟨t, ?_, by simp; omega⟩
      show (if TL.pre [10] (c :: r) = true then acc :: TL.spl [10] 0 [] r else TL.spl [10] 0 (acc ++ [c]) r) = _
      rw [if_neg hp, e]
      simp [rl, hc, Nat.add_comm 1]
section
variable {k : Nat} {h : Hs} {cs : List Nat}
theorem split_eq {l : List Nat} (hl : l.length ≤ 10000) : ∃ t, mtD .split (TX l) [TX [10]] h = .ok (.lst (TX (l.take (rl (fun x => !decide (x = 10)) l)) :: t)) h := by
  obtain ⟨t, e, ht⟩ := spl_head l []
  rw [List.nil_append] at e
  refine ⟨t.map TX, ?_⟩
  have h1 : (SX.S [10]).length ≠ 0 ∧ (SX.S l).length + 2 ≤ lim := ⟨by rw [SX.S_len]; simp, by rw [SX.S_len]; exact Nat.le_trans (Nat.add_le_add_right hl 2) (by decide)⟩
  show mtSplit (TX l) [TX [10]] h = _
  simp only [mtSplit]
  rw [if_pos h1, SX.split_S (by simp) (by decide), e]
  unfold mkL
  have h2 : ((((l.take (rl (fun x => !decide (x = 10)) l)) :: t).map SX.S).map D.str).length ≤ lim := by
    simp only [List.length_map, List.length_cons]
    exact Nat.le_trans (Nat.succ_le_succ (Nat.le_trans ht hl)) (by decide)
  rw [if_pos h2]
  simp [List.map_map, Function.comp]
/-- the inner list of a word's signs -/
theorem inner_all {Φ : Nat → List D → Hs → R D} {sl : SL} {src : E} {z Sg : List Nat} (hz : z.length ≤ 10000) (es : evE G Φ src sl h = .ok (TX z) h) (h11 : 11 < sl.length) (h8 : ∀ x, ((sl.set 11 none).set 11 (some x))[8]? = some (some (TX Sg))) :
    evE G Φ (.bi .all (.cons (.lc false [11] (.nm 11) .seq src (.kB true) (.cmp .In (.var 11) (.var 8))) .nil)) sl h = .ok (.bl (z.all fun c => decide (c ∈ Sg))) h := by
  have hlim : z.length ≤ lim := Nat.le_trans hz (by decide)
  have it : itemsOf .seq (TX z) h = some (z.map fun c => TX [c]) := rfl
  have e := lc_eval (G := G) (Φ := Φ) (own := [11]) (tg := .nm 11) (k := .seq) (src := src) (cond := .kB true) (elt := .cmp .In (.var 11) (.var 8)) (sl := sl) (h := h) (h1 := h) (v := TX z) (items := z.map fun c => TX [c])
    (fun d => match cmpO .In d (TX Sg) h with | some b => some (.bl b) | none => none) es it (by simpa using hlim) (fun x hx => by
      obtain ⟨c, hc, rfl⟩ := List.mem_map.mp hx
      have g11 : ((sl.set 11 none).set 11 (some (TX [c])))[11]? = some (some (TX [c])) := List.getElem?_set_self (by simpa using h11)
      exact ⟨(sl.set 11 none).set 11 (some (TX [c])), .bl true, rfl, by simp only [evE], .inr ⟨rfl, .bl (decide (c ∈ Sg)), by simp only [evE, g11, h8, ev_bind, in_S], rfl⟩⟩)
  have em : ((z.map fun c => TX [c]).filterMap fun d => match cmpO .In d (TX Sg) h with | some b => some (D.bl b) | none => none) = z.map fun c => .bl (decide (c ∈ Sg)) := by
    rw [List.filterMap_map]
    have : ((fun d => match cmpO .In d (TX Sg) h with | some b => some (D.bl b) | none => none) ∘ fun c => TX [c]) = fun c => some (D.bl (decide (c ∈ Sg))) := by funext c; rfl
    rw [this]; simp
  rw [em] at e
  have hb : ∀ l : List Nat, bls (l.map fun c => D.bl (decide (c ∈ Sg))) = some (l.map fun c => decide (c ∈ Sg)) := fun l => by
    induction l with
    | nil => rfl
    | cons a l ih => simp [bls, ih]
  refine (bi_eval (cons_eval e nil_eval)).trans ?_
  simp only [biD, biAll, isLst, hb]
  congr 2
  rw [List.all_map]; rfl
/-- the slots of _law_tokens -/
abbrev S7 (cs : List Nat) (L at_ : Nat) (ln : Int) (tn sg re sa en : Option D) : SL := [some (TX cs), some (.lst (DB.map TX)), tn, some (.ref L), some (.int (at_ : Nat)), some (.int ln), sg, re, sa, en, none, none]
theorem end_eq {Φ : Nat → List D → Hs → R D} {at_ : Nat} {ln : Int} {tn sg re en : Option D} {Sg : List Nat} {L : Nat} {h : Hs} (hl : cs.length ≤ 10000) (ha : at_ < cs.length) :
    evE G Φ (.bi .len (.cons (.lc false [10] (.nm 10) .range2 (.cons (.var 4) (.cons (.bi .len (.cons (.var 0) .nil)) .nil)) (.bi .all (.cons (.lc false [11] (.nm 11) .seq (.slice false (.var 0) (.var 4) (.bin false .Add (.var 10) (.kI 1))) (.kB true) (.cmp .In (.var 11) (.var 8))) .nil)) (.var 10)) .nil)) (S7 cs L at_ ln tn sg re (some (TX Sg)) en) h =
      .ok (.int (rl (fun x => decide (x ∈ Sg)) (cs.drop at_) : Nat)) h := by
  have hlim : cs.length ≤ lim := Nat.le_trans hl (by decide)
  have hla : (cs.drop at_).length = cs.length - at_ := List.length_drop
  have e := lc_eval (G := G) (Φ := Φ) (own := [10]) (tg := .nm 10) (k := .range2) (src := .cons (.var 4) (.cons (.bi .len (.cons (.var 0) .nil)) .nil)) (cond := .bi .all (.cons (.lc false [11] (.nm 11) .seq (.slice false (.var 0) (.var 4) (.bin false .Add (.var 10) (.kI 1))) (.kB true) (.cmp .In (.var 11) (.var 8))) .nil)) (elt := .var 10)
    (sl := S7 cs L at_ ln tn sg re (some (TX Sg)) en) (h := h) (h1 := h) (v := .tup [.int (at_ : Nat), .int cs.length]) (items := rangeD at_ cs.length)
    (fun d => match d with | .int i => if (((cs.drop at_).take (i.toNat - at_ + 1)).all fun c => decide (c ∈ Sg)) = true then some (.int i) else none | _ => none)
    (by simp only [evE, List.getElem?_cons_zero, List.getElem?_cons_succ, ev_bind, len_S hlim]) (items_range2 (by omega) (by omega) (by omega) (by omega)) (by simp [rangeD]; omega) (fun x hx => by
      obtain ⟨j, hj, rfl⟩ := List.mem_map.mp hx
      have hj' : j < cs.length - at_ := by have := List.mem_range.mp hj; omega
      have hjt : (((at_ : Int) + (j : Int)).toNat - at_ + 1) = j + 1 := by omega
      have sl := sl_S (h := h) (i := at_) (j := at_ + j + 1) hlim (by omega) (by omega)
      rw [show at_ + j + 1 - at_ = j + 1 by omega] at sl
      have es : evE G Φ (.slice false (.var 0) (.var 4) (.bin false .Add (.var 10) (.kI 1))) [some (TX cs), some (.lst (DB.map TX)), tn, some (.ref L), some (.int (at_ : Nat)), some (.int ln), sg, re, some (TX Sg), en, some (.int ((at_ : Int) + (j : Int))), none] h = .ok (TX ((cs.drop at_).take (j + 1))) h := by
        simp only [evE, List.getElem?_cons_zero, List.getElem?_cons_succ, ev_bind, isKN, partD, bin_add]
        have : ((at_ : Int) + (j : Int) + 1) = ((at_ + j + 1 : Nat) : Int) := by omega
        rw [this]; exact sl
      have ea := inner_all (Φ := Φ) (Sg := Sg) (sl := [some (TX cs), some (.lst (DB.map TX)), tn, some (.ref L), some (.int (at_ : Nat)), some (.int ln), sg, re, some (TX Sg), en, some (.int ((at_ : Int) + (j : Int))), none]) (by rw [List.length_take]; omega) es (by simp) (fun x => rfl)
      refine ⟨[some (TX cs), some (.lst (DB.map TX)), tn, some (.ref L), some (.int (at_ : Nat)), some (.int ln), sg, re, some (TX Sg), en, some (.int ((at_ : Int) + (j : Int))), none], _, rfl, ea, ?_⟩
      cases hb : (((cs.drop at_).take (j + 1)).all fun c => decide (c ∈ Sg)) with
      | true => exact .inr ⟨rfl, .int ((at_ : Int) + (j : Int)), by simp only [evE, List.getElem?_cons_zero, List.getElem?_cons_succ], by simp only [hjt, hb, if_true]⟩
      | false => exact .inl ⟨rfl, by simp only [hjt, hb]; rfl⟩)
  refine (bi_eval (cons_eval e nil_eval)).trans ?_
  simp only [biD, biLen, seqOf]
  congr 2
  have hc := cnt_run (fun x => decide (x ∈ Sg)) (cs.drop at_)
  rw [← hc, hla]
  unfold rangeD
  rw [List.filterMap_map, show ((cs.length : Int) - (at_ : Int)).toNat = cs.length - at_ by omega]
  have : ∀ l : List Nat, (l.filterMap ((fun d => match d with | .int i => if (((cs.drop at_).take (i.toNat - at_ + 1)).all fun c => decide (c ∈ Sg)) = true then some (D.int i) else none | _ => none) ∘ fun (j : Nat) => D.int ((at_ : Int) + (j : Int)))).length = (l.filter fun j => ((cs.drop at_).take (j + 1)).all fun c => decide (c ∈ Sg)).length := fun l => by
    induction l with
    | nil => rfl
    | cons j l ih =>
      have hjt : (((at_ : Int) + (j : Int)).toNat - at_ + 1) = j + 1 := by omega
      cases hb : (((cs.drop at_).take (j + 1)).all fun c => decide (c ∈ Sg)) with
      | true => rw [List.filterMap_cons_some (b := D.int ((at_ : Int) + (j : Int))) (by simp only [Function.comp, hjt, hb, if_true]), List.filter_cons_of_pos (by simpa using hb), List.length_cons, List.length_cons, ih]
      | false => rw [List.filterMap_cons_none (by simp only [Function.comp, hjt, hb]; rfl), List.filter_cons_of_neg (by rw [hb]; decide), ih]
  exact_mod_cast this _
end
end Pr
namespace Pr
open PySem L2 DI
theorem kFI : (.str "0123456789" : D) = TX FI := by unfold TX FI; rw [SX.S_tl]
theorem kSM : (.str "abcdefghijklmnopqrstuvwxyz" : D) = TX SM := by unfold TX SM; rw [SX.S_tl]
theorem kSI : (.str "+-*/&|^<>=!(){}[];,." : D) = TX SI := by unfold TX SI; rw [SX.S_tl]
theorem kSF : (.str "abcdefghijklmnopqrstuvwxyz0123456789" : D) = TX (SM ++ FI) := by
  have : SM ++ FI = (Str.ofString "abcdefghijklmnopqrstuvwxyz0123456789").cps.toList := by decide +kernel
  unfold TX; rw [this, SX.S_tl]
theorem dis : ∀ c ∈ SM, c ∉ FI := by decide +kernel
section
variable {k : Nat} {h : Hs} {cs : List Nat} {ln : Int}
theorem body7 {at_ : Nat} {c : Nat} {r : List Nat} {acc : List D} {tn sg re sa en : Option D} (hl : cs.length ≤ 10000) (hr : cs.drop at_ = c :: r) (hacc : acc.length ≤ 10000) :
    match stp c r with
    | .bad s => evS G (Phi G T k) b7.tl.tl.hd.th (S7 cs h.length at_ ln tn sg re sa en) (h ++ [.lst acc]) = .ok (.rt (.lst [.int ln, .str (Str.ofString s)])) (h ++ [.lst acc])
    | .go w m nl => ∃ sg' re' sa' en', evS G (Phi G T k) b7.tl.tl.hd.th (S7 cs h.length at_ ln tn sg re sa en) (h ++ [.lst acc]) = .ok (.nx (S7 cs h.length (at_ + m) (if nl then ln + 1 else ln) tn sg' re' sa' en')) (h ++ [.lst (match w with | some t => acc ++ [tok t ln] | none => acc)]) := by
  obtain ⟨hlt, hce, hlen⟩ := at_lt hr
  have hlim : cs.length ≤ lim := Nat.le_trans hl (by decide)
  have h2 : 2 ≤ lim := by decide
  have ha : acc.length + 1 ≤ lim := Nat.le_trans (Nat.succ_le_succ hacc) (by decide)
  have ex := ix_S (h := h ++ [.lst acc]) hlim hce
  have ltI : ((at_ : Int) < (cs.length : Int)) := by omega
  have t0 : evE G (Phi G T k) (.cmp .Lt (.var 4) (.bi .len (.cons (.var 0) .nil))) (S7 cs h.length at_ ln tn sg re sa en) (h ++ [.lst acc]) = .ok (.bl true) (h ++ [.lst acc]) := by
    simp only [evE, List.getElem?_cons_zero, List.getElem?_cons_succ, ev_bind, len_S hlim, cmp_lt, ltI, decide_true]
  have a1 : evS G (Phi G T k) (.asg (.nm 6) (.ix (.var 0) (.var 4))) (S7 cs h.length at_ ln tn sg re sa en) (h ++ [.lst acc]) = .ok (.nx (S7 cs h.length at_ ln tn (some (TX [c])) re sa en)) (h ++ [.lst acc]) :=
    asg_eval (d := TX [c]) (by simp only [evE, List.getElem?_cons_zero, List.getElem?_cons_succ, ev_bind, ex]) rfl
  have g6 : ∀ re sa en, evE G (Phi G T k) (.var 6) (S7 cs h.length at_ ln tn (some (TX [c])) re sa en) (h ++ [.lst acc]) = .ok (TX [c]) (h ++ [.lst acc]) := fun re sa en => by simp only [evE, List.getElem?_cons_zero, List.getElem?_cons_succ]
  have t1 : evE G (Phi G T k) (.cmp .Eq (.var 6) (.kS "\n")) (S7 cs h.length at_ ln tn (some (TX [c])) re sa en) (h ++ [.lst acc]) = .ok (.bl (decide (c = 10))) (h ++ [.lst acc]) := by
    refine (cmp_eval (g6 re sa en) (y := TX [10]) (h2 := h ++ [.lst acc]) (by simp only [evE]; rfl)).trans (eq_S.trans ?_)
    congr 2; simp
  have t2 : evE G (Phi G T k) (.cmp .Eq (.var 6) (.kS " ")) (S7 cs h.length at_ ln tn (some (TX [c])) re sa en) (h ++ [.lst acc]) = .ok (.bl (decide (c = 32))) (h ++ [.lst acc]) := by
    refine (cmp_eval (g6 re sa en) (y := TX [32]) (h2 := h ++ [.lst acc]) (by simp only [evE]; rfl)).trans (eq_S.trans ?_)
    congr 2; simp
  have or1 : evE G (Phi G T k) (.or (.cmp .Eq (.var 6) (.kS "\n")) (.cmp .Eq (.var 6) (.kS " "))) (S7 cs h.length at_ ln tn (some (TX [c])) re sa en) (h ++ [.lst acc]) = .ok (.bl (decide (c = 10) || decide (c = 32))) (h ++ [.lst acc]) := by
    cases hb : decide (c = 10) with
    | true =>
      rw [hb] at t1
      simp only [evE] at t1 ⊢
      rw [t1]; rfl
    | false =>
      rw [hb] at t1
      rw [or_f t1 rfl, t2]; rfl
  -- into the turn
  have into : ∀ {o : SR}, evS G (Phi G T k) b7.tl.tl.hd.th.hd.th.tl.hd (S7 cs h.length at_ ln tn (some (TX [c])) re sa en) (h ++ [.lst acc]) = o → (∀ sl2 h2, o = .ok (.nx sl2) h2 → evS G (Phi G T k) b7.tl.tl.hd.th (S7 cs h.length at_ ln tn sg re sa en) (h ++ [.lst acc]) = .ok (.nx sl2) h2) ∧ (∀ d h2, o = .ok (.rt d) h2 → evS G (Phi G T k) b7.tl.tl.hd.th (S7 cs h.length at_ ln tn sg re sa en) (h ++ [.lst acc]) = .ok (.rt d) h2) := fun {o} e =>
    ⟨fun sl2 h2 eo => (hd_nx (b := b7.tl.tl.hd.th) rfl ((ite_t t0 rfl).trans ((seq_nx a1).trans ((seq_nx (e.trans eo)).trans nop_eval)))).trans nop_eval,
     fun d h2 eo => hd_rt (b := b7.tl.tl.hd.th) rfl ((ite_t t0 rfl).trans ((seq_nx a1).trans (seq_rt (e.trans eo))))⟩
  have sl := sl_S (h := h ++ [.lst acc]) (i := at_) (j := at_ + 2) hlim (by omega) (by omega)
  rw [hr, show at_ + 2 - at_ = 2 by omega] at sl
  have e2 : evE G (Phi G T k) (.slice false (.var 0) (.var 4) (.bin false .Add (.var 4) (.kI 2))) (S7 cs h.length at_ ln tn (some (TX [c])) re sa en) (h ++ [.lst acc]) = .ok (TX ((c :: r).take 2)) (h ++ [.lst acc]) := by
    simp only [evE, List.getElem?_cons_zero, List.getElem?_cons_succ, ev_bind, isKN, partD, bin_add]
    have : ((at_ : Int) + 2) = ((at_ + 2 : Nat) : Int) := by omega
    rw [this]; exact sl
  have t3 : evE G (Phi G T k) (.cmp .Eq (.slice false (.var 0) (.var 4) (.bin false .Add (.var 4) (.kI 2))) (.kS "//")) (S7 cs h.length at_ ln tn (some (TX [c])) re sa en) (h ++ [.lst acc]) = .ok (.bl (decide ((c :: r).take 2 = [47, 47]))) (h ++ [.lst acc]) :=
    (cmp_eval e2 (y := TX [47, 47]) (h2 := h ++ [.lst acc]) (by simp only [evE]; rfl)).trans eq_S
  unfold stp
  by_cases c10 : c = 10
  · rw [if_pos c10]
    have o1 := or1
    rw [decide_eq_true c10] at o1 t1
    refine ⟨some (TX [c]), re, sa, en, (into rfl).1 _ _ ?_⟩
    refine (ite_t o1 rfl).trans ((seq_nx (sl1 := S7 cs h.length (at_ + 1) (ln + 1) tn (some (TX [c])) re sa en) (h1 := h ++ [.lst acc]) (asg_eval (d := .tup [.int (ln + 1), .int ((at_ : Int) + 1)]) (tup_eval (cons_eval (x := .int (ln + 1)) (h1 := h ++ [.lst acc]) ?_ (cons_eval (x := .int ((at_ : Int) + 1)) (h1 := h ++ [.lst acc]) ?_ nil_eval)) h2) ?_)).trans nop_eval)
    · refine (bin_eval (x := .int ln) (y := .int 1) (h1 := h ++ [.lst acc]) (by simp only [evE, List.getElem?_cons_zero, List.getElem?_cons_succ]) ((bi_eval (cons_eval t1 nil_eval)).trans rfl)).trans bin_add
    · simp only [evE, List.getElem?_cons_zero, List.getElem?_cons_succ, ev_bind, bin_add]
    · simp
  · rw [if_neg c10]
    by_cases c32 : c = 32
    · rw [if_pos c32]
      have o1 := or1
      rw [decide_eq_false c10, decide_eq_true c32] at o1
      rw [decide_eq_false c10] at t1
      refine ⟨some (TX [c]), re, sa, en, (into rfl).1 _ _ ?_⟩
      refine (ite_t o1 rfl).trans ((seq_nx (sl1 := S7 cs h.length (at_ + 1) ln tn (some (TX [c])) re sa en) (h1 := h ++ [.lst acc]) (asg_eval (d := .tup [.int (ln + 0), .int ((at_ : Int) + 1)]) (tup_eval (cons_eval (x := .int (ln + 0)) (h1 := h ++ [.lst acc]) ?_ (cons_eval (x := .int ((at_ : Int) + 1)) (h1 := h ++ [.lst acc]) ?_ nil_eval)) h2) ?_)).trans nop_eval)
      · refine (bin_eval (x := .int ln) (y := .int 0) (h1 := h ++ [.lst acc]) (by simp only [evE, List.getElem?_cons_zero, List.getElem?_cons_succ]) ((bi_eval (cons_eval t1 nil_eval)).trans rfl)).trans bin_add
      · simp only [evE, List.getElem?_cons_zero, List.getElem?_cons_succ, ev_bind, bin_add]
      · simp
    · rw [if_neg c32]
      have o1 := or1
      rw [decide_eq_false c10, decide_eq_false c32] at o1
      by_cases css : (c :: r).take 2 = [47, 47]
      · rw [if_pos css]
        rw [decide_eq_true css] at t3
        generalize hR : rl (fun x => !decide (x = 10)) (c :: r) = R
        have hRl : R ≤ (c :: r).length := by rw [← hR]; exact rl_le _ _
        obtain ⟨t, esp⟩ := split_eq (h := h ++ [.lst acc]) (l := c :: r) (by rw [hlen]; omega)
        rw [hR] at esp
        have e3 : evE G (Phi G T k) (.slice false (.var 0) (.var 4) .kN) (S7 cs h.length at_ ln tn (some (TX [c])) re sa en) (h ++ [.lst acc]) = .ok (TX (c :: r)) (h ++ [.lst acc]) := by
          have := slf_S (h := h ++ [.lst acc]) (i := at_) hlim
          rw [hr] at this
          simp only [evE, List.getElem?_cons_zero, List.getElem?_cons_succ, ev_bind, isKN, partD]
          exact this
        have e4 : evE G (Phi G T k) (.ix (.meth .split (.slice false (.var 0) (.var 4) .kN) (.cons (.kS "\n") .nil)) (.kI 0)) (S7 cs h.length at_ ln tn (some (TX [c])) re sa en) (h ++ [.lst acc]) = .ok (TX ((c :: r).take R)) (h ++ [.lst acc]) := by
          have em := (meth_eval (m := .split) (a := .cons (.kS "\n") .nil) (ys := [TX [10]]) (h2 := h ++ [.lst acc]) e3 rfl (by simp only [evE, ev_bind]; rfl)).trans esp
          exact (ix_eval em (y := .int 0) (h2 := h ++ [.lst acc]) (by simp only [evE])).trans ixl0
        have htk : ((c :: r).take R).length = R := by rw [List.length_take]; omega
        have hRlim : ((c :: r).take R).length ≤ lim := by rw [htk]; omega
        have e5 : evE G (Phi G T k) (.bin false .Add (.var 4) (.bi .len (.cons (.var 7) .nil))) (S7 cs h.length at_ ln tn (some (TX [c])) (some (TX ((c :: r).take R))) sa en) (h ++ [.lst acc]) = .ok (.int ((at_ + R : Nat) : Int)) (h ++ [.lst acc]) := by
          simp only [evE, List.getElem?_cons_zero, List.getElem?_cons_succ, ev_bind, len_S hRlim, bin_add, htk]
          congr 2
        refine ⟨some (TX [c]), some (TX ((c :: r).take R)), sa, en, (into rfl).1 _ _ ?_⟩
        exact (ite_f o1 rfl).trans ((seq_nx ((ite_t t3 rfl).trans ((seq_nx (asg_eval e4 rfl)).trans ((seq_nx (asg_eval e5 rfl)).trans nop_eval)))).trans nop_eval)
      · rw [if_neg css]
        rw [decide_eq_false css] at t3
        have t4 : evE G (Phi G T k) (.cmp .In (.var 6) (.kS "abcdefghijklmnopqrstuvwxyz0123456789")) (S7 cs h.length at_ ln tn (some (TX [c])) re sa en) (h ++ [.lst acc]) = .ok (.bl (decide (c ∈ SM ++ FI))) (h ++ [.lst acc]) :=
          (cmp_eval (g6 re sa en) (y := TX (SM ++ FI)) (h2 := h ++ [.lst acc]) (by simp only [evE]; rw [kSF])).trans in_S
        have t5 : ∀ re sa en, evE G (Phi G T k) (.cmp .In (.var 6) (.kS "0123456789")) (S7 cs h.length at_ ln tn (some (TX [c])) re sa en) (h ++ [.lst acc]) = .ok (.bl (decide (c ∈ FI))) (h ++ [.lst acc]) := fun re sa en =>
          (cmp_eval (g6 re sa en) (y := TX FI) (h2 := h ++ [.lst acc]) (by simp only [evE]; rw [kFI])).trans in_S
        have word : ∀ (Sg : List Nat) (mo : Int) (told : String), (if c ∈ FI then FI else SM) = Sg → (if c ∈ FI then (10 : Int) else 12) = mo → (if c ∈ FI then "number" else "name") = told → c ∈ SM ++ FI →
            (mo < (rl (fun x => decide (x ∈ Sg)) (c :: r) : Nat) → evS G (Phi G T k) b7.tl.tl.hd.th (S7 cs h.length at_ ln tn sg re sa en) (h ++ [.lst acc]) = .ok (.rt (.lst [.int ln, .str (Str.ofString told)])) (h ++ [.lst acc])) ∧
            (¬ mo < (rl (fun x => decide (x ∈ Sg)) (c :: r) : Nat) → ∃ sg' re' sa' en', evS G (Phi G T k) b7.tl.tl.hd.th (S7 cs h.length at_ ln tn sg re sa en) (h ++ [.lst acc]) = .ok (.nx (S7 cs h.length (at_ + rl (fun x => decide (x ∈ Sg)) (c :: r)) ln tn sg' re' sa' en')) (h ++ [.lst (acc ++ [tok ((c :: r).take (rl (fun x => decide (x ∈ Sg)) (c :: r))) ln])])) := fun Sg mo told hSg hmo htold hcm => by
          rw [decide_eq_true hcm] at t4
          have eo := end_eq (Φ := Phi G T k) (h := h ++ [.lst acc]) (L := h.length) (ln := ln) (tn := tn) (sg := some (TX [c])) (re := re) (en := en) (Sg := Sg) hl hlt
          rw [hr] at eo
          generalize hR : rl (fun x => decide (x ∈ Sg)) (c :: r) = R at eo ⊢
          have hRl : R ≤ (c :: r).length := by rw [← hR]; exact rl_le _ _
          have b1 : evS G (Phi G T k) (.asg (.nm 8) (.ite (.cmp .In (.var 6) (.kS "0123456789")) (.kS "0123456789") (.kS "abcdefghijklmnopqrstuvwxyz"))) (S7 cs h.length at_ ln tn (some (TX [c])) re sa en) (h ++ [.lst acc]) = .ok (.nx (S7 cs h.length at_ ln tn (some (TX [c])) re (some (TX Sg)) en)) (h ++ [.lst acc]) := by
            have t := t5 re sa en
            refine asg_eval (d := TX Sg) ?_ rfl
            simp only [evE] at t ⊢
            rw [t]
            by_cases hf : c ∈ FI
            · rw [if_pos hf] at hSg; subst hSg
              simp only [hf, decide_true, ev_bind, tr_bl, kFI]
            · rw [if_neg hf] at hSg; subst hSg
              simp only [hf, decide_false, ev_bind, tr_bl, kSM]
          have b2 : evS G (Phi G T k) b7.tl.tl.hd.th.hd.th.tl.hd.el.hd.el.hd.th.tl.hd (S7 cs h.length at_ ln tn (some (TX [c])) re (some (TX Sg)) en) (h ++ [.lst acc]) = .ok (.nx (S7 cs h.length at_ ln tn (some (TX [c])) re (some (TX Sg)) (some (.int (R : Nat))))) (h ++ [.lst acc]) := asg_eval eo rfl
          have lim10 : ∀ re sa en, evE G (Phi G T k) (.ite (.cmp .In (.var 6) (.kS "0123456789")) (.kI 10) (.kI 12)) (S7 cs h.length at_ ln tn (some (TX [c])) re sa en) (h ++ [.lst acc]) = .ok (.int mo) (h ++ [.lst acc]) := fun re sa en => by
            have t := t5 re sa en
            simp only [evE] at t ⊢
            rw [t, ← hmo]
            by_cases hf : c ∈ FI <;> simp [hf]
          have nam : ∀ re sa en, evE G (Phi G T k) (.ite (.cmp .In (.var 6) (.kS "0123456789")) (.kS "number") (.kS "name")) (S7 cs h.length at_ ln tn (some (TX [c])) re sa en) (h ++ [.lst acc]) = .ok (.str (Str.ofString told)) (h ++ [.lst acc]) := fun re sa en => by
            have t := t5 re sa en
            simp only [evE] at t ⊢
            rw [t, ← htold]
            by_cases hf : c ∈ FI <;> simp [hf]
          have t6 : evE G (Phi G T k) (.cmp .Gt (.var 9) (.ite (.cmp .In (.var 6) (.kS "0123456789")) (.kI 10) (.kI 12))) (S7 cs h.length at_ ln tn (some (TX [c])) re (some (TX Sg)) (some (.int (R : Nat)))) (h ++ [.lst acc]) = .ok (.bl (decide (mo < (R : Nat)))) (h ++ [.lst acc]) :=
            (cmp_eval (x := .int (R : Nat)) (h1 := h ++ [.lst acc]) (by simp only [evE, List.getElem?_cons_zero, List.getElem?_cons_succ]) (lim10 _ _ _)).trans cmp_gt
          constructor
          · intro hm
            rw [decide_eq_true hm] at t6
            refine (into rfl).2 _ _ ((ite_f o1 rfl).trans (seq_rt ((ite_f t3 rfl).trans (seq_rt ((ite_t t4 rfl).trans ((seq_nx b1).trans ((seq_nx b2).trans (seq_rt ((ite_t t6 rfl).trans (seq_rt (ret_eval ?_)))))))))))
            have e7 := cons_eval (G := G) (Φ := Phi G T k) (a := .var 5) (x := .int ln) (h1 := h ++ [.lst acc]) (sl := S7 cs h.length at_ ln tn (some (TX [c])) re (some (TX Sg)) (some (.int (R : Nat)))) (h := h ++ [.lst acc]) (by simp only [evE, List.getElem?_cons_zero, List.getElem?_cons_succ]) (cons_eval (nam re (some (TX Sg)) (some (.int (R : Nat)))) nil_eval)
            rw [evE, e7]
            simp [mkL, h2]
          · intro hm
            rw [decide_eq_false hm] at t6
            have slw := sl_S (h := h ++ [.lst acc]) (i := at_) (j := at_ + R) hlim (by omega) (by omega)
            rw [hr, show at_ + R - at_ = R by omega] at slw
            have b3 : evS G (Phi G T k) (.expr (.meth .append (.var 3) (.cons (.tup (.cons (.slice false (.var 0) (.var 4) (.bin false .Add (.var 4) (.var 9))) (.cons (.var 5) .nil))) .nil))) (S7 cs h.length at_ ln tn (some (TX [c])) re (some (TX Sg)) (some (.int (R : Nat)))) (h ++ [.lst acc]) = .ok (.nx (S7 cs h.length at_ ln tn (some (TX [c])) re (some (TX Sg)) (some (.int (R : Nat))))) (h ++ [.lst (acc ++ [tok ((c :: r).take R) ln])]) :=
              app_end rfl (tup_eval (xs := [TX ((c :: r).take R), .int ln]) (cons_eval (h1 := h ++ [.lst acc]) (by
                simp only [evE, List.getElem?_cons_zero, List.getElem?_cons_succ, ev_bind, isKN, partD, bin_add]
                have : ((at_ : Int) + (R : Int)) = ((at_ + R : Nat) : Int) := by omega
                rw [this]; exact slw) (cons_eval (h1 := h ++ [.lst acc]) (by simp only [evE, List.getElem?_cons_zero, List.getElem?_cons_succ]) nil_eval)) h2) ha
            have b4' : evS G (Phi G T k) (.asg (.nm 4) (.bin false .Add (.var 4) (.var 9))) (S7 cs h.length at_ ln tn (some (TX [c])) re (some (TX Sg)) (some (.int (R : Nat)))) (h ++ [.lst (acc ++ [tok ((c :: r).take R) ln])]) = .ok (.nx (S7 cs h.length (at_ + R) ln tn (some (TX [c])) re (some (TX Sg)) (some (.int (R : Nat))))) (h ++ [.lst (acc ++ [tok ((c :: r).take R) ln])]) :=
              asg_eval (d := .int ((at_ : Int) + (R : Int))) (by simp only [evE, List.getElem?_cons_zero, List.getElem?_cons_succ, ev_bind, bin_add]) rfl
            exact ⟨_, _, _, _, (into rfl).1 _ _ ((ite_f o1 rfl).trans ((seq_nx ((ite_f t3 rfl).trans ((seq_nx ((ite_t t4 rfl).trans ((seq_nx b1).trans ((seq_nx b2).trans ((seq_nx ((ite_f t6 rfl).trans nop_eval)).trans ((seq_nx b3).trans ((seq_nx b4').trans nop_eval))))))).trans nop_eval))).trans nop_eval))⟩
        have hDB := in_LS (h := h ++ [.lst acc]) (a := (c :: r).take 2) (l := DB)
        unfold wd
        by_cases hs : c ∈ SM
        · have hf : c ∉ FI := dis c hs
          obtain ⟨w1, w2⟩ := word SM 12 "name" (if_neg hf) (if_neg hf) (if_neg hf) (List.mem_append_left _ hs)
          rw [if_pos hs]
          by_cases hm : 12 < rl (fun x => decide (x ∈ SM)) (c :: r)
          · rw [if_pos hm]
            exact w1 (by exact_mod_cast hm)
          · rw [if_neg hm]
            have hle := rl_le (fun x => decide (x ∈ SM)) (c :: r)
            have htk : ((c :: r).take (rl (fun x => decide (x ∈ SM)) (c :: r))).length = rl (fun x => decide (x ∈ SM)) (c :: r) := by rw [List.length_take]; omega
            have := w2 (by exact_mod_cast hm)
            simp only [htk]
            exact this
        · rw [if_neg hs]
          by_cases hf : c ∈ FI
          · obtain ⟨w1, w2⟩ := word FI 10 "number" (if_pos hf) (if_pos hf) (if_pos hf) (List.mem_append_right _ hf)
            rw [if_pos hf]
            by_cases hm : 10 < rl (fun x => decide (x ∈ FI)) (c :: r)
            · rw [if_pos hm]
              exact w1 (by exact_mod_cast hm)
            · rw [if_neg hm]
              have hle := rl_le (fun x => decide (x ∈ FI)) (c :: r)
              have htk : ((c :: r).take (rl (fun x => decide (x ∈ FI)) (c :: r))).length = rl (fun x => decide (x ∈ FI)) (c :: r) := by rw [List.length_take]; omega
              have := w2 (by exact_mod_cast hm)
              simp only [htk]
              exact this
          · rw [if_neg hf]
            have hnm : c ∉ SM ++ FI := fun z => (List.mem_append.mp z).elim hs hf
            rw [decide_eq_false hnm] at t4
            have t6 : evE G (Phi G T k) (.cmp .In (.slice false (.var 0) (.var 4) (.bin false .Add (.var 4) (.kI 2))) (.var 1)) (S7 cs h.length at_ ln tn (some (TX [c])) re sa en) (h ++ [.lst acc]) = .ok (.bl (DB.contains ((c :: r).take 2))) (h ++ [.lst acc]) :=
              (cmp_eval e2 (y := .lst (DB.map TX)) (h2 := h ++ [.lst acc]) (by simp only [evE, List.getElem?_cons_zero, List.getElem?_cons_succ])).trans hDB
            have gl : evE G (Phi G T k) (.var 5) (S7 cs h.length at_ ln tn (some (TX [c])) re sa en) (h ++ [.lst acc]) = .ok (.int ln) (h ++ [.lst acc]) := by simp only [evE, List.getElem?_cons_zero, List.getElem?_cons_succ]
            by_cases hd : DB.contains ((c :: r).take 2) = true
            · rw [if_pos hd]
              rw [hd] at t6
              have htk := dbl_len hd
              have b3 : evS G (Phi G T k) (.expr (.meth .append (.var 3) (.cons (.tup (.cons (.slice false (.var 0) (.var 4) (.bin false .Add (.var 4) (.kI 2))) (.cons (.var 5) .nil))) .nil))) (S7 cs h.length at_ ln tn (some (TX [c])) re sa en) (h ++ [.lst acc]) = .ok (.nx (S7 cs h.length at_ ln tn (some (TX [c])) re sa en)) (h ++ [.lst (acc ++ [tok ((c :: r).take 2) ln])]) :=
                app_end rfl (tup_eval (xs := [TX ((c :: r).take 2), .int ln]) (cons_eval e2 (cons_eval gl nil_eval)) h2) ha
              have b4' : evS G (Phi G T k) (.asg (.nm 4) (.bin false .Add (.var 4) (.kI 2))) (S7 cs h.length at_ ln tn (some (TX [c])) re sa en) (h ++ [.lst (acc ++ [tok ((c :: r).take 2) ln])]) = .ok (.nx (S7 cs h.length (at_ + 2) ln tn (some (TX [c])) re sa en)) (h ++ [.lst (acc ++ [tok ((c :: r).take 2) ln])]) :=
                asg_eval (d := .int ((at_ : Int) + 2)) (by simp only [evE, List.getElem?_cons_zero, List.getElem?_cons_succ, ev_bind, bin_add]) rfl
              simp only [htk]
              exact ⟨_, _, _, _, (into rfl).1 _ _ ((ite_f o1 rfl).trans ((seq_nx ((ite_f t3 rfl).trans ((seq_nx ((ite_f t4 rfl).trans ((seq_nx ((ite_t t6 rfl).trans ((seq_nx b3).trans ((seq_nx b4').trans nop_eval)))).trans nop_eval))).trans nop_eval))).trans nop_eval))⟩
            · rw [if_neg hd]
              rw [Bool.not_eq_true] at hd
              rw [hd] at t6
              have t7 : evE G (Phi G T k) (.cmp .In (.var 6) (.kS "+-*/&|^<>=!(){}[];,.")) (S7 cs h.length at_ ln tn (some (TX [c])) re sa en) (h ++ [.lst acc]) = .ok (.bl (decide (c ∈ SI))) (h ++ [.lst acc]) :=
                (cmp_eval (g6 re sa en) (y := TX SI) (h2 := h ++ [.lst acc]) (by simp only [evE]; rw [kSI])).trans in_S
              by_cases hi : c ∈ SI
              · rw [if_pos hi]
                rw [decide_eq_true hi] at t7
                have b3 : evS G (Phi G T k) (.expr (.meth .append (.var 3) (.cons (.tup (.cons (.var 6) (.cons (.var 5) .nil))) .nil))) (S7 cs h.length at_ ln tn (some (TX [c])) re sa en) (h ++ [.lst acc]) = .ok (.nx (S7 cs h.length at_ ln tn (some (TX [c])) re sa en)) (h ++ [.lst (acc ++ [tok [c] ln])]) :=
                  app_end rfl (tup_eval (xs := [TX [c], .int ln]) (cons_eval (g6 re sa en) (cons_eval gl nil_eval)) h2) ha
                have b4' : evS G (Phi G T k) (.asg (.nm 4) (.bin false .Add (.var 4) (.kI 1))) (S7 cs h.length at_ ln tn (some (TX [c])) re sa en) (h ++ [.lst (acc ++ [tok [c] ln])]) = .ok (.nx (S7 cs h.length (at_ + 1) ln tn (some (TX [c])) re sa en)) (h ++ [.lst (acc ++ [tok [c] ln])]) :=
                  asg_eval (d := .int ((at_ : Int) + 1)) (by simp only [evE, List.getElem?_cons_zero, List.getElem?_cons_succ, ev_bind, bin_add]) rfl
                exact ⟨_, _, _, _, (into rfl).1 _ _ ((ite_f o1 rfl).trans ((seq_nx ((ite_f t3 rfl).trans ((seq_nx ((ite_f t4 rfl).trans ((seq_nx ((ite_f t6 rfl).trans ((seq_nx ((ite_t t7 rfl).trans ((seq_nx b3).trans ((seq_nx b4').trans nop_eval)))).trans nop_eval))).trans nop_eval))).trans nop_eval))).trans nop_eval))⟩
              · rw [if_neg hi]
                rw [decide_eq_false hi] at t7
                refine (into rfl).2 _ _ ((ite_f o1 rfl).trans (seq_rt ((ite_f t3 rfl).trans (seq_rt ((ite_f t4 rfl).trans (seq_rt ((ite_f t6 rfl).trans (seq_rt ((ite_f t7 rfl).trans (seq_rt (ret_eval ?_)))))))))))
                refine (lst_eval (xs := [.int ln, .str "sign"]) (h1 := h ++ [.lst acc]) (cons_eval gl (cons_eval (x := .str "sign") (h1 := h ++ [.lst acc]) (by simp only [evE]) nil_eval))).trans ?_
                simp [mkL, h2]
end
end Pr
namespace Pr
open PySem L2 DI
section
variable {k : Nat} {h : Hs} {cs : List Nat}
theorem run_nil : ∀ (f : Nat) (ln : Int) (acc : List D), run f [] ln acc = .done acc
  | 0, _, _ => rfl
  | _ + 1, _, _ => rfl
theorem loop7 {still : Hs → Bool} (hst : ∀ h, still h = true) (hl : cs.length ≤ 10000) : ∀ (xs : List D) (at_ : Nat) (ln : Int) (acc : List D) (tn sg re sa en : Option D), cs.length - at_ ≤ xs.length → acc.length + xs.length ≤ 10000 →
    match run xs.length (cs.drop at_) ln acc with
    | .done acc' => ∃ sl', forD still (fun x sl1 => setTg (.nm 2) [x] sl1) (evS G (Phi G T k) b7.tl.tl.hd.th) xs (S7 cs h.length at_ ln tn sg re sa en) (h ++ [.lst acc]) = .ok (.nx sl') (h ++ [.lst acc']) ∧ sl'[3]? = some (some (.ref h.length)) ∧ (∀ m, (∀ d ∈ acc, d.lo m = true) → ∀ d ∈ acc', d.lo m = true)
    | .err l w => ∃ acc', forD still (fun x sl1 => setTg (.nm 2) [x] sl1) (evS G (Phi G T k) b7.tl.tl.hd.th) xs (S7 cs h.length at_ ln tn sg re sa en) (h ++ [.lst acc]) = .ok (.rt (.lst [.int l, .str (Str.ofString w)])) (h ++ [.lst acc'])
  | [], at_, ln, acc, tn, sg, re, sa, en, h1, h2 => by
    simp only [List.length_nil, run]
    exact ⟨_, for_nil (hst _), rfl, fun _ hh => hh⟩
  | x :: xs, at_, ln, acc, tn, sg, re, sa, en, h1, h2 => by
    simp only [List.length_cons] at h1 h2 ⊢
    have hb : setTg (.nm 2) [x] (S7 cs h.length at_ ln tn sg re sa en) = some (S7 cs h.length at_ ln (some x) sg re sa en) := rfl
    cases hr : cs.drop at_ with
    | nil =>
      have hge : ¬ at_ < cs.length := by
        intro q
        rw [List.drop_eq_getElem_cons q] at hr; cases hr
      have hlim : cs.length ≤ lim := Nat.le_trans hl (by decide)
      have nlt : ¬ ((at_ : Int) < (cs.length : Int)) := by omega
      have t0 : evE G (Phi G T k) (.cmp .Lt (.var 4) (.bi .len (.cons (.var 0) .nil))) (S7 cs h.length at_ ln (some x) sg re sa en) (h ++ [.lst acc]) = .ok (.bl false) (h ++ [.lst acc]) := by
        simp only [evE, List.getElem?_cons_zero, List.getElem?_cons_succ, ev_bind, len_S hlim, cmp_lt, nlt, decide_false]
      have e : evS G (Phi G T k) b7.tl.tl.hd.th (S7 cs h.length at_ ln (some x) sg re sa en) (h ++ [.lst acc]) = .ok (.nx (S7 cs h.length at_ ln (some x) sg re sa en)) (h ++ [.lst acc]) :=
        (hd_nx (b := b7.tl.tl.hd.th) rfl ((ite_f t0 rfl).trans nop_eval)).trans nop_eval
      have ih := loop7 hst hl xs at_ ln acc (some x) sg re sa en (by omega) (by omega)
      rw [hr, run_nil] at ih
      rw [run_nil]
      obtain ⟨sl', z1, z2, z3⟩ := ih
      refine ⟨sl', ?_, z2, z3⟩
      simp only [forD, hst, if_true, hb, e]
      exact z1
    | cons c r =>
      obtain ⟨hlt, hce, hlen⟩ := at_lt hr
      have bd := body7 (k := k) (h := h) (ln := ln) (acc := acc) (tn := some x) (sg := sg) (re := re) (sa := sa) (en := en) hl hr (by omega)
      simp only [run]
      cases hs : stp c r with
      | bad s =>
        rw [hs] at bd
        exact ⟨acc, by simp only [forD, hst, if_true, hb, bd]⟩
      | go w m nl =>
        rw [hs] at bd
        have adv := stp_adv hs
        have hdm : (c :: r).drop m = cs.drop (at_ + m) := by rw [← hr, List.drop_drop]
        have main : ∀ (sg' re' sa' en' : Option D) (acc2 : List D), acc2.length + xs.length ≤ 10000 → (∀ m, (∀ d ∈ acc, d.lo m = true) → ∀ d ∈ acc2, d.lo m = true) →
            evS G (Phi G T k) b7.tl.tl.hd.th (S7 cs h.length at_ ln (some x) sg re sa en) (h ++ [.lst acc]) = .ok (.nx (S7 cs h.length (at_ + m) (if nl = true then ln + 1 else ln) (some x) sg' re' sa' en')) (h ++ [.lst acc2]) →
            match run xs.length (cs.drop (at_ + m)) (if nl = true then ln + 1 else ln) acc2 with
            | .done acc' => ∃ sl', forD still (fun x sl1 => setTg (.nm 2) [x] sl1) (evS G (Phi G T k) b7.tl.tl.hd.th) (x :: xs) (S7 cs h.length at_ ln tn sg re sa en) (h ++ [.lst acc]) = .ok (.nx sl') (h ++ [.lst acc']) ∧ sl'[3]? = some (some (.ref h.length)) ∧ (∀ m, (∀ d ∈ acc, d.lo m = true) → ∀ d ∈ acc', d.lo m = true)
            | .err l w => ∃ acc', forD still (fun x sl1 => setTg (.nm 2) [x] sl1) (evS G (Phi G T k) b7.tl.tl.hd.th) (x :: xs) (S7 cs h.length at_ ln tn sg re sa en) (h ++ [.lst acc]) = .ok (.rt (.lst [.int l, .str (Str.ofString w)])) (h ++ [.lst acc']) := fun sg' re' sa' en' acc2 ha2 hlo e => by
          have ih := loop7 hst hl xs (at_ + m) (if nl = true then ln + 1 else ln) acc2 (some x) sg' re' sa' en' (by omega) ha2
          cases hq : run xs.length (cs.drop (at_ + m)) (if nl = true then ln + 1 else ln) acc2 with
          | done acc' =>
            rw [hq] at ih
            obtain ⟨sl', z1, z2, z3⟩ := ih
            refine ⟨sl', ?_, z2, fun m hh => z3 m (hlo m hh)⟩
            simp only [forD, hst, if_true, hb, e]
            exact z1
          | err l w2 =>
            rw [hq] at ih
            obtain ⟨acc', z1⟩ := ih
            refine ⟨acc', ?_⟩
            simp only [forD, hst, if_true, hb, e]
            exact z1
        cases w with
        | none =>
          obtain ⟨sg', re', sa', en', e⟩ := bd
          simp only
          rw [hdm]
          exact main sg' re' sa' en' acc (by omega) (fun _ hh => hh) e
        | some tt =>
          obtain ⟨sg', re', sa', en', e⟩ := bd
          simp only
          rw [hdm]
          refine main sg' re' sa' en' (acc ++ [tok tt ln]) (by simp; omega) (fun m hh d hd => ?_) e
          rcases List.mem_append.mp hd with hd | hd
          · exact hh d hd
          · rw [List.mem_singleton.mp hd]; rfl
theorem law_tokens_eq (hl : cs.length ≤ 5000) : Phi G T (k + 1) 7 [TX cs] h = .ok (outD (run cs.length cs 1 [])) h := by
  have h3 : 3 ≤ lim := by decide
  have h8 : 8 ≤ lim := by decide
  have hl2 : cs.length ≤ 10000 := by omega
  have hlim : cs.length ≤ lim := Nat.le_trans hl2 (by decide)
  rw [call_ok (fn := f7) rfl rfl]
  show fin true h (evS G (Phi G T k) b7 [some (TX cs), none, none, none, none, none, none, none, none, none, none, none] h) = _
  have a1 : evS G (Phi G T k) b7.hd [some (TX cs), none, none, none, none, none, none, none, none, none, none, none] h = .ok (.nx [some (TX cs), none, none, some (.ref h.length), some (.int (0 : Nat)), some (.int 1), none, none, none, none, none, none]) (h ++ [.lst []]) := by
    simp [b7, S.hd, evS, evE, mkL, h3]
  have a2 : evS G (Phi G T k) b7.tl.hd [some (TX cs), none, none, some (.ref h.length), some (.int (0 : Nat)), some (.int 1), none, none, none, none, none, none] (h ++ [.lst []]) = .ok (.nx (S7 cs h.length 0 1 none none none none none)) (h ++ [.lst []]) := by
    have : DB.map TX = [.str "==", .str "!=", .str "<=", .str ">=", .str "&&", .str "||", .str "<<", .str ">>"] := rfl
    unfold S7
    rw [this]
    simp [b7, S.hd, S.tl, evS, evE, mkL, h8]
  have it : ∀ h, itemsOf .range1 (.tup [.int cs.length]) h = some (rangeD 0 cs.length) := fun h => items_range1 (by omega) (by omega)
  have hlr : (rangeD 0 cs.length).length = cs.length := by simp [rangeD]
  have lp := loop7 (k := k) (h := h) (still := fun h2 => decide (itemsOf .range1 (.tup [.int cs.length]) h2 = some (rangeD 0 cs.length))) (fun h => decide_eq_true (it h)) hl2 (rangeD 0 cs.length) 0 1 [] none none none none none (by rw [hlr]; omega) (by rw [hlr]; simp; omega)
  rw [hlr, List.drop_zero] at lp
  have es : evE G (Phi G T k) (.cons (.bi .len (.cons (.var 0) .nil)) .nil) (S7 cs h.length 0 1 none none none none none) (h ++ [.lst []]) = .ok (.tup [.int cs.length]) (h ++ [.lst []]) := by
    simp only [evE, List.getElem?_cons_zero, ev_bind, len_S hlim]
  have ef := for_eval (G := G) (Φ := Phi G T k) (tg := .nm 2) (k := .range1) (b := b7.tl.tl.hd.th) es (it _)
  cases hq : run cs.length cs 1 [] with
  | err l w =>
    rw [hq] at lp
    obtain ⟨acc', e⟩ := lp
    rw [hd_nx (b := b7) rfl a1, hd_nx (b := b7.tl) rfl a2, hd_rt (b := b7.tl.tl) rfl (ef.trans e)]
    exact fin_ext take_end rfl
  | done acc =>
    rw [hq] at lp
    obtain ⟨sl', e, g3, lo⟩ := lp
    have a4 : evS G (Phi G T k) b7.tl.tl.tl sl' (h ++ [.lst acc]) = .ok (.rt (.tup acc)) (h ++ [.lst acc]) :=
      seq_rt (ret_eval (by simp only [evE, g3, ev_bind, biD, biTuple, isLst, end_at]))
    rw [hd_nx (b := b7) rfl a1, hd_nx (b := b7.tl) rfl a2, hd_nx (b := b7.tl.tl) rfl (ef.trans e), a4]
    exact fin_ext take_end (by
      simp only [D.lo]
      exact los_of (lo h.length fun d hd => by cases hd))
theorem runP_run : ∀ (f : Nat) (l : List Nat) (ln : Int) (acc : List D), acc.length + f ≤ 3000 → runP f l ln acc = run f l ln acc
  | 0, _, _, _, _ => rfl
  | _ + 1, [], _, _, _ => rfl
  | f + 1, c :: r, ln, acc, hf => by
    simp only [runP, run]
    cases stp c r with
    | bad s => rfl
    | go w m nl =>
      cases w with
      | none => exact runP_run f _ _ _ (by omega)
      | some t =>
        simp only
        rw [if_neg (by omega)]
        exact runP_run f _ _ _ (by simp; omega)
/-- all tokens are pairs of a text and a line -/
def TokD (d : D) : Prop := ∃ (t : Str) (l : Int), d = .tup [.str t, .int l]
theorem runP_tok : ∀ (f : Nat) (l : List Nat) (ln : Int) (acc acc' : List D), (∀ d ∈ acc, TokD d) → acc.length + f ≤ 20000 → runP f l ln acc = .done acc' → (∀ d ∈ acc', TokD d) ∧ acc'.length ≤ 20000
  | 0, _, _, acc, acc', h, hf, e => by cases e; exact ⟨h, by omega⟩
  | _ + 1, [], _, acc, acc', h, hf, e => by cases e; exact ⟨h, by omega⟩
  | f + 1, c :: r, ln, acc, acc', h, hf, e => by
    simp only [runP] at e
    cases hs : stp c r with
    | bad s => rw [hs] at e; cases e
    | go w m nl =>
      rw [hs] at e
      cases w with
      | none => exact runP_tok f _ _ _ _ h (by omega) e
      | some t =>
        simp only at e
        split at e
        · cases e
        · refine runP_tok f _ _ _ _ (fun d hd => ?_) (by simp; omega) e
          rcases List.mem_append.mp hd with hd | hd
          · exact h d hd
          · rw [List.mem_singleton.mp hd]; exact ⟨_, _, rfl⟩
theorem tok_lo {n : Nat} {l : List D} (h : ∀ d ∈ l, TokD d) : D.lo.los n l = true := los_of fun d hd => by
  obtain ⟨t, i, rfl⟩ := h d hd
  rfl
/-- _law_asked of a text -/
theorem asked_eq (hl : cs.length ≤ 10000) : Phi G T (k + 3) 6 [TX cs] h = .ok (outD (runP cs.length cs 1 [])) h :=
  asked_of (tokens_eq hl) fun acc e n => tok_lo (runP_tok cs.length cs 1 [] acc (fun d hd => by cases hd) (by simp; omega) e).1
/-! ### _law_same -/
theorem same_s {s : Str} : Phi G T (k + 1) 1 [.str s, .str s] h = .ok (.bl true) h := by
  rw [call_ok (fn := f1) rfl rfl]
  simp [f1, b1, n1, startD, evS, evE, isiB]
theorem same_i {i : Int} : Phi G T (k + 1) 1 [.int i, .int i] h = .ok (.bl true) h := by
  rw [call_ok (fn := f1) rfl rfl]
  simp [f1, b1, n1, startD, evS, evE, isiB]
theorem same_sq {X : D} {l : List D} (hX : X = .tup l ∨ X = .lst l) (hl : l.length ≤ 20000) (hs : ∀ d ∈ l, ∀ h, Phi G T (k + 1) 1 [d, d] h = .ok (.bl true) h) : Phi G T (k + 2) 1 [X, X] h = .ok (.bl true) h := by
  have ix : ∀ {h : Hs} {i : Nat} (hi : i < l.length), ixD X (.int (0 + (i : Int))) h = .ok l[i] h := fun {h i} hi => by
    rw [Int.zero_add]
    rcases hX with rfl | rfl
    · exact ix_tup (by simp [hi])
    · exact ix_lst (by simp [hi])
  have len : ∀ {h : Hs}, biD .len [X] h = .ok (.int l.length) h := fun {h} => by rcases hX with rfl | rfl <;> rfl
  have i1 : ∀ {h : Hs}, ∃ b, isiD "tuple" X h = .ok (.bl b) h ∧ isiD "list" X h = .ok (.bl (!b)) h := fun {h} => by
    rcases hX with rfl | rfl
    · exact ⟨true, rfl, rfl⟩
    · exact ⟨false, rfl, rfl⟩
  rw [call_ok (fn := f1) rfl rfl]
  show fin true h (evS G (Phi G T (k + 1)) b1 [some X, some X, none] h) = _
  have hlim : l.length ≤ lim := Nat.le_trans hl (by decide)
  have elen : ∀ i, i = 0 ∨ i = 1 → evE G (Phi G T (k + 1)) (.bi .len (.cons (.var i) .nil)) [some X, some X, none] h = .ok (.int l.length) h := fun i hi => by
    rcases hi with rfl | rfl <;> simp only [evE, List.getElem?_cons_zero, List.getElem?_cons_succ, ev_bind, len]
  have e1 := lc_eval (G := G) (Φ := Phi G T (k + 1)) (own := [2]) (tg := .nm 2) (k := .range1) (src := .cons (.bi .len (.cons (.var 1) .nil)) .nil) (cond := .not (.call 1 (.cons (.ix (.var 0) (.var 2)) (.cons (.ix (.var 1) (.var 2)) .nil)))) (elt := .var 2) (sl := [some X, some X, none]) (h := h) (h1 := h)
    (v := .tup [.int l.length]) (items := rangeD 0 l.length) (fun _ => none) (cons_eval (elen 1 (.inr rfl)) nil_eval) (items_range1 (by omega) (by omega)) (by simp [rangeD]; exact hlim) (fun x hx => by
      obtain ⟨i, hi, rfl⟩ := List.mem_map.mp hx
      have hi' : i < l.length := by have := List.mem_range.mp hi; omega
      refine ⟨[some X, some X, some (.int (0 + (i : Int)))], .bl false, rfl, ?_, .inl ⟨rfl, rfl⟩⟩
      simp only [evE, List.getElem?_cons_zero, List.getElem?_cons_succ, ev_bind, ix hi', hs l[i] (List.getElem_mem hi'), tr_bl]
      rfl)
  have e2 : evE G (Phi G T (k + 1)) (.cmp .Eq (.bi .len (.cons (.lc false [2] (.nm 2) .range1 (.cons (.bi .len (.cons (.var 1) .nil)) .nil) (.not (.call 1 (.cons (.ix (.var 0) (.var 2)) (.cons (.ix (.var 1) (.var 2)) .nil)))) (.var 2)) .nil)) (.kI 0)) [some X, some X, none] h = .ok (.bl true) h := by
    refine (cmp_eval (x := .int 0) (y := .int 0) (h1 := h) (h2 := h) ((bi_eval (cons_eval e1 nil_eval)).trans ?_) (by simp only [evE])).trans (by simp)
    have : (rangeD 0 l.length).filterMap (fun _ => (none : Option D)) = [] := by simp
    rw [this]; rfl
  obtain ⟨b, j1, j2⟩ := i1 (h := h)
  have t1 : evE G (Phi G T (k + 1)) (.or (.isi "tuple" (.var 1)) (.isi "list" (.var 1))) [some X, some X, none] h = .ok (.bl true) h := by
    cases b <;> simp [evE, j1, j2]
  have t2 : evE G (Phi G T (k + 1)) (.or (.cmp .NotEq (.isi "tuple" (.var 1)) (.isi "tuple" (.var 0))) (.cmp .NotEq (.isi "list" (.var 1)) (.isi "list" (.var 0)))) [some X, some X, none] h = .ok (.bl false) h := by
    have nb : ∀ {h : Hs} {b c : Bool}, cmpD .NotEq (.bl b) (.bl c) h = .ok (.bl (!decide (b = c))) h := rfl
    simp [evE, j1, j2, nb]
  have t3 : evE G (Phi G T (k + 1)) (.cmp .NotEq (.bi .len (.cons (.var 0) .nil)) (.bi .len (.cons (.var 1) .nil))) [some X, some X, none] h = .ok (.bl false) h :=
    (cmp_eval (elen 0 (.inl rfl)) (elen 1 (.inr rfl))).trans (by simp)
  have e3 : evS G (Phi G T (k + 1)) b1 [some X, some X, none] h = .ok (.rt (.bl true)) h :=
    hd_rt rfl ((ite_t t1 rfl).trans ((seq_nx ((ite_f t2 rfl).trans nop_eval)).trans ((seq_nx ((ite_f t3 rfl).trans nop_eval)).trans (seq_rt (ret_eval e2)))))
  rw [e3]; exact fin_bl
theorem same_tok {d : D} (hd : TokD d) : Phi G T (k + 2) 1 [d, d] h = .ok (.bl true) h := by
  obtain ⟨t, i, rfl⟩ := hd
  refine same_sq (.inl rfl) (by simp) fun d hd h => ?_
  simp only [List.mem_cons, List.not_mem_nil, or_false] at hd
  rcases hd with rfl | rfl
  · exact same_s
  · exact same_i
theorem same_err {l : Int} {w : Str} : Phi G T (k + 2) 1 [.lst [.int l, .str w], .lst [.int l, .str w]] h = .ok (.bl true) h := by
  refine same_sq (.inr rfl) (by simp) fun d hd h => ?_
  simp only [List.mem_cons, List.not_mem_nil, or_false] at hd
  rcases hd with rfl | rfl
  · exact same_i
  · exact same_s
/-- both tell the same of a text -/
theorem both (hl : cs.length ≤ 3000) : ∃ d, Phi G T (k + 3) 6 [TX cs] h = .ok d h ∧ Phi G T (k + 3) 7 [TX cs] h = .ok d h ∧ Phi G T (k + 3) 1 [d, d] h = .ok (.bl true) h := by
  have e1 := asked_eq (k := k) (h := h) (cs := cs) (by omega)
  have e2 := law_tokens_eq (k := k + 2) (h := h) (cs := cs) (by omega)
  have e3 := runP_run cs.length cs 1 [] (by simpa using hl)
  rw [← e3] at e2
  refine ⟨_, e1, e2, ?_⟩
  cases hq : runP cs.length cs 1 [] with
  | err l w => exact same_err
  | done acc =>
    have := runP_tok cs.length cs 1 [] acc (fun d hd => by cases hd) (by simp; omega) hq
    exact same_sq (.inl rfl) this.2 fun d hd h => same_tok (this.1 d hd)
end
end Pr
namespace Pr
open PySem L2 DI
/-! ### the long text -/
def rep (n : Nat) : List Nat := (List.replicate n [120, 32]).flatten
theorem rep_succ (n : Nat) : rep (n + 1) = 120 :: 32 :: rep n := by simp [rep, List.replicate_succ]
theorem rep_len : ∀ n, (rep n).length = 2 * n
  | 0 => rfl
  | n + 1 => by rw [rep_succ, List.length_cons, List.length_cons, rep_len n]; omega
theorem wd_x {r : List Nat} (hr : ∀ d t, r = d :: t → d ∉ SM) : wd 120 r = .w [120] := by
  have hm : 120 ∈ SM := by decide
  have hrl : rl (fun x => decide (x ∈ SM)) (120 :: r) = 1 := by
    cases r with
    | nil => simp [rl, hm]
    | cons d t => simp [rl, hm, hr d t rfl]
  unfold wd
  rw [if_pos hm, hrl, if_neg (by decide)]
  rfl
theorem stp_x {r : List Nat} (hr : ∀ d t, r = d :: t → d ∉ SM) : stp 120 r = .go (some [120]) 1 false := by
  have h1 : ¬ ((120 : Nat) = 10) := by decide
  have h2 : ¬ ((120 : Nat) = 32) := by decide
  have h3 : ¬ ((120 :: r).take 2 = [47, 47]) := by
    cases r <;> simp
  unfold stp
  rw [if_neg h1, if_neg h2, if_neg h3, wd_x hr]
  rfl
theorem stp_sp {r : List Nat} : stp 32 r = .go none 1 false := rfl
theorem stp_nl {r : List Nat} : stp 10 r = .go none 1 true := rfl
theorem sp_no : (32 : Nat) ∉ SM := by decide
theorem run_long (t : List Nat) (f : Nat) (ln : Int) : ∀ (n : Nat) (acc : List D), acc.length + n ≤ 3000 → runP (2 * n + f) (rep n ++ t) ln acc = runP f t ln (acc ++ List.replicate n (tok [120] ln))
  | 0, acc, _ => by simp [rep]
  | n + 1, acc, h => by
    rw [rep_succ, show 2 * (n + 1) + f = (2 * n + f) + 1 + 1 by omega]
    have s1 := stp_x (r := 32 :: (rep n ++ t)) (fun d t e => by cases e; exact sp_no)
    simp only [List.cons_append, runP, s1]
    rw [if_neg (by omega)]
    simp only [List.drop_succ_cons, List.drop_zero, Bool.false_eq_true, if_false, runP, stp_sp]
    rw [run_long t f ln n (acc ++ [tok [120] ln]) (by simp; omega)]
    congr 1
    rw [List.append_assoc, List.replicate_succ]; rfl
theorem long1 : runP (rep 3000).length (rep 3000) 1 [] = .done (List.replicate 3000 (tok [120] 1)) := by
  have e := run_long [] 0 1 3000 [] (by simp)
  rw [List.append_nil, List.nil_append] at e
  rw [rep_len]
  exact e
theorem long2 : runP (rep 3000 ++ [10, 120]).length (rep 3000 ++ [10, 120]) 1 [] = .err 2 "many" := by
  have e := run_long [10, 120] 2 1 3000 [] (by simp)
  rw [List.nil_append] at e
  rw [List.length_append, rep_len]
  refine e.trans ?_
  have s1 := stp_x (r := []) (fun d t e => by cases e)
  simp only [runP, stp_nl, List.drop_succ_cons, List.drop_zero, if_true, s1]
  rw [if_pos (by simp)]
  rfl
theorem fold_flat (a : Array Nat) : ∀ (n : Nat) (b : Array Nat), ((List.replicate n a).foldl (· ++ ·) b).toList = b.toList ++ (List.replicate n a.toList).flatten
  | 0, b => by simp
  | n + 1, b => by
    rw [List.replicate_succ, List.foldl_cons, fold_flat a n, List.replicate_succ, List.flatten_cons, Array.toList_append, List.append_assoc]
theorem mul_long {h : Hs} : binD false .Mult (.str "x ") (.int 3000) h = .ok (TX (rep 3000)) h := by
  have h1 : (1 : Int) < 3000 ∧ 0 < (Str.ofString "x ").length ∧ (Str.ofString "x ").length * (3000 : Int).toNat ≤ lim := by decide
  have e := fold_flat (Str.ofString "x ").cps (3000 : Int).toNat #[]
  have e2 : (Str.ofString "x ").cps.toList = [120, 32] := rfl
  rw [e2] at e
  have mk : ∀ (x : Array Nat) (l : List Nat), x.toList = l → (⟨x⟩ : Str) = SX.S l := fun x l e => by rw [← e]
  have e3 := mk _ _ e
  simp only [binD]
  rw [if_pos h1, e3]
  simp [rep]
/-! ### names -/
section
variable {k : Nat} {h : Hs}
theorem lc_pairs {still : Hs → Bool} {turn : D → Hs → DI.R (Option D)} (hs : still h = true) : ∀ (ps : List (D × D)) (acc : List D), (∀ p ∈ ps, turn p.1 h = .ok (some p.2) h) → acc.length + ps.length ≤ lim → lcLoop still turn (ps.map (·.1)) acc h = .ok (acc ++ ps.map (·.2)) h
  | [], acc, _, _ => by simp only [List.map_nil, lcLoop, hs, if_true, List.append_nil]
  | p :: ps, acc, ht, hl => by
    simp only [List.length_cons] at hl
    simp only [List.map_cons, lcLoop, hs, if_true, ht p List.mem_cons_self, ev_bind]
    rw [if_pos (by omega), lc_pairs hs ps (acc ++ [p.2]) (fun q hq => ht q (List.mem_cons_of_mem _ hq)) (by simp; omega)]
    simp
theorem name_no {d : D} {b : Bool} (e : evS G (Phi G T k) b3 [some d, none] h = .ok (.rt (.bl b)) h) : Phi G T (k + 1) 3 [d] h = .ok (.bl b) h := by
  rw [call_ok (fn := f3) rfl rfl]
  show fin true h (evS G (Phi G T k) b3 [some d, none] h) = _
  rw [e]; exact fin_bl
def NP : List (D × D) := [(.str "x", .bl true), (.str "abcdefghijkl", .bl true), (.str "abcdefghijklm", .bl false), (.str "", .bl false), (.str "X", .bl false), (.str "x1", .bl false), (.str "if", .bl false), (.str "int", .bl false), (.str "self", .bl true), (.str "main", .bl true), (.str "any", .bl false), (.str "mod", .bl false), (.str "text", .bl true), (.non, .bl false), (.int 5, .bl false), (.tup [.str "x"], .bl false)]
theorem NP_eq {p : D × D} (hp : p ∈ NP) : Phi G T (k + 1) 3 [p.1] h = .ok p.2 h := by
  simp only [NP, List.mem_cons, List.not_mem_nil, or_false] at hp
  rcases hp with rfl | rfl | rfl | rfl | rfl | rfl | rfl | rfl | rfl | rfl | rfl | rfl | rfl | rfl | rfl | rfl <;> exact name_no (by kernel_rfl)
theorem names_ne {h : Hs} : cmpD .NotEq (.lst (NP.map (·.2))) (.lst [.bl true, .bl true, .bl false, .bl false, .bl false, .bl false, .bl false, .bl false, .bl true, .bl true, .bl false, .bl false, .bl true, .bl false, .bl false, .bl false]) h = .ok (.bl false) h := by
  have : eqP (.lst (NP.map (·.2))) (.lst [.bl true, .bl true, .bl false, .bl false, .bl false, .bl false, .bl false, .bl false, .bl true, .bl true, .bl false, .bl false, .bl true, .bl false, .bl false, .bl false]) = some true := by decide +kernel
  show DI.R.ofO (((eqP (.lst (NP.map (·.2))) (.lst [.bl true, .bl true, .bl false, .bl false, .bl false, .bl false, .bl false, .bl false, .bl true, .bl true, .bl false, .bl false, .bl true, .bl false, .bl false, .bl false])).map (!·)).map D.bl) h = _
  rw [this]; rfl
end
/-! ### the law -/
abbrev S8 (ns : D) (wo tn nm lg tx kk ag at_ : Option D) : SL := [some ns, some (.ref 0), wo, tn, nm, lg, tx, kk, ag, at_, none]
def cps (s : String) : List Nat := (Str.ofString s).cps.toList
theorem cps_D (s : String) : (.str (Str.ofString s) : D) = TX (cps s) := by unfold TX cps; rw [SX.S_tl]
def WS : List String := ["if", "x", "while", "abcdefghijkl", "0", "1234567890", "=", "==", "<", "<<", "<=", "!", "&&", "&", "||", "|", "(", ")", "{", "}", ";", ".", ",", "-", ">", ">>", "^", "[", "]", "+", "*", "/", "mod"]
def SE : List String := ["", " ", "\n", "  ", " // x = @ 1\n", "//"]
def XE : List String := ["@", "A", "abcdefghijklm", "12345678901", "_", "~"]
theorem WS_len : ∀ s ∈ WS, (cps s).length ≤ 13 := by decide
theorem SE_len : ∀ s ∈ SE, (cps s).length ≤ 13 := by decide
theorem XE_len : ∀ s ∈ XE, (cps s).length ≤ 13 := by decide
def stD (l : List String) : List D := l.map fun s => .str (Str.ofString s)
section
variable {xs : List Int} {ns : D} {k : Nat}
/-- one drawn of a row of texts -/
theorem drawn {h : Hs} (hd : Dr xs h) {l : List String} (h0 : 0 < l.length) (h1 : l.length ≤ 100) (hl : ∀ s ∈ l, (cps s).length ≤ 13) : ∃ (v : Int) (h' : Hs) (z : List Nat), Dr xs h' ∧ z.length ≤ 13 ∧ Phi G T (k + 1) 2 [.ref 0, .int l.length] h = .ok (.int v) h' ∧ ∀ h2, ixD (.lst (stD l)) (.int v) h2 = .ok (TX z) h2 := by
  obtain ⟨v, h', d1, l1, u1, e1⟩ := drawS (k := k) hd (L := l.length) (by omega) (by omega)
  obtain ⟨q, rfl⟩ := Int.eq_ofNat_of_zero_le l1
  have hq : q < l.length := by omega
  refine ⟨q, h', cps l[q], d1, hl _ (List.getElem_mem hq), e1, fun h2 => ?_⟩
  rw [← cps_D]
  exact ix_lst (by simp [stD, hq])
theorem words_len : ∀ {h : Hs}, biD .len [.lst (stD WS)] h = .ok (.int WS.length) h := fun {h} => rfl
theorem inner8 {h : Hs} (hd : Dr xs h) {cs : List Nat} (hc : cs.length ≤ 1000) {tn nm lg kk ag at_ : Option D} : ∃ (cs' : List Nat) (h' : Hs), Dr xs h' ∧ cs'.length ≤ cs.length + 26 ∧
    evS G (Phi G T (k + 1)) b8.tl.tl.tl.hd.th.tl.hd.th (S8 ns (some (.lst (stD WS))) tn nm lg (some (TX cs)) kk ag at_) h = .ok (.nx (S8 ns (some (.lst (stD WS))) tn nm lg (some (TX cs')) kk ag at_)) h' := by
  obtain ⟨v, h1, z, d1, z1, e1, i1⟩ := drawn (k := k) hd (l := WS) (by decide) (by decide) WS_len
  obtain ⟨v2, h2, z2, d2, z3, e2, i2⟩ := drawn (k := k) d1 (l := SE) (by decide) (by decide) SE_len
  have hlim : 2000 ≤ lim := by decide
  have ad1 : ∀ h, binD false .Add (TX cs) (TX z) h = .ok (TX (cs ++ z)) h := fun h => add_S (by omega)
  have ad2 : ∀ h, binD false .Add (TX (cs ++ z)) (TX z2) h = .ok (TX (cs ++ z ++ z2)) h := fun h => add_S (by rw [List.length_append]; omega)
  refine ⟨cs ++ z ++ z2, h2, d2, by rw [List.length_append, List.length_append]; omega, ?_⟩
  have ls : ∀ h, mkL false [.str "", .str " ", .str "\n", .str "  ", .str " // x = @ 1\n", .str "//"] h = .ok (.lst (stD SE)) h := fun h => by simp [mkL, lim]; rfl
  have g6 : evE G (Phi G T (k + 1)) (.var 6) (S8 ns (some (.lst (stD WS))) tn nm lg (some (TX cs)) kk ag at_) h = .ok (TX cs) h := by simp only [evE, List.getElem?_cons_zero, List.getElem?_cons_succ]
  have q1 : evE G (Phi G T (k + 1)) (.ix (.var 2) (.call 2 (.cons (.var 1) (.cons (.bi .len (.cons (.var 2) .nil)) .nil)))) (S8 ns (some (.lst (stD WS))) tn nm lg (some (TX cs)) kk ag at_) h = .ok (TX z) h1 := by
    refine (ix_eval (x := .lst (stD WS)) (h1 := h) (y := .int v) (h2 := h1) (by simp only [evE, List.getElem?_cons_zero, List.getElem?_cons_succ]) ((call_eval (xs := [.ref 0, .int WS.length]) (h1 := h) ?_).trans e1)).trans (i1 h1)
    simp only [evE, List.getElem?_cons_zero, List.getElem?_cons_succ, ev_bind, words_len]
  have q2 : evE G (Phi G T (k + 1)) (.ix (.lst false (.cons (.kS "") (.cons (.kS " ") (.cons (.kS "\n") (.cons (.kS "  ") (.cons (.kS " // x = @ 1\n") (.cons (.kS "//") .nil))))))) (.call 2 (.cons (.var 1) (.cons (.kI 6) .nil)))) (S8 ns (some (.lst (stD WS))) tn nm lg (some (TX cs)) kk ag at_) h1 = .ok (TX z2) h2 := by
    refine (ix_eval (x := .lst (stD SE)) (h1 := h1) (y := .int v2) (h2 := h2) ((lst_eval (xs := [.str "", .str " ", .str "\n", .str "  ", .str " // x = @ 1\n", .str "//"]) (h1 := h1) (by simp only [evE, ev_bind])).trans (ls h1)) ((call_eval (xs := [.ref 0, .int SE.length]) (h1 := h1) ?_).trans e2)).trans (i2 h2)
    simp only [evE, List.getElem?_cons_zero, List.getElem?_cons_succ, ev_bind]
    rfl
  exact (seq_nx (asg_eval ((bin_eval ((bin_eval g6 q1).trans (ad1 h1)) q2).trans (ad2 h2)) rfl)).trans nop_eval
theorem loop8a {h : Hs} (hd : Dr xs h) {tn nm lg kk ag at_ : Option D} : ∃ (cs' : List Nat) (kk' : Option D) (h' : Hs), Dr xs h' ∧ cs'.length ≤ 500 ∧
    evS G (Phi G T (k + 1)) b8.tl.tl.tl.hd.th.tl.hd (S8 ns (some (.lst (stD WS))) tn nm lg (some (TX [])) kk ag at_) h = .ok (.nx (S8 ns (some (.lst (stD WS))) tn nm lg (some (TX cs')) kk' ag at_)) h' := by
  obtain ⟨v, h1, d1, l1, u1, e1⟩ := drawS (k := k) hd (L := 14) (by decide) (by decide)
  have it : ∀ h, itemsOf .range1 (.tup [.int v]) h = some (rangeD 0 v) := fun h => items_range1 (by omega) (by omega)
  have hlr : (rangeD 0 v).length = v.toNat := by simp [rangeD]
  obtain ⟨sl2, h2', e, cs', kk', dd, hlen, e2⟩ := for_nx (G := G) (Φ := Phi G T (k + 1)) (tg := .nm 7) (k := .range1) (src := .cons (.call 2 (.cons (.var 1) (.cons (.kI 14) .nil))) .nil) (b := b8.tl.tl.tl.hd.th.tl.hd.th)
    (sl := S8 ns (some (.lst (stD WS))) tn nm lg (some (TX [])) kk ag at_) (h := h) (h1 := h1) (v := .tup [.int v]) (items := rangeD 0 v)
    (fun i sl h' => ∃ (cs' : List Nat) (kk' : Option D), Dr xs h' ∧ cs'.length ≤ 26 * i ∧ sl = S8 ns (some (.lst (stD WS))) tn nm lg (some (TX cs')) kk' ag at_)
    (cons_eval ((call_eval (xs := [.ref 0, .int 14]) (h1 := h) (by simp only [evE, List.getElem?_cons_zero, List.getElem?_cons_succ, ev_bind])).trans e1) nil_eval) (it _) ⟨[], kk, d1, by simp, rfl⟩ (fun _ _ _ _ => it _)
    (fun i z sl h' hz hI => by
      obtain ⟨cs', kk', dd, hlen, rfl⟩ := hI
      have hi := (rangeD_at hz).2
      obtain ⟨cs2, h2, d2, hl2, e⟩ := inner8 (k := k) (ns := ns) dd (cs := cs') (by omega) (tn := tn) (nm := nm) (lg := lg) (kk := some z) (ag := ag) (at_ := at_)
      exact ⟨_, _, h2, rfl, e, cs2, some z, d2, by omega, rfl⟩)
  subst e2
  rw [hlr] at hlen
  exact ⟨cs', kk', h2', dd, by omega, e⟩
theorem loop8b {h : Hs} {cs : List Nat} (hc : cs.length ≤ 3000) {tn nm lg kk ag at_ : Option D} : ∃ (ag' : Option D),
    evS G (Phi G T (k + 3)) b8.tl.tl.tl.hd.th.tl.tl.tl.hd (S8 ns (some (.lst (stD WS))) tn nm lg (some (TX cs)) kk ag at_) h = .ok (.nx (S8 ns (some (.lst (stD WS))) tn nm lg (some (TX cs)) kk ag' at_)) h := by
  have it : ∀ h, itemsOf .range1 (.tup [.int 2]) h = some (rangeD 0 2) := fun h => items_range1 (by decide) (by decide)
  obtain ⟨sl2, h2', e, ag', e2, e3⟩ := for_nx (G := G) (Φ := Phi G T (k + 3)) (tg := .nm 8) (k := .range1) (src := .cons (.kI 2) .nil) (b := b8.tl.tl.tl.hd.th.tl.tl.tl.hd.th)
    (sl := S8 ns (some (.lst (stD WS))) tn nm lg (some (TX cs)) kk ag at_) (h := h) (h1 := h) (v := .tup [.int 2]) (items := rangeD 0 2)
    (fun i sl h' => ∃ (ag' : Option D), sl = S8 ns (some (.lst (stD WS))) tn nm lg (some (TX cs)) kk ag' at_ ∧ h' = h)
    (by simp only [evE, ev_bind]) (it _) ⟨ag, rfl, rfl⟩ (fun _ _ _ _ => it _)
    (fun i z sl h' hz hI => by
      obtain ⟨ag', rfl, rfl⟩ := hI
      obtain ⟨d, q1, q2, q3⟩ := both (k := k) (h := h') hc
      refine ⟨_, S8 ns (some (.lst (stD WS))) tn nm lg (some (TX cs)) kk (some z) at_, h', rfl, ?_, _, rfl, rfl⟩
      have t1 : evE G (Phi G T (k + 3)) (.not (.call 1 (.cons (.call 6 (.cons (.var 6) .nil)) (.cons (.call 7 (.cons (.var 6) .nil)) .nil)))) (S8 ns (some (.lst (stD WS))) tn nm lg (some (TX cs)) kk (some z) at_) h' = .ok (.bl false) h' := by
        simp only [evE, List.getElem?_cons_zero, List.getElem?_cons_succ, ev_bind, q1, q2, q3, tr_bl]
        rfl
      exact (seq_nx ((ite_f t1 rfl).trans nop_eval)).trans nop_eval)
  subst e2 e3
  exact ⟨ag', e⟩
end
end Pr
namespace Pr
open PySem L2 DI
section
variable {xs : List Int} {ns : D} {k : Nat}
theorem ite8 {h : Hs} (hd : Dr xs h) {cs : List Nat} (hc : cs.length ≤ 500) {tn nm lg kk ag at_ : Option D} : ∃ (cs' : List Nat) (at' : Option D) (h' : Hs), Dr xs h' ∧ cs'.length ≤ 1600 ∧
    evS G (Phi G T (k + 1)) b8.tl.tl.tl.hd.th.tl.tl.hd (S8 ns (some (.lst (stD WS))) tn nm lg (some (TX cs)) kk ag at_) h = .ok (.nx (S8 ns (some (.lst (stD WS))) tn nm lg (some (TX cs')) kk ag at')) h' := by
  obtain ⟨v, h1, d1, l1, u1, e1⟩ := drawS (k := k) hd (L := 3) (by decide) (by decide)
  have hl0 : 2000 ≤ lim := by decide
  have hlim : cs.length ≤ lim := by omega
  have t1 : evE G (Phi G T (k + 1)) (.cmp .Eq (.call 2 (.cons (.var 1) (.cons (.kI 3) .nil))) (.kI 0)) (S8 ns (some (.lst (stD WS))) tn nm lg (some (TX cs)) kk ag at_) h = .ok (.bl (decide (v = 0))) h1 :=
    (cmp_eval ((call_eval (xs := [.ref 0, .int 3]) (h1 := h) (by simp only [evE, List.getElem?_cons_zero, List.getElem?_cons_succ, ev_bind])).trans e1) (y := .int 0) (h2 := h1) (by simp only [evE])).trans cmp_eqi
  by_cases hv : v = 0
  · rw [decide_eq_true hv] at t1
    obtain ⟨w, h2, d2, l2, u2, e2⟩ := drawS (k := k) d1 (L := cs.length + 1) (by omega) (by omega)
    obtain ⟨q, rfl⟩ := Int.eq_ofNat_of_zero_le l2
    obtain ⟨v3, h3, z, d3, z3, e3, i3⟩ := drawn (k := k) d2 (l := XE) (by decide) (by decide) XE_len
    have lt := List.length_take_le q cs
    have ld : (cs.drop q).length ≤ cs.length := by rw [List.length_drop]; omega
    have a1 : evS G (Phi G T (k + 1)) (.asg (.nm 9) (.call 2 (.cons (.var 1) (.cons (.bin false .Add (.bi .len (.cons (.var 6) .nil)) (.kI 1)) .nil)))) (S8 ns (some (.lst (stD WS))) tn nm lg (some (TX cs)) kk ag at_) h1 = .ok (.nx (S8 ns (some (.lst (stD WS))) tn nm lg (some (TX cs)) kk ag (some (.int (q : Nat))))) h2 :=
      asg_eval ((call_eval (xs := [.ref 0, .int ((cs.length : Int) + 1)]) (h1 := h1) (by simp only [evE, List.getElem?_cons_zero, List.getElem?_cons_succ, ev_bind, len_S hlim, bin_add])).trans e2) rfl
    have s1 : evE G (Phi G T (k + 1)) (.slice false (.var 6) .kN (.var 9)) (S8 ns (some (.lst (stD WS))) tn nm lg (some (TX cs)) kk ag (some (.int (q : Nat)))) h2 = .ok (TX (cs.take q)) h2 := by
      simp only [evE, List.getElem?_cons_zero, List.getElem?_cons_succ, ev_bind, isKN, partD]
      exact slt_S hlim
    have lx : ∀ h, mkL false [.str "@", .str "A", .str "abcdefghijklm", .str "12345678901", .str "_", .str "~"] h = .ok (.lst (stD XE)) h := fun h => by simp [mkL, lim]; rfl
    have s2 : evE G (Phi G T (k + 1)) (.ix (.lst false (.cons (.kS "@") (.cons (.kS "A") (.cons (.kS "abcdefghijklm") (.cons (.kS "12345678901") (.cons (.kS "_") (.cons (.kS "~") .nil))))))) (.call 2 (.cons (.var 1) (.cons (.kI 6) .nil)))) (S8 ns (some (.lst (stD WS))) tn nm lg (some (TX cs)) kk ag (some (.int (q : Nat)))) h2 = .ok (TX z) h3 := by
      refine (ix_eval (x := .lst (stD XE)) (h1 := h2) (y := .int v3) (h2 := h3) ((lst_eval (xs := [.str "@", .str "A", .str "abcdefghijklm", .str "12345678901", .str "_", .str "~"]) (h1 := h2) (by simp only [evE, ev_bind])).trans (lx h2)) ((call_eval (xs := [.ref 0, .int XE.length]) (h1 := h2) ?_).trans e3)).trans (i3 h3)
      simp only [evE, List.getElem?_cons_zero, List.getElem?_cons_succ, ev_bind]
      rfl
    have s3 : evE G (Phi G T (k + 1)) (.slice false (.var 6) (.var 9) .kN) (S8 ns (some (.lst (stD WS))) tn nm lg (some (TX cs)) kk ag (some (.int (q : Nat)))) h3 = .ok (TX (cs.drop q)) h3 := by
      simp only [evE, List.getElem?_cons_zero, List.getElem?_cons_succ, ev_bind, isKN, partD]
      exact slf_S hlim
    have ad1 : binD false .Add (TX (cs.take q)) (TX z) h3 = .ok (TX (cs.take q ++ z)) h3 := add_S (by omega)
    have ad2 : binD false .Add (TX (cs.take q ++ z)) (TX (cs.drop q)) h3 = .ok (TX (cs.take q ++ z ++ cs.drop q)) h3 := add_S (by rw [List.length_append]; omega)
    refine ⟨cs.take q ++ z ++ cs.drop q, some (.int (q : Nat)), h3, d3, by rw [List.length_append, List.length_append]; omega, ?_⟩
    exact (ite_t t1 rfl).trans ((seq_nx a1).trans ((seq_nx (asg_eval ((bin_eval ((bin_eval s1 s2).trans ad1) s3).trans ad2) rfl)).trans nop_eval))
  · rw [decide_eq_false hv] at t1
    exact ⟨cs, at_, h1, d1, by omega, (ite_f t1 rfl).trans nop_eval⟩
theorem turn8 {h : Hs} (hd : Dr xs h) {tn nm lg tx kk ag at_ : Option D} : ∃ (tx' kk' ag' at' : Option D) (h' : Hs), Dr xs h' ∧
    evS G (Phi G T (k + 3)) b8.tl.tl.tl.hd.th (S8 ns (some (.lst (stD WS))) tn nm lg tx kk ag at_) h = .ok (.nx (S8 ns (some (.lst (stD WS))) tn nm lg tx' kk' ag' at')) h' := by
  obtain ⟨cs1, kk1, h1, d1, hl1, e1⟩ := loop8a (k := k + 2) (ns := ns) hd (tn := tn) (nm := nm) (lg := lg) (kk := kk) (ag := ag) (at_ := at_)
  obtain ⟨cs2, at2, h2, d2, hl2, e2⟩ := ite8 (k := k + 2) (ns := ns) d1 hl1 (tn := tn) (nm := nm) (lg := lg) (kk := kk1) (ag := ag) (at_ := at_)
  obtain ⟨ag3, e3⟩ := loop8b (k := k) (ns := ns) (h := h2) (cs := cs2) (by omega) (tn := tn) (nm := nm) (lg := lg) (kk := kk1) (ag := ag) (at_ := at2)
  refine ⟨some (TX cs2), kk1, ag3, at2, h2, d2, ?_⟩
  have a0 : evS G (Phi G T (k + 3)) b8.tl.tl.tl.hd.th.hd (S8 ns (some (.lst (stD WS))) tn nm lg tx kk ag at_) h = .ok (.nx (S8 ns (some (.lst (stD WS))) tn nm lg (some (TX [])) kk ag at_)) h := asg_eval (d := TX []) (by
    show evE G (Phi G T (k + 3)) (.kS "") _ _ = _
    simp only [evE]
    rfl) rfl
  exact (hd_nx (b := b8.tl.tl.tl.hd.th) rfl a0).trans ((hd_nx (b := b8.tl.tl.tl.hd.th.tl) rfl e1).trans ((hd_nx (b := b8.tl.tl.tl.hd.th.tl.tl) rfl e2).trans ((hd_nx (b := b8.tl.tl.tl.hd.th.tl.tl.tl) rfl e3).trans nop_eval)))
theorem loop8 {h : Hs} (hd : Dr xs h) : ∃ (tn tx kk ag at_ : Option D) (h' : Hs), Dr xs h' ∧
    evS G (Phi G T (k + 3)) b8.tl.tl.tl.hd (S8 ns (some (.lst (stD WS))) none none none none none none none) h = .ok (.nx (S8 ns (some (.lst (stD WS))) tn none none tx kk ag at_)) h' := by
  have it : ∀ h, itemsOf .range1 (.tup [.int 8]) h = some (rangeD 0 8) := fun h => items_range1 (by decide) (by decide)
  obtain ⟨sl2, h2', e, tn, tx, kk, ag, at_, dd, e2⟩ := for_nx (G := G) (Φ := Phi G T (k + 3)) (tg := .nm 3) (k := .range1) (src := .cons (.kI 8) .nil) (b := b8.tl.tl.tl.hd.th)
    (sl := S8 ns (some (.lst (stD WS))) none none none none none none none) (h := h) (h1 := h) (v := .tup [.int 8]) (items := rangeD 0 8)
    (fun i sl h' => ∃ (tn tx kk ag at_ : Option D), Dr xs h' ∧ sl = S8 ns (some (.lst (stD WS))) tn none none tx kk ag at_)
    (by simp only [evE, ev_bind]) (it _) ⟨none, none, none, none, none, hd, rfl⟩ (fun _ _ _ _ => it _)
    (fun i z sl h' hz hI => by
      obtain ⟨tn, tx, kk, ag, at_, dd, rfl⟩ := hI
      obtain ⟨tx', kk', ag', at', h2, d2, e⟩ := turn8 (k := k) (ns := ns) dd (tn := some z) (nm := none) (lg := none) (tx := tx) (kk := kk) (ag := ag) (at_ := at_)
      exact ⟨_, _, h2, rfl, e, some z, tx', kk', ag', at', d2, rfl⟩)
  subst e2
  exact ⟨tn, tx, kk, ag, at_, h2', dd, e⟩
theorem asked_no {h : Hs} {d : D} (hd : isiD "str" d h = .ok (.bl false) h) : Phi G T (k + 3) 6 [d] h = .ok (.lst [.int 0, .str "text"]) h :=
  asked_of (o := .err 0 "text") (tokens_no hd) (fun acc e => by cases e)
end
abbrev level : Nat := 3
theorem law_true (is : List Int) (h : is.length ≤ 63) : ∃ h', Phi G T (level + 1) 8 [.fro (is.map .int)] [] = .ok (.bl true) h' := by
  have hl : is.length ≤ lim := Nat.le_trans h (by decide)
  have h16 : 16 ≤ lim := by decide
  have h27 : 27 ≤ lim := by decide
  obtain ⟨tn, tx, kk, ag, at_, h1, d1, e1⟩ := loop8 (k := 0) (xs := is) (ns := .fro (is.map .int)) (h := [drw is 0 0 1]) ⟨0, 0, 1, Int.le_refl _, rfl⟩
  obtain ⟨v, h2, d2, l2, u2, e2⟩ := drawS (k := 2) d1 (L := 3) (by decide) (by decide)
  refine ⟨h2, ?_⟩
  rw [call_ok (fn := f8) rfl rfl]
  show fin false [] (evS G (Phi G T 3) b8 [some (.fro (is.map .int)), none, none, none, none, none, none, none, none, none, none] []) = _
  have a0 : evS G (Phi G T 3) b8.hd [some (.fro (is.map .int)), none, none, none, none, none, none, none, none, none, none] [] = .ok (.nx (S8 (.fro (is.map .int)) none none none none none none none none)) [drw is 0 0 1] := by
    simp [b8, S.hd, evS, evE, draws_eq 2 is [] hl]
  have w1 : evS G (Phi G T 3) b8.tl.hd (S8 (.fro (is.map .int)) none none none none none none none none) [drw is 0 0 1] = .ok (.nx (S8 (.fro (is.map .int)) (some (.lst (stD (WS.take 27)))) none none none none none none none)) [drw is 0 0 1] := by
    refine asg_eval (d := .lst (stD (WS.take 27))) ?_ rfl
    refine (lst_eval (xs := stD (WS.take 27)) (h1 := [drw is 0 0 1]) (by simp only [evE, ev_bind]; rfl)).trans ?_
    unfold mkL
    rw [if_pos (by show 27 ≤ lim; decide)]; rfl
  have w2 : evS G (Phi G T 3) b8.tl.tl.hd (S8 (.fro (is.map .int)) (some (.lst (stD (WS.take 27)))) none none none none none none none) [drw is 0 0 1] = .ok (.nx (S8 (.fro (is.map .int)) (some (.lst (stD WS))) none none none none none none none)) [drw is 0 0 1] := by
    refine asg_eval (d := .lst (stD WS)) ((bin_eval (x := .lst (stD (WS.take 27))) (y := .lst (stD (WS.drop 27))) (h1 := [drw is 0 0 1]) (h2 := [drw is 0 0 1]) (by simp only [evE, List.getElem?_cons_zero, List.getElem?_cons_succ]) ((lst_eval (xs := stD (WS.drop 27)) (h1 := [drw is 0 0 1]) (by simp only [evE, ev_bind]; rfl)).trans ?_)).trans ?_) rfl
    · unfold mkL
      rw [if_pos (by show 6 ≤ lim; decide)]; rfl
    · rw [bin_lst (by show 33 ≤ lim; decide)]; rfl
  have w4 : evS G (Phi G T 3) b8.tl.tl.tl.tl.hd (S8 (.fro (is.map .int)) (some (.lst (stD WS))) tn none none tx kk ag at_) h1 = .ok (.nx (S8 (.fro (is.map .int)) (some (.lst (stD WS))) tn (some (.lst (NP.map (·.1)))) none tx kk ag at_)) h1 := by
    have h1' : 1 ≤ lim := by decide
    refine asg_eval (d := .lst (NP.map (·.1))) ?_ rfl
    refine (lst_eval (xs := NP.map (·.1)) (h1 := h1) (by simp only [evE, ev_bind, List.length_cons, List.length_nil, h1', if_true]; rfl)).trans ?_
    unfold mkL
    rw [if_pos (by show 16 ≤ lim; decide)]; rfl
  have nm3 : ∀ p ∈ NP, Phi G T 3 3 [p.1] h1 = .ok p.2 h1 := fun p hp => NP_eq hp
  have lcn : evE G (Phi G T 3) (.lc false [10] (.nm 10) .seq (.var 4) (.kB true) (.call 3 (.cons (.var 10) .nil))) (S8 (.fro (is.map .int)) (some (.lst (stD WS))) tn (some (.lst (NP.map (·.1)))) none tx kk ag at_) h1 = .ok (.lst (NP.map (·.2))) h1 := by
    have it : itemsOf .seq (.lst (NP.map (·.1))) h1 = some (NP.map (·.1)) := rfl
    simp only [evE, List.getElem?_cons_zero, List.getElem?_cons_succ, ev_bind, it]
    rw [lc_pairs (decide_eq_true rfl) NP [] (fun p hp => by
      simp only [tg_nm, wipeD, List.set_cons_succ, List.set_cons_zero, ev_calm, ev_bind, tr_bl, List.getElem?_cons_zero, List.getElem?_cons_succ, nm3 p hp]) (by show 16 ≤ lim; decide)]
    simp only [ev_bind, List.nil_append]
    unfold mkL
    rw [if_pos (by show 16 ≤ lim; decide)]; rfl
  have w5 : evS G (Phi G T 3) b8.tl.tl.tl.tl.tl.hd (S8 (.fro (is.map .int)) (some (.lst (stD WS))) tn (some (.lst (NP.map (·.1)))) none tx kk ag at_) h1 = .ok (.nx (S8 (.fro (is.map .int)) (some (.lst (stD WS))) tn (some (.lst (NP.map (·.1)))) none tx kk ag at_)) h1 := by
    refine (ite_f ((cmp_eval lcn (y := .lst [.bl true, .bl true, .bl false, .bl false, .bl false, .bl false, .bl false, .bl false, .bl true, .bl true, .bl false, .bl false, .bl true, .bl false, .bl false, .bl false]) (h2 := h1) ?_).trans names_ne) rfl).trans nop_eval
    refine (lst_eval (xs := [.bl true, .bl true, .bl false, .bl false, .bl false, .bl false, .bl false, .bl false, .bl true, .bl true, .bl false, .bl false, .bl true, .bl false, .bl false, .bl false]) (h1 := h1) (by simp only [evE, ev_bind])).trans ?_
    unfold mkL
    rw [if_pos (by show 16 ≤ lim; decide)]; rfl
  have w6 : evS G (Phi G T 3) b8.tl.tl.tl.tl.tl.tl.hd (S8 (.fro (is.map .int)) (some (.lst (stD WS))) tn (some (.lst (NP.map (·.1)))) none tx kk ag at_) h1 = .ok (.nx (S8 (.fro (is.map .int)) (some (.lst (stD WS))) tn (some (.lst (NP.map (·.1)))) (some (TX (rep 3000))) tx kk ag at_)) h1 :=
    asg_eval (d := TX (rep 3000)) ((bin_eval (x := .str "x ") (y := .int 3000) (h1 := h1) (h2 := h1) (by simp only [evE]) (by simp only [evE])).trans mul_long) rfl
  have ak1 : Phi G T 3 6 [TX (rep 3000)] h1 = .ok (.tup (List.replicate 3000 (tok [120] 1))) h1 := by
    have := asked_eq (k := 0) (h := h1) (cs := rep 3000) (by rw [rep_len]; decide)
    rw [long1] at this; exact this
  have ak2 : Phi G T 3 6 [TX (rep 3000 ++ [10, 120])] h1 = .ok (.lst [.int 2, .str "many"]) h1 := by
    have := asked_eq (k := 0) (h := h1) (cs := rep 3000 ++ [10, 120]) (by rw [List.length_append, rep_len]; decide)
    rw [long2] at this; exact this
  have ln3 : biD .len [.tup (List.replicate 3000 (tok [120] 1))] h1 = .ok (.int 3000) h1 := by
    simp only [biD, biLen, seqOf, List.length_replicate]
    rfl
  generalize hLT : List.replicate 3000 (tok [120] 1) = LT at ak1 ln3
  have r1 : evE G (Phi G T 3) (.cmp .Eq (.bi .len (.cons (.call 6 (.cons (.var 5) .nil)) .nil)) (.kI 3000)) (S8 (.fro (is.map .int)) (some (.lst (stD WS))) tn (some (.lst (NP.map (·.1)))) (some (TX (rep 3000))) tx kk ag at_) h1 = .ok (.bl true) h1 := by
    refine (cmp_eval ((bi_eval (cons_eval ((call_eval (xs := [TX (rep 3000)]) (h1 := h1) (by simp only [evE, List.getElem?_cons_zero, List.getElem?_cons_succ, ev_bind])).trans ak1) nil_eval)).trans ln3) (y := .int 3000) (h2 := h1) (by simp only [evE])).trans (cmp_eqi.trans ?_)
    simp
  have ad : binD false .Add (TX (rep 3000)) (TX [10, 120]) h1 = .ok (TX (rep 3000 ++ [10, 120])) h1 := add_S (by rw [rep_len]; decide)
  have r2 : evE G (Phi G T 3) (.call 6 (.cons (.bin false .Add (.var 5) (.kS "\nx")) .nil)) (S8 (.fro (is.map .int)) (some (.lst (stD WS))) tn (some (.lst (NP.map (·.1)))) (some (TX (rep 3000))) tx kk ag at_) h1 = .ok (.lst [.int 2, .str "many"]) h1 :=
    (call_eval (cons_eval ((bin_eval (x := TX (rep 3000)) (y := TX [10, 120]) (h1 := h1) (h2 := h1) (by simp only [evE, List.getElem?_cons_zero, List.getElem?_cons_succ]) (by simp only [evE]; rfl)).trans ad) nil_eval)).trans ak2
  obtain ⟨q, rfl⟩ := Int.eq_ofNat_of_zero_le l2
  have hq3 : q = 0 ∨ q = 1 ∨ q = 2 := by omega
  have l1 : mkL false [.str "x"] h1 = .ok (.lst [.str "x"]) h1 := by simp [mkL, lim]
  have l3 : mkL false [.non, .int 5, .lst [.str "x"]] h1 = .ok (.lst [.non, .int 5, .lst [.str "x"]]) h1 := by simp [mkL, lim]
  have hx : ∃ d, ixD (.lst [.non, .int 5, .lst [.str "x"]]) (.int (q : Nat)) h2 = .ok d h2 ∧ isiD "str" d h2 = .ok (.bl false) h2 := by
    rcases hq3 with rfl | rfl | rfl
    · exact ⟨.non, ix_lst (k := 0) rfl, rfl⟩
    · exact ⟨.int 5, ix_lst (k := 1) rfl, rfl⟩
    · exact ⟨.lst [.str "x"], ix_lst (k := 2) rfl, rfl⟩
  obtain ⟨d, x1, x2⟩ := hx
  have r3 : evE G (Phi G T 3) (.call 6 (.cons (.ix (.lst false (.cons .kN (.cons (.kI 5) (.cons (.lst false (.cons (.kS "x") .nil)) .nil)))) (.call 2 (.cons (.var 1) (.cons (.kI 3) .nil)))) .nil)) (S8 (.fro (is.map .int)) (some (.lst (stD WS))) tn (some (.lst (NP.map (·.1)))) (some (TX (rep 3000))) tx kk ag at_) h1 = .ok (.lst [.int 0, .str "text"]) h2 := by
    refine (call_eval (cons_eval ((ix_eval (x := .lst [.non, .int 5, .lst [.str "x"]]) (y := .int (q : Nat)) (h1 := h1) (h2 := h2) ((lst_eval (xs := [.non, .int 5, .lst [.str "x"]]) (h1 := h1) ?_).trans l3) ((call_eval (xs := [.ref 0, .int 3]) (h1 := h1) (by simp only [evE, List.getElem?_cons_zero, List.getElem?_cons_succ, ev_bind])).trans e2)).trans x1) nil_eval)).trans (asked_no (k := 0) x2)
    simp only [evE, ev_bind, l1]
  have lm : ∀ (a b : D) (h : Hs), mkL false [a, b] h = .ok (.lst [a, b]) h := fun a b h => by simp [mkL, lim]
  have r4 : evE G (Phi G T 3) (.lst false (.cons (.call 6 (.cons (.bin false .Add (.var 5) (.kS "\nx")) .nil)) (.cons (.call 6 (.cons (.ix (.lst false (.cons .kN (.cons (.kI 5) (.cons (.lst false (.cons (.kS "x") .nil)) .nil)))) (.call 2 (.cons (.var 1) (.cons (.kI 3) .nil)))) .nil)) .nil))) (S8 (.fro (is.map .int)) (some (.lst (stD WS))) tn (some (.lst (NP.map (·.1)))) (some (TX (rep 3000))) tx kk ag at_) h1 = .ok (.lst [.lst [.int 2, .str "many"], .lst [.int 0, .str "text"]]) h2 :=
    (lst_eval (cons_eval r2 (cons_eval r3 nil_eval))).trans (lm _ _ _)
  have r5 : evE G (Phi G T 3) (.lst false (.cons (.lst false (.cons (.kI 2) (.cons (.kS "many") .nil))) (.cons (.lst false (.cons (.kI 0) (.cons (.kS "text") .nil))) .nil))) (S8 (.fro (is.map .int)) (some (.lst (stD WS))) tn (some (.lst (NP.map (·.1)))) (some (TX (rep 3000))) tx kk ag at_) h2 = .ok (.lst [.lst [.int 2, .str "many"], .lst [.int 0, .str "text"]]) h2 := by
    simp only [evE, ev_bind, lm]
  have sm : Phi G T 3 1 [.lst [.lst [.int 2, .str "many"], .lst [.int 0, .str "text"]], .lst [.lst [.int 2, .str "many"], .lst [.int 0, .str "text"]]] h2 = .ok (.bl true) h2 := by
    refine same_sq (k := 1) (.inr rfl) (by simp) fun d hd h => ?_
    simp only [List.mem_cons, List.not_mem_nil, or_false] at hd
    rcases hd with rfl | rfl
    · exact same_err (k := 0)
    · exact same_err (k := 0)
  have w7 : evS G (Phi G T 3) b8.tl.tl.tl.tl.tl.tl.tl (S8 (.fro (is.map .int)) (some (.lst (stD WS))) tn (some (.lst (NP.map (·.1)))) (some (TX (rep 3000))) tx kk ag at_) h1 = .ok (.rt (.bl true)) h2 :=
    seq_rt (ret_eval ((and_t r1 rfl).trans ((call_eval (cons_eval r4 (cons_eval r5 nil_eval))).trans sm)))
  rw [hd_nx (b := b8) rfl a0, hd_nx (b := b8.tl) rfl w1, hd_nx (b := b8.tl.tl) rfl w2, hd_nx (b := b8.tl.tl.tl) rfl e1, hd_nx (b := b8.tl.tl.tl.tl) rfl w4, hd_nx (b := b8.tl.tl.tl.tl.tl) rfl w5, hd_nx (b := b8.tl.tl.tl.tl.tl.tl) rfl w6, w7]
  rfl
end Pr

namespace Pr
open PySem L2 DI PyProof.Rows
def initSt (i : Nat) : Stmt := match top i with
  | .ClassDef _ _ _ b _ _ _ _ _ _ _ => b.getD 0 (.Pass ⟨0, 0, 0, 0⟩)
  | s => s
section
variable {K : PySem.W.Frag} {h : Heap} {mg : Str → Option Value}
theorem d0 (X : K.In h) (Gm : h.Ns mainGlobals mg) {a : Addr} {oc kV dc pm cd ct : Value} {od an : Option Addr} {sl : Array (Option Value)} (a1 : PySem.W.nsIn K mainGlobals "_law_draws" = some (some (.ref a)))
    (l : K.lookup a = some ⟨oc, od, .func (PySem.W.fnOf "_law_draws" "_law_draws" (defArgs (top 14)) (defBody (top 14)) (defScope (top 14)) .none kV dc pm an cd ct), sl⟩) (c : PySem.W.codeIn K cd "_law_draws" = true) (k : PySem.W.keepIn K (.ref a) = true) : FnS K mg Γ T "_law_draws" 0 :=
  fnS_mk X Gm rfl s0 (by decide) rfl c0 (fun _ _ _ _ _ _ us hl => match us, hl with | [_], _ => rfl) a1 l c k
theorem d1 (X : K.In h) (Gm : h.Ns mainGlobals mg) {a : Addr} {oc kV dc pm cd ct : Value} {od an : Option Addr} {sl : Array (Option Value)} (a1 : PySem.W.nsIn K mainGlobals "_law_same" = some (some (.ref a)))
    (l : K.lookup a = some ⟨oc, od, .func (PySem.W.fnOf "_law_same" "_law_same" (defArgs (top 16)) (defBody (top 16)) (defScope (top 16)) .none kV dc pm an cd ct), sl⟩) (c : PySem.W.codeIn K cd "_law_same" = true) (k : PySem.W.keepIn K (.ref a) = true) : FnS K mg Γ T "_law_same" 1 :=
  fnS_mk X Gm rfl s1 (by decide) rfl c1 (fun _ _ _ _ _ _ us hl => match us, hl with | [_, _], _ => rfl) a1 l c k
theorem d2 (X : K.In h) (Gm : h.Ns mainGlobals mg) {a : Addr} {oc kV dc pm cd ct : Value} {od an : Option Addr} {sl : Array (Option Value)} (a1 : PySem.W.nsIn K mainGlobals "_law_draw" = some (some (.ref a)))
    (l : K.lookup a = some ⟨oc, od, .func (PySem.W.fnOf "_law_draw" "_law_draw" (defArgs (top 15)) (defBody (top 15)) (defScope (top 15)) .none kV dc pm an cd ct), sl⟩) (c : PySem.W.codeIn K cd "_law_draw" = true) (k : PySem.W.keepIn K (.ref a) = true) : FnS K mg Γ T "_law_draw" 2 :=
  fnS_mk X Gm rfl s2 (by decide) rfl c2 (fun _ _ _ _ _ _ us hl => match us, hl with | [_, _], _ => rfl) a1 l c k
theorem d3 (X : K.In h) (Gm : h.Ns mainGlobals mg) {a : Addr} {oc kV dc pm cd ct : Value} {od an : Option Addr} {sl : Array (Option Value)} (a1 : PySem.W.nsIn K mainGlobals "is_name" = some (some (.ref a)))
    (l : K.lookup a = some ⟨oc, od, .func (PySem.W.fnOf "is_name" "is_name" (defArgs (top 10)) (defBody (top 10)) (defScope (top 10)) .none kV dc pm an cd ct), sl⟩) (c : PySem.W.codeIn K cd "is_name" = true) (k : PySem.W.keepIn K (.ref a) = true) : FnS K mg Γ T "is_name" 3 :=
  fnS_mk X Gm rfl s3 (by decide) rfl c3 (fun _ _ _ _ _ _ us hl => match us, hl with | [_], _ => rfl) a1 l c k
theorem d4 (X : K.In h) (Gm : h.Ns mainGlobals mg) {a : Addr} {oc kV dc pm cd ct : Value} {od an : Option Addr} {sl : Array (Option Value)} (a1 : PySem.W.nsIn K mainGlobals "word_at" = some (some (.ref a)))
    (l : K.lookup a = some ⟨oc, od, .func (PySem.W.fnOf "word_at" "word_at" (defArgs (top 12)) (defBody (top 12)) (defScope (top 12)) .none kV dc pm an cd ct), sl⟩) (c : PySem.W.codeIn K cd "word_at" = true) (k : PySem.W.keepIn K (.ref a) = true) : FnS K mg Γ T "word_at" 4 :=
  fnS_mk X Gm rfl s4 (by decide) rfl c4 (fun _ _ _ _ _ _ us hl => match us, hl with | [_, _, _], _ => rfl) a1 l c k
theorem d5 (X : K.In h) (Gm : h.Ns mainGlobals mg) {a : Addr} {oc kV dc pm cd ct : Value} {od an : Option Addr} {sl : Array (Option Value)} (a1 : PySem.W.nsIn K mainGlobals "tokens_of" = some (some (.ref a)))
    (l : K.lookup a = some ⟨oc, od, .func (PySem.W.fnOf "tokens_of" "tokens_of" (defArgs (top 11)) (defBody (top 11)) (defScope (top 11)) .none kV dc pm an cd ct), sl⟩) (c : PySem.W.codeIn K cd "tokens_of" = true) (k : PySem.W.keepIn K (.ref a) = true) : FnS K mg Γ T "tokens_of" 5 :=
  fnS_mk X Gm rfl s5 (by decide) rfl c5 (fun _ _ _ _ _ _ us hl => match us, hl with | [_], _ => rfl) a1 l c k
theorem d6 (X : K.In h) (Gm : h.Ns mainGlobals mg) {a : Addr} {oc kV dc pm cd ct : Value} {od an : Option Addr} {sl : Array (Option Value)} (a1 : PySem.W.nsIn K mainGlobals "_law_asked" = some (some (.ref a)))
    (l : K.lookup a = some ⟨oc, od, .func (PySem.W.fnOf "_law_asked" "_law_asked" (defArgs (top 18)) (defBody (top 18)) (defScope (top 18)) .none kV dc pm an cd ct), sl⟩) (c : PySem.W.codeIn K cd "_law_asked" = true) (k : PySem.W.keepIn K (.ref a) = true) : FnS K mg Γ T "_law_asked" 6 :=
  fnS_mk X Gm rfl s6 (by decide) rfl c6 (fun _ _ _ _ _ _ us hl => match us, hl with | [_], _ => rfl) a1 l c k
theorem d7 (X : K.In h) (Gm : h.Ns mainGlobals mg) {a : Addr} {oc kV dc pm cd ct : Value} {od an : Option Addr} {sl : Array (Option Value)} (a1 : PySem.W.nsIn K mainGlobals "_law_tokens" = some (some (.ref a)))
    (l : K.lookup a = some ⟨oc, od, .func (PySem.W.fnOf "_law_tokens" "_law_tokens" (defArgs (top 17)) (defBody (top 17)) (defScope (top 17)) .none kV dc pm an cd ct), sl⟩) (c : PySem.W.codeIn K cd "_law_tokens" = true) (k : PySem.W.keepIn K (.ref a) = true) : FnS K mg Γ T "_law_tokens" 7 :=
  fnS_mk X Gm rfl s7 (by decide) rfl c7 (fun _ _ _ _ _ _ us hl => match us, hl with | [_], _ => rfl) a1 l c k
theorem d8 (X : K.In h) (Gm : h.Ns mainGlobals mg) {a : Addr} {oc kV dc pm cd ct : Value} {od an : Option Addr} {sl : Array (Option Value)} (a1 : PySem.W.nsIn K mainGlobals "law" = some (some (.ref a)))
    (l : K.lookup a = some ⟨oc, od, .func (PySem.W.fnOf "law" "law" (defArgs (top 19)) (defBody (top 19)) (defScope (top 19)) .none kV dc pm an cd ct), sl⟩) (c : PySem.W.codeIn K cd "law" = true) (k : PySem.W.keepIn K (.ref a) = true) : FnS K mg Γ T "law" 8 :=
  fnS_mk X Gm rfl s8 (by decide) rfl c8 (fun _ _ _ _ _ _ us hl => match us, hl with | [_], _ => rfl) a1 l c k
theorem mk (X : K.In h) (Gm : h.Ns mainGlobals mg) {a0 : Addr} {oc0 kV0 dc0 pm0 cd0 ct0 : Value} {od0 an0 : Option Addr} {sl0 : Array (Option Value)} {a1 : Addr} {oc1 kV1 dc1 pm1 cd1 ct1 : Value} {od1 an1 : Option Addr} {sl1 : Array (Option Value)} {a2 : Addr} {oc2 kV2 dc2 pm2 cd2 ct2 : Value} {od2 an2 : Option Addr} {sl2 : Array (Option Value)} {a3 : Addr} {oc3 kV3 dc3 pm3 cd3 ct3 : Value} {od3 an3 : Option Addr} {sl3 : Array (Option Value)} {a4 : Addr} {oc4 kV4 dc4 pm4 cd4 ct4 : Value} {od4 an4 : Option Addr} {sl4 : Array (Option Value)} {a5 : Addr} {oc5 kV5 dc5 pm5 cd5 ct5 : Value} {od5 an5 : Option Addr} {sl5 : Array (Option Value)} {a6 : Addr} {oc6 kV6 dc6 pm6 cd6 ct6 : Value} {od6 an6 : Option Addr} {sl6 : Array (Option Value)} {a7 : Addr} {oc7 kV7 dc7 pm7 cd7 ct7 : Value} {od7 an7 : Option Addr} {sl7 : Array (Option Value)} {a8 : Addr} {oc8 kV8 dc8 pm8 cd8 ct8 : Value} {od8 an8 : Option Addr} {sl8 : Array (Option Value)} {t0 : Tok} {t1 : Tok} {t2 : Addr} {od_2 : Option Addr} {nn_2 : Nat} {sl_2 : Array (Option Value)} {k2_0 k2_1 k2_2 k2_3 k2_4 k2_5 k2_6 k2_7 : Tok} {t3 : Tok} {t4 : Addr} {od_4 : Option Addr} {nn_4 : Nat} {sl_4 : Array (Option Value)} {k4_0 k4_1 k4_2 k4_3 k4_4 k4_5 k4_6 k4_7 k4_8 k4_9 k4_10 k4_11 k4_12 k4_13 k4_14 k4_15 k4_16 k4_17 k4_18 k4_19 k4_20 k4_21 k4_22 k4_23 k4_24 k4_25 : Tok} {t5 : Tok} {C0 : Addr} {C1 fI1 : Addr} {nm1 qn1 : Str} {N1 : Addr} {bs1 : List Value} {sn1 : List Str} {sb1 : List Value} {ab1 : Bool} {co1 : Option Bool} {dd1 : Option Addr} {xk01 xk11 xk21 xk31 xk51 : Option Value} {ioc1 ikV1 idc1 ipm1 icd1 ict1 : Value} {iod1 ian1 : Option Addr} {isl1 : Array (Option Value)}
    (g0 : PySem.W.nsIn K mainGlobals "_law_draws" = some (some (.ref a0)))
    (l0 : K.lookup a0 = some ⟨oc0, od0, .func (PySem.W.fnOf "_law_draws" "_law_draws" (defArgs (top 14)) (defBody (top 14)) (defScope (top 14)) .none kV0 dc0 pm0 an0 cd0 ct0), sl0⟩)
    (e0 : PySem.W.codeIn K cd0 "_law_draws" = true)
    (k0 : PySem.W.keepIn K (.ref a0) = true)
    (g1 : PySem.W.nsIn K mainGlobals "_law_same" = some (some (.ref a1)))
    (l1 : K.lookup a1 = some ⟨oc1, od1, .func (PySem.W.fnOf "_law_same" "_law_same" (defArgs (top 16)) (defBody (top 16)) (defScope (top 16)) .none kV1 dc1 pm1 an1 cd1 ct1), sl1⟩)
    (e1 : PySem.W.codeIn K cd1 "_law_same" = true)
    (k1 : PySem.W.keepIn K (.ref a1) = true)
    (g2 : PySem.W.nsIn K mainGlobals "_law_draw" = some (some (.ref a2)))
    (l2 : K.lookup a2 = some ⟨oc2, od2, .func (PySem.W.fnOf "_law_draw" "_law_draw" (defArgs (top 15)) (defBody (top 15)) (defScope (top 15)) .none kV2 dc2 pm2 an2 cd2 ct2), sl2⟩)
    (e2 : PySem.W.codeIn K cd2 "_law_draw" = true)
    (k2 : PySem.W.keepIn K (.ref a2) = true)
    (g3 : PySem.W.nsIn K mainGlobals "is_name" = some (some (.ref a3)))
    (l3 : K.lookup a3 = some ⟨oc3, od3, .func (PySem.W.fnOf "is_name" "is_name" (defArgs (top 10)) (defBody (top 10)) (defScope (top 10)) .none kV3 dc3 pm3 an3 cd3 ct3), sl3⟩)
    (e3 : PySem.W.codeIn K cd3 "is_name" = true)
    (k3 : PySem.W.keepIn K (.ref a3) = true)
    (g4 : PySem.W.nsIn K mainGlobals "word_at" = some (some (.ref a4)))
    (l4 : K.lookup a4 = some ⟨oc4, od4, .func (PySem.W.fnOf "word_at" "word_at" (defArgs (top 12)) (defBody (top 12)) (defScope (top 12)) .none kV4 dc4 pm4 an4 cd4 ct4), sl4⟩)
    (e4 : PySem.W.codeIn K cd4 "word_at" = true)
    (k4 : PySem.W.keepIn K (.ref a4) = true)
    (g5 : PySem.W.nsIn K mainGlobals "tokens_of" = some (some (.ref a5)))
    (l5 : K.lookup a5 = some ⟨oc5, od5, .func (PySem.W.fnOf "tokens_of" "tokens_of" (defArgs (top 11)) (defBody (top 11)) (defScope (top 11)) .none kV5 dc5 pm5 an5 cd5 ct5), sl5⟩)
    (e5 : PySem.W.codeIn K cd5 "tokens_of" = true)
    (k5 : PySem.W.keepIn K (.ref a5) = true)
    (g6 : PySem.W.nsIn K mainGlobals "_law_asked" = some (some (.ref a6)))
    (l6 : K.lookup a6 = some ⟨oc6, od6, .func (PySem.W.fnOf "_law_asked" "_law_asked" (defArgs (top 18)) (defBody (top 18)) (defScope (top 18)) .none kV6 dc6 pm6 an6 cd6 ct6), sl6⟩)
    (e6 : PySem.W.codeIn K cd6 "_law_asked" = true)
    (k6 : PySem.W.keepIn K (.ref a6) = true)
    (g7 : PySem.W.nsIn K mainGlobals "_law_tokens" = some (some (.ref a7)))
    (l7 : K.lookup a7 = some ⟨oc7, od7, .func (PySem.W.fnOf "_law_tokens" "_law_tokens" (defArgs (top 17)) (defBody (top 17)) (defScope (top 17)) .none kV7 dc7 pm7 an7 cd7 ct7), sl7⟩)
    (e7 : PySem.W.codeIn K cd7 "_law_tokens" = true)
    (k7 : PySem.W.keepIn K (.ref a7) = true)
    (g8 : PySem.W.nsIn K mainGlobals "law" = some (some (.ref a8)))
    (l8 : K.lookup a8 = some ⟨oc8, od8, .func (PySem.W.fnOf "law" "law" (defArgs (top 19)) (defBody (top 19)) (defScope (top 19)) .none kV8 dc8 pm8 an8 cd8 ct8), sl8⟩)
    (e8 : PySem.W.codeIn K cd8 "law" = true)
    (k8 : PySem.W.keepIn K (.ref a8) = true)
    (v0 : PySem.W.nsIn K mainGlobals "SMALL" = some (some (.str "abcdefghijklmnopqrstuvwxyz" t0)))
    (v1 : PySem.W.nsIn K mainGlobals "FIGURES" = some (some (.str "0123456789" t1)))
    (v2 : PySem.W.nsIn K mainGlobals "DOUBLE" = some (some (.ref t2)))
    (w2 : K.lookup t2 = some ⟨.type "tuple", od_2, .seq #[.str "==" k2_0, .str "!=" k2_1, .str "<=" k2_2, .str ">=" k2_3, .str "&&" k2_4, .str "||" k2_5, .str "<<" k2_6, .str ">>" k2_7] nn_2, sl_2⟩)
    (v3 : PySem.W.nsIn K mainGlobals "SINGLE" = some (some (.str "+-*/&|^<>=!(){}[];,." t3)))
    (v4 : PySem.W.nsIn K mainGlobals "KEYS" = some (some (.ref t4)))
    (w4 : K.lookup t4 = some ⟨.type "tuple", od_4, .seq #[.str "class" k4_0, .str "of" k4_1, .str "unit" k4_2, .str "void" k4_3, .str "int" k4_4, .str "ints" k4_5, .str "refs" k4_6, .str "any" k4_7, .str "let" k4_8, .str "if" k4_9, .str "else" k4_10, .str "while" k4_11, .str "return" k4_12, .str "tell" k4_13, .str "throw" k4_14, .str "try" k4_15, .str "catch" k4_16, .str "bring" k4_17, .str "null" k4_18, .str "new" k4_19, .str "ask" k4_20, .str "size" k4_21, .str "is" k4_22, .str "as" k4_23, .str "mod" k4_24, .str "same" k4_25] nn_4, sl_4⟩)
    (v5 : PySem.W.nsIn K mainGlobals "MOST_TOKENS" = some (some (.int (3000) t5)))
    (z0 : PySem.W.nsIn K mainGlobals "all" = some none)
    (z1 : PySem.W.nsIn K mainGlobals "bool" = some none)
    (z2 : PySem.W.nsIn K mainGlobals "int" = some none)
    (z3 : PySem.W.nsIn K mainGlobals "isinstance" = some none)
    (z4 : PySem.W.nsIn K mainGlobals "len" = some none)
    (z5 : PySem.W.nsIn K mainGlobals "list" = some none)
    (z6 : PySem.W.nsIn K mainGlobals "range" = some none)
    (z7 : PySem.W.nsIn K mainGlobals "str" = some none)
    (z8 : PySem.W.nsIn K mainGlobals "tuple" = some none)
    (gc0 : PySem.W.nsIn K mainGlobals "RoadError" = some (some (.ref C0)))
    (xc0 : PySem.W.excIn K C0 [.type "ValueError", .type "Exception", .type "BaseException", .type "object"] "ValueError.__new__" = true)
    (kc0 : PySem.W.keepIn K (.ref C0) = true)
    (bc0 : PySem.W.subIn K (.ref C0) (.type "BaseException") = some true)
    (tc0 : PySem.W.typeIn K (.ref C0) = some (.type "type"))
    (gc1 : PySem.W.nsIn K mainGlobals "BadText" = some (some (.ref C1)))
    (xl1 : K.lookup C1 = some (excClassObj nm1 qn1 C1 N1 bs1 [.ref C0, .type "ValueError", .type "Exception", .type "BaseException", .type "object"] true sn1 sb1 ab1 co1 dd1 xk01 xk11 xk21 xk31 xk51 "ValueError.__new__"))
    (xs1 : PySem.W.findIn K (.ref C1) "__setattr__" = some (some (.builtin "object.__setattr__")))
    (kc1 : PySem.W.keepIn K (.ref C1) = true)
    (bc1 : PySem.W.subIn K (.ref C1) (.type "BaseException") = some true)
    (tc1 : PySem.W.typeIn K (.ref C1) = some (.type "type"))
    (xga1 : PySem.W.findIn K (.ref C1) "__getattribute__" = some (some (.builtin "BaseException.__getattribute__")))
    (xgg1 : PySem.W.findIn K (.ref C1) "__getattr__" = some none)
    (xhd1 : PySem.W.hasDictIn K C1 = true)
    (xfa1 : PySem.W.findIn K (.ref C1) "line" = some none)
    (xfb1 : PySem.W.findIn K (.ref C1) "word" = some none)
    (xi1 : PySem.W.findIn K (.ref C1) "__init__" = some (some (.ref fI1)))
    (xt1 : PySem.W.typeIn K (.ref fI1) = some (.type "function"))
    (il1 : K.lookup fI1 = some ⟨ioc1, iod1, .func (PySem.W.fnOf "__init__" "BadText.__init__" (defArgs (initSt 2)) (defBody (initSt 2)) (defScope (initSt 2)) .none ikV1 idc1 ipm1 ian1 icd1 ict1), isl1⟩)
    (ic1 : PySem.W.codeIn K icd1 "BadText.__init__" = true)
    (ik1 : PySem.W.keepIn K (.ref fI1) = true)
    (ag1 : PySem.W.specialIn K (.ref C0) "__getattribute__" = some (some (.builtin "type.__getattribute__")))
    (ar1 : PySem.W.readsIn K C0 (.type "type") = true)
    (av1 : PySem.W.findCls K (.ref C0) (.type "type") "__init__" = some (.val (.builtin "ValueError.__init__")))
    (m0_0 : PySem.W.subIn K (.ref C0) (.ref C0) = some true)
    (m1_0 : PySem.W.subIn K (.ref C1) (.ref C0) = some true)
    (hd0 : PySem.W.hasDictIn K C0 = true) :
    ∃ ca, ModS G Γ T ca K mg ∧ FnS K mg Γ T "law" 8 := by
  refine ⟨fun i => if i = 0 then C0 else if i = 1 then C1 else 0, ⟨?_, ?_, ?_, ?_, ?_, ?_⟩, d8 X Gm g8 l8 e8 k8⟩
  · refine lookup_all (p := fun x d => ∃ v u, mg x = some u ∧ RelV v u ∧ ∀ ρ n H, Rel K ρ n H d v) (l := conL) ?_
    simp only [conL, List.forall_mem_cons, List.not_mem_nil, false_imp_iff, implies_true, and_true]
    exact ⟨⟨.str "abcdefghijklmnopqrstuvwxyz", _, PySem.W.mg_of X Gm v0, ⟨_, rfl⟩, fun _ _ _ => .str _⟩, ⟨.str "0123456789", _, PySem.W.mg_of X Gm v1, ⟨_, rfl⟩, fun _ _ _ => .str _⟩, ⟨.ref t2, _, PySem.W.mg_of X Gm v2, rfl, fun _ _ _ => .tup (vs := [.str "==", .str "!=", .str "<=", .str ">=", .str "&&", .str "||", .str "<<", .str ">>"]) (.inr ⟨_, _, _, w2, rfl, rfl, (show 8 ≤ sizeLine by decide), (.cons ⟨k2_0, rfl⟩ (.cons ⟨k2_1, rfl⟩ (.cons ⟨k2_2, rfl⟩ (.cons ⟨k2_3, rfl⟩ (.cons ⟨k2_4, rfl⟩ (.cons ⟨k2_5, rfl⟩ (.cons ⟨k2_6, rfl⟩ (.cons ⟨k2_7, rfl⟩ (.nil)))))))))⟩) (.cons (.str "==") (.cons (.str "!=") (.cons (.str "<=") (.cons (.str ">=") (.cons (.str "&&") (.cons (.str "||") (.cons (.str "<<") (.cons (.str ">>") (.nil)))))))))⟩, ⟨.str "+-*/&|^<>=!(){}[];,.", _, PySem.W.mg_of X Gm v3, ⟨_, rfl⟩, fun _ _ _ => .str _⟩, ⟨.ref t4, _, PySem.W.mg_of X Gm v4, rfl, fun _ _ _ => .tup (vs := [.str "class", .str "of", .str "unit", .str "void", .str "int", .str "ints", .str "refs", .str "any", .str "let", .str "if", .str "else", .str "while", .str "return", .str "tell", .str "throw", .str "try", .str "catch", .str "bring", .str "null", .str "new", .str "ask", .str "size", .str "is", .str "as", .str "mod", .str "same"]) (.inr ⟨_, _, _, w4, rfl, rfl, (show 26 ≤ sizeLine by decide), (.cons ⟨k4_0, rfl⟩ (.cons ⟨k4_1, rfl⟩ (.cons ⟨k4_2, rfl⟩ (.cons ⟨k4_3, rfl⟩ (.cons ⟨k4_4, rfl⟩ (.cons ⟨k4_5, rfl⟩ (.cons ⟨k4_6, rfl⟩ (.cons ⟨k4_7, rfl⟩ (.cons ⟨k4_8, rfl⟩ (.cons ⟨k4_9, rfl⟩ (.cons ⟨k4_10, rfl⟩ (.cons ⟨k4_11, rfl⟩ (.cons ⟨k4_12, rfl⟩ (.cons ⟨k4_13, rfl⟩ (.cons ⟨k4_14, rfl⟩ (.cons ⟨k4_15, rfl⟩ (.cons ⟨k4_16, rfl⟩ (.cons ⟨k4_17, rfl⟩ (.cons ⟨k4_18, rfl⟩ (.cons ⟨k4_19, rfl⟩ (.cons ⟨k4_20, rfl⟩ (.cons ⟨k4_21, rfl⟩ (.cons ⟨k4_22, rfl⟩ (.cons ⟨k4_23, rfl⟩ (.cons ⟨k4_24, rfl⟩ (.cons ⟨k4_25, rfl⟩ (.nil)))))))))))))))))))))))))))⟩) (.cons (.str "class") (.cons (.str "of") (.cons (.str "unit") (.cons (.str "void") (.cons (.str "int") (.cons (.str "ints") (.cons (.str "refs") (.cons (.str "any") (.cons (.str "let") (.cons (.str "if") (.cons (.str "else") (.cons (.str "while") (.cons (.str "return") (.cons (.str "tell") (.cons (.str "throw") (.cons (.str "try") (.cons (.str "catch") (.cons (.str "bring") (.cons (.str "null") (.cons (.str "new") (.cons (.str "ask") (.cons (.str "size") (.cons (.str "is") (.cons (.str "as") (.cons (.str "mod") (.cons (.str "same") (.nil)))))))))))))))))))))))))))⟩, ⟨.int (3000), _, PySem.W.mg_of X Gm v5, ⟨_, rfl⟩, fun _ _ _ => .int _⟩⟩
  · refine contains_all (l := bltL) ?_
    simp only [bltL, List.forall_mem_cons, List.not_mem_nil, false_imp_iff, implies_true, and_true]
    exact ⟨PySem.W.mg_none_of X Gm z0, PySem.W.mg_none_of X Gm z1, PySem.W.mg_none_of X Gm z2, PySem.W.mg_none_of X Gm z3, PySem.W.mg_none_of X Gm z4, PySem.W.mg_none_of X Gm z5, PySem.W.mg_none_of X Gm z6, PySem.W.mg_none_of X Gm z7, PySem.W.mg_none_of X Gm z8⟩
  · refine lookup_all (p := fun x f => FnS K mg Γ T x f) (l := fnL) ?_
    simp only [fnL, List.forall_mem_cons, List.not_mem_nil, false_imp_iff, implies_true, and_true]
    refine ⟨?_, ?_, ?_, ?_, ?_, ?_, ?_, ?_, ?_⟩
    · exact d0 X Gm g0 l0 e0 k0
    · exact d1 X Gm g1 l1 e1 k1
    · exact d2 X Gm g2 l2 e2 k2
    · exact d3 X Gm g3 l3 e3 k3
    · exact d4 X Gm g4 l4 e4 k4
    · exact d5 X Gm g5 l5 e5 k5
    · exact d6 X Gm g6 l6 e6 k6
    · exact d7 X Gm g7 l7 e7 k7
    · exact d8 X Gm g8 l8 e8 k8

  · refine lookup_all (p := fun x c => mg x = some (.ref ((fun i => if i = 0 then C0 else if i = 1 then C1 else 0 : Nat → Addr) c)) ∧ PySem.W.keepIn K (.ref ((fun i => if i = 0 then C0 else if i = 1 then C1 else 0 : Nat → Addr) c)) = true ∧ PySem.W.excIn K ((fun i => if i = 0 then C0 else if i = 1 then C1 else 0 : Nat → Addr) c) [.type "ValueError", .type "Exception", .type "BaseException", .type "object"] "ValueError.__new__" = true ∧
      PySem.W.subIn K (.ref ((fun i => if i = 0 then C0 else if i = 1 then C1 else 0 : Nat → Addr) c)) (.type "BaseException") = some true ∧ PySem.W.typeIn K (.ref ((fun i => if i = 0 then C0 else if i = 1 then C1 else 0 : Nat → Addr) c)) = some (.type "type")) (l := clsL) ?_
    simp only [clsL, List.forall_mem_cons, List.not_mem_nil, false_imp_iff, implies_true, and_true]
    exact ⟨PySem.W.mg_of X Gm gc0, kc0, xc0, bc0, tc0⟩
  · intro c c2 b hb
    simp only [G] at hb
    split at hb
    · rename_i e; obtain ⟨rfl, rfl⟩ := e; cases hb; exact PySem.W.exm_ref bc0 hd0 tc0 m0_0
    split at hb
    · rename_i e; obtain ⟨rfl, rfl⟩ := e; cases hb; exact PySem.W.exm_ref bc0 hd0 tc0 m1_0
    cases hb
  · intro x c fa fb hx
    simp only [Γ, clfL, List.lookup_cons] at hx
    split at hx
    · rename_i z
      have ez := eq_of_beq z
      subst ez
      cases hx
      exact ⟨PySem.W.mg_of X Gm gc1, ⟨⟨nm1, qn1, N1, bs1, _, sn1, sb1, ab1, co1, dd1, xk01, xk11, xk21, xk31, xk51, xl1, rfl⟩, xs1, bc1, tc1, kc1⟩, ⟨xga1, xgg1, bc1, xhd1⟩, xfa1, xfb1, fI1, C0, _, "BadText.__init__", initSt 2, "self", "line", "word", xi1, xt1, fun_mk il1 ic1 ik1,
        fun us hl => (match us, hl with | [_, _, _], _ => rfl), ⟨rfl, rfl, rfl, by decide +kernel, by decide +kernel, by decide +kernel, by decide +kernel⟩, ⟨_, _, _, _, _, _, _, _, _, _, _, _, _, _, by decide +kernel, rfl⟩, by decide +kernel, by decide +kernel, by decide +kernel, by decide +kernel, PySem.W.mg_of X Gm gc0, ⟨ag1, ar1, av1⟩⟩
    · cases hx
end
end Pr
open PySem PySem.W PyProof.Rows
set_option maxHeartbeats 0 in
theorem PySem.Challenge.cw_warmroads_k18_whole_words_of_the_languag_holds : PySem.Challenge.rw_warmroads_k18_whole_words_of_the_languag.Holds := by
  w_on; o_law; k_head; (case hw => w_witness2)
  k_fill
  refine DI.walk_DI (l := PySem.Challenge.rw_warmroads_k18_whole_words_of_the_languag) (f := 8) (k := Pr.level) (G := Pr.G) (Γ := Pr.Γ) (T := Pr.T) rfl rfl ⟨rfl, by decide, by decide⟩ (fun w h Y => PySem.W.kIn_of Y) ⟨_, rfl, rfl⟩ Pr.law_true ?F
  case F =>
    intro w mg fa h KX Gm hmg
    refine' Pr.mk KX Gm ?di_g0 ?di_l0 ?di_e0 ?di_k0 ?di_g1 ?di_l1 ?di_e1 ?di_k1 ?di_g2 ?di_l2 ?di_e2 ?di_k2 ?di_g3 ?di_l3 ?di_e3 ?di_k3 ?di_g4 ?di_l4 ?di_e4 ?di_k4 ?di_g5 ?di_l5 ?di_e5 ?di_k5 ?di_g6 ?di_l6 ?di_e6 ?di_k6 ?di_g7 ?di_l7 ?di_e7 ?di_k7 ?di_g8 ?di_l8 ?di_e8 ?di_k8 ?di_v0 ?di_v1 ?di_v2 ?di_w2 ?di_v3 ?di_v4 ?di_w4 ?di_v5 ?di_z0 ?di_z1 ?di_z2 ?di_z3 ?di_z4 ?di_z5 ?di_z6 ?di_z7 ?di_z8 ?di_gc0 ?di_xc0 ?di_kc0 ?di_bc0 ?di_tc0 ?di_gc1 ?di_xl1 ?di_xs1 ?di_kc1 ?di_bc1 ?di_tc1 ?di_xga1 ?di_xgg1 ?di_xhd1 ?di_xfa1 ?di_xfb1 ?di_xi1 ?di_xt1 ?di_il1 ?di_ic1 ?di_ik1 ?di_ag1 ?di_ar1 ?di_av1 ?di_m0_0 ?di_m1_0 ?di_hd0
    (case di_g0 => k_is)
    (case di_l0 => k_is)
    (case di_e0 => k_is)
    (case di_k0 => k_is)
    (case di_g1 => k_is)
    (case di_l1 => k_is)
    (case di_e1 => k_is)
    (case di_k1 => k_is)
    (case di_g2 => k_is)
    (case di_l2 => k_is)
    (case di_e2 => k_is)
    (case di_k2 => k_is)
    (case di_g3 => k_is)
    (case di_l3 => k_is)
    (case di_e3 => k_is)
    (case di_k3 => k_is)
    (case di_g4 => k_is)
    (case di_l4 => k_is)
    (case di_e4 => k_is)
    (case di_k4 => k_is)
    (case di_g5 => k_is)
    (case di_l5 => k_is)
    (case di_e5 => k_is)
    (case di_k5 => k_is)
    (case di_g6 => k_is)
    (case di_l6 => k_is)
    (case di_e6 => k_is)
    (case di_k6 => k_is)
    (case di_g7 => k_is)
    (case di_l7 => k_is)
    (case di_e7 => k_is)
    (case di_k7 => k_is)
    (case di_g8 => k_is)
    (case di_l8 => k_is)
    (case di_e8 => k_is)
    (case di_k8 => k_is)
    (case di_v0 => k_is)
    (case di_v1 => k_is)
    (case di_v2 => k_is)
    (case di_w2 => k_is)
    (case di_v3 => k_is)
    (case di_v4 => k_is)
    (case di_w4 => k_is)
    (case di_v5 => k_is)
    (case di_z0 => k_is)
    (case di_z1 => k_is)
    (case di_z2 => k_is)
    (case di_z3 => k_is)
    (case di_z4 => k_is)
    (case di_z5 => k_is)
    (case di_z6 => k_is)
    (case di_z7 => k_is)
    (case di_z8 => k_is)
    (case di_gc0 => k_is)
    (case di_xc0 => k_exc)
    (case di_kc0 => k_is)
    (case di_bc0 => k_is)
    (case di_tc0 => k_is)
    (case di_gc1 => k_is)
    (case di_xl1 => k_is)
    (case di_xs1 => k_is)
    (case di_kc1 => k_is)
    (case di_bc1 => k_is)
    (case di_tc1 => k_is)
    (case di_xga1 => k_is)
    (case di_xgg1 => k_is)
    (case di_xhd1 => k_is)
    (case di_xfa1 => k_is)
    (case di_xfb1 => k_is)
    (case di_xi1 => k_is)
    (case di_xt1 => k_is)
    (case di_il1 => k_is)
    (case di_ic1 => k_is)
    (case di_ik1 => k_is)
    (case di_ag1 => k_is)
    (case di_ar1 => k_is)
    (case di_av1 => k_is)
    (case di_m0_0 => k_is)
    (case di_m1_0 => k_is)
    (case di_hd0 => k_is)
#print axioms PySem.Challenge.cw_warmroads_k18_whole_words_of_the_languag_holds
