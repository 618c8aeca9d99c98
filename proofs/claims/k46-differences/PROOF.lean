import PyProof.Rows.All
import Wide.All
import OpenK.AllK
import Wide.FinOn
import HandS.ForMost
import HandS.ForExc
import HandS.Flow
import HandS.TupAny
import HandS.IsInst
import HandS.CallSlots
import KE.SortData
import HandS.SortInts
import HandS.Style
import KE.KExcSuper
import KE.KExcIs
import HandS.ExcInit
import HandS.ExcField
import HandS.Nested
import HandS.ExcIs
import HandS.TryOnly
import HandS.NoneIn
import HandS.More
import HandS.Replace
import KE.DataCmp
import KE.DataMinMax
import KE.KDictKeyed
import KE.KDictSum
import HandS.TupLen
import HandS.DictComp
import PySem.Challenge.RW_pinharbor_k46_differences
set_option Elab.async false
set_option linter.all false
set_option maxRecDepth 100000
/-! PH, part A: plain data, the small language, what it means. -/
namespace PH
open L2 PySem PySem.Spec PyProof.Rows

/-- a text by its signs -/
abbrev Cs := List Nat
/-- data without any object that may change -/
inductive PD where
  | non | bl (b : Bool) | int (i : Int) | str (s : Cs) | tup (xs : List PD)
  deriving Inhabited
/-- a value: data, an object of the store by its number, a tuple that holds such, a caught exception (where it and its dict lie, its class by number, its fields) -/
inductive D where
  | p (x : PD) | ref (n : Nat) | mt (xs : List D) | xv (a d c : Nat) (fs : List (String × PD))
  deriving Inhabited

mutual
def PD.beq : PD → PD → Bool
  | .non, .non => true
  | .bl a, .bl b => a == b
  | .int a, .int b => a == b
  | .str a, .str b => a == b
  | .tup a, .tup b => PD.beqs a b
  | _, _ => false
def PD.beqs : List PD → List PD → Bool
  | [], [] => true
  | x :: xs, y :: ys => PD.beq x y && PD.beqs xs ys
  | _, _ => false
end
mutual
theorem PD.beq_iff : ∀ x y : PD, PD.beq x y = true ↔ x = y
  | .non, y => by cases y <;> simp [PD.beq]
  | .bl a, y => by cases y <;> simp [PD.beq]
  | .int a, y => by cases y <;> simp [PD.beq]
  | .str a, y => by cases y <;> simp [PD.beq]
  | .tup a, y => by
    cases y with
    | tup b => simp only [PD.beq, PD.tup.injEq]; exact PD.beqs_iff a b
    | _ => simp [PD.beq]
theorem PD.beqs_iff : ∀ x y : List PD, PD.beqs x y = true ↔ x = y
  | [], y => by cases y <;> simp [PD.beqs]
  | x :: xs, y => by
    cases y with
    | nil => simp [PD.beqs]
    | cons y ys => simp only [PD.beqs, Bool.and_eq_true, List.cons.injEq, PD.beq_iff x y, PD.beqs_iff xs ys]
end
instance : DecidableEq PD := fun x y => decidable_of_iff _ (PD.beq_iff x y)
mutual
def D.beq : D → D → Bool
  | .p a, .p b => PD.beq a b
  | .ref a, .ref b => a == b
  | .mt a, .mt b => D.beqs a b
  | .xv a d c fs, .xv a' d' c' fs' => a == a' && d == d' && c == c' && fs == fs'
  | _, _ => false
def D.beqs : List D → List D → Bool
  | [], [] => true
  | x :: xs, y :: ys => D.beq x y && D.beqs xs ys
  | _, _ => false
end
mutual
theorem D.beq_iff : ∀ x y : D, D.beq x y = true ↔ x = y
  | .p a, y => by cases y <;> simp [D.beq, PD.beq_iff]
  | .ref a, y => by cases y <;> simp [D.beq]
  | .mt a, y => by
    cases y with
    | mt b => simp only [D.beq, D.mt.injEq]; exact D.beqs_iff a b
    | _ => simp [D.beq]
  | .xv a d c fs, y => by cases y <;> simp [D.beq, and_assoc]
theorem D.beqs_iff : ∀ x y : List D, D.beqs x y = true ↔ x = y
  | [], y => by cases y <;> simp [D.beqs]
  | x :: xs, y => by
    cases y with
    | nil => simp [D.beqs]
    | cons y ys => simp only [D.beqs, Bool.and_eq_true, List.cons.injEq, D.beq_iff x y, D.beqs_iff xs ys]
end
instance : DecidableEq D := fun x y => decidable_of_iff _ (D.beq_iff x y)
/-- an object of the store: a list of data, of values; a list that is never written; a dict of ints and texts; an instance of a class, with its fields; a dict whose keys are tuples; a dict that is written no more (t: its keys are tuples) -/
inductive O where
  | pl (xs : List PD) | ml (xs : List D) | fz (xs : List PD) | dc (kvs : List (PD × D)) | ob (c : String) (fs : List (String × D)) | dt (kvs : List (PD × D)) | df (t : Bool) (kvs : List (PD × D))
  deriving DecidableEq
abbrev Sto := List O
/-- the names' values by slot -/
abbrev Nv := List (Option D)

/-! ### outcomes -/
/-- an exception: its class by number, its fields -/
structure Ex where
  c : Nat
  fs : List (String × D)
inductive Res (α : Type) where
  | ok (a : α) (S : Sto) | exc (x : Ex) (S : Sto) | stuck
def Res.bind {α β : Type} (r : Res α) (f : α → Sto → Res β) : Res β := match r with
  | .ok a S => f a S
  | .exc x S => .exc x S
  | .stuck => .stuck
/-- a statement's outcome -/
inductive Out where
  | nx (ρ : Nv) (S : Sto) | rt (d : D) (S : Sto) | bk (ρ : Nv) (S : Sto) | ct (ρ : Nv) (S : Sto) | exc (x : Ex) (ρ : Nv) (S : Sto) | stuck

/-! ### data as the library's data -/
def mkS (c : Cs) : Str := ⟨c.toArray⟩
mutual
def PD.py : PD → PyData
  | .non => .none
  | .bl b => .bool b
  | .int i => .int i
  | .str s => .str (mkS s)
  | .tup xs => .tuple (PD.pys xs)
def PD.pys : List PD → List PyData
  | [] => []
  | x :: xs => PD.py x :: PD.pys xs
end
/-- Python's == -/
def PD.eqv (x y : PD) : Bool := PyData.eqv x.py y.py
/-- Python's < where the two are alike -/
def PD.lt (x y : PD) : Bool := PySem.W.dataLt x.py y.py
def PD.like (x y : PD) : Bool := PySem.W.alike x.py y.py
def PD.dep (x : PD) : Nat := x.py.depth

/-- the list that an object is -/
def O.ds : O → List D
  | .pl xs => xs.map .p
  | .ml xs => xs
  | .fz xs => xs.map .p
  | .dc _ => []
  | .ob _ _ => []
  | .dt _ => []
  | .df _ _ => []
/-- it is a list -/
def O.isL : O → Bool
  | .dc _ => false
  | .ob _ _ => false
  | .dt _ => false
  | .df _ _ => false
  | _ => true
def Sto.lst (S : Sto) (n : Nat) : Option (List D) := match S[n]? with
  | some o => if o.isL then some o.ds else none
  | none => none
def Sto.isD (S : Sto) (n : Nat) : Bool := match S[n]? with
  | some (.dc _) => true
  | some (.dt _) => true
  | some (.df _ _) => true
  | _ => false
def Sto.isO (S : Sto) (n : Nat) : Bool := match S[n]? with
  | some (.ob _ _) => true
  | some (.dt _) => true
  | some (.df true _) => true
  | _ => false
/-- a value as the library's data, through lists at most k deep -/
def toPy (S : Sto) : Nat → D → Option PyData
  | _, .p x => some x.py
  | 0, _ => none
  | k + 1, .ref n => (Sto.lst S n).bind fun xs => (xs.mapM (toPy S k)).map .list
  | k + 1, .mt xs => (xs.mapM (toPy S k)).map .tuple
  | _ + 1, .xv _ _ _ _ => none

/-! ### the language -/
/-- built-in functions -/
inductive Bf where
  | len | int | ord | str | tuple | list | sorted | all | any | sum | max | min | abs
  deriving DecidableEq
/-- methods of built-in types -/
inductive Mt where
  | append | extend | pop | join | split | find | index
  deriving DecidableEq
/-- built-in classes that isinstance asks for -/
inductive Ty where
  | int | bool | str | tuple | list | dict
  deriving DecidableEq
/-- targets -/
inductive Tg where
  | nm (i : Nat) | tp (ts : List Tg)
mutual
inductive E where
  | v (i : Nat) | k (x : PD) | g (i : Nat)
  | tp (es : Es) | ls (es : Es) | d0 | d0t | dead
  | dix (a i : E) | din (neg : Bool) (i a : E) | dg1 (a k : E) | dg2 (a k x : E)
  | bin (op : Operator) (a b : E) | neg (a : E)
  | cmp (op : CmpOp) (a b : E) | chn (o1 o2 : CmpOp) (a b c : E)
  | bo (o : BoolOp) (es : Es) | no (a : E) | ife (c a b : E)
  | ix (a i : E) | slN (a : E) | slL (a lo : E) | slH (a hi : E) | sl (a lo hi : E)
  | call (f : Nat) (es : Es)
  | blt (b : Bf) (es : Es)
  | isi (a : E) (t : Ty) | isT (a : E) (ts : List Ty)
  | mth (m : Mt) (a : E) (es : Es)
  | gd (t : List (Cs × PD)) (n : Nat) (e : E)
  | at (c : String) (e : E) (f : String) | mk (c : String) (fi : Nat) (es : Es) | mcl (c m : String) (fi : Nat) (e : E) (es : Es)
  | fld (i : Nat) (f : String) | isx (i : Nat) (cs : List Nat)
  | dcm (t : Bool) (own : List Nat) (tg : Tg) (it : W) (kx vx : E) | dcmI (t : Bool) (own : List Nat) (tg : Tg) (it : W) (c kx vx : E)
  | lc (own : List Nat) (tg : Tg) (it : W) (elt : E) | lcI (own : List Nat) (tg : Tg) (it : W) (c elt : E)
inductive Es where
  | nil | cons (e : E) (es : Es)
/-- what stands behind in: an expression, range of one or two, range of a length -/
inductive W where
  | of (e : E) | rg1 (a : E) | rgL (a : E) | rg2 (a b : E)
end
mutual
inductive C where
  | ret (e : E) | retN
  | asg (tg : Tg) (e : E) | ex (e : E)
  | sub (a i e : E) | dsu (a i e : E) | ddl (a i : E) | sat (c : String) (a : E) (f : String) (e : E)
  | ite (c : E) (t f : Cz)
  | forr (tg : Tg) (it : W) (body : Cz)
  | whl (c : E) (body : Cz)
  | pas | brk | cnt | dead
  | rse (c : Nat) (fs : List String) (es : Es)
  | unl (ts : List Tg) (e : E)
  | trx (body : Cz) (kn : List Nat) (c : Nat) (i : Nat) (suite : Cz) | try0 (body : Cz) (kn : List Nat) (c : Nat) (suite : Cz)
inductive Cz where
  | nil | cons (c : C) (cs : Cz)
end

/-- the exception that is handled stands in the constants under this number -/
def XC : Nat := 1000000
/-- a class by number is of a class by number: below 1000 the program's own at the end of the line, from 1000 on those above all of them -/
def subX (c c' : Nat) : Bool := decide (c = c') || decide (1000 ≤ c')
/-- what a program around gives: its defs, its constants -/
structure Mo where
  call : Nat → List D → Sto → Res D
  glob : Nat → Option PD

/-! ### operations by values -/
def LINE : Nat := 16777216
def ret1 (x : PD) (S : Sto) : Res D := .ok (.p x) S
/-- a new object -/
def new (o : O) (S : Sto) : Res D := .ok (.ref S.length) (S ++ [o])
/-- a tuple of values -/
def allP : List D → Option (List PD)
  | [] => some []
  | .p x :: xs => (allP xs).map (x :: ·)
  | _ :: _ => none
def mkT (xs : List D) : D := match allP xs with
  | some ys => .p (.tup ys)
  | none => .mt xs
def mkL (xs : List D) : O := match allP xs with
  | some ys => .pl ys
  | none => .ml xs
def truI (d : D) (S : Sto) : Res Bool := match d with
  | .p .non => .ok false S
  | .p (.bl b) => .ok b S
  | .p (.int i) => .ok (i != 0) S
  | .p (.str s) => .ok (!s.isEmpty) S
  | .p (.tup xs) => .ok (!xs.isEmpty) S
  | .mt xs => .ok (!xs.isEmpty) S
  | .xv _ _ _ _ => .stuck
  | .ref n => match Sto.lst S n with
    | some xs => .ok (!xs.isEmpty) S
    | none => .stuck
def binI (op : Operator) (x y : D) (S : Sto) : Res D := match op, x, y with
  | .Add, .p (.int i), .p (.int j) => ret1 (.int (i + j)) S
  | .Sub, .p (.int i), .p (.int j) => ret1 (.int (i - j)) S
  | .Mult, .p (.int i), .p (.int j) => if i.natAbs < 2 ^ 64 ∨ j.natAbs < 2 ^ 64 then ret1 (.int (i * j)) S else .stuck
  | .FloorDiv, .p (.int i), .p (.int j) => if 0 < j ∧ j < 1073741824 then ret1 (.int (i / j)) S else .stuck
  | .Mod, .p (.int i), .p (.int j) => if 0 < j then ret1 (.int (i % j)) S else .stuck
  | .Pow, .p (.int i), .p (.int j) => if 0 ≤ j ∧ j ≤ 1000000 ∧ i.natAbs < 2 ^ 64 then ret1 (.int (i ^ j.toNat)) S else .stuck
  | .Add, .p (.str a), .p (.str b) => if a.length + b.length ≤ LINE then ret1 (.str (a ++ b)) S else .stuck
  | .Add, .p (.tup a), .p (.tup b) => if a.length + b.length ≤ LINE then ret1 (.tup (a ++ b)) S else .stuck
  | .Add, .ref m, .ref n => match S[m]?, S[n]? with
    | some (.pl a), some (.pl b) => if a.length + b.length ≤ LINE then new (.pl (a ++ b)) S else .stuck
    | some (.pl a), some (.ml b) => if a.length + b.length ≤ LINE then new (.ml (a.map .p ++ b)) S else .stuck
    | some (.ml a), some (.pl b) => if a.length + b.length ≤ LINE then new (.ml (a ++ b.map .p)) S else .stuck
    | some (.ml a), some (.ml b) => if a.length + b.length ≤ LINE then new (.ml (a ++ b)) S else .stuck
    | _, _ => .stuck
  | .Add, .mt a, .mt b => if a.length + b.length ≤ LINE then .ok (.mt (a ++ b)) S else .stuck
  | .Add, .p (.tup a), .mt b => if a.length + b.length ≤ LINE then .ok (.mt (a.map .p ++ b)) S else .stuck
  | .Add, .mt a, .p (.tup b) => if a.length + b.length ≤ LINE then .ok (.mt (a ++ b.map .p)) S else .stuck
  | .Mult, .ref n, .p (.int k) => match S[n]? with
    | some (.pl a) => if 0 ≤ k ∧ k < 2 ^ 62 ∧ a.length * k.toNat ≤ LINE then new (.pl (List.replicate k.toNat a).flatten) S else .stuck
    | _ => .stuck
  | _, _, _ => .stuck
def negI (x : D) (S : Sto) : Res D := match x with
  | .p (.int i) => ret1 (.int (-i)) S
  | _ => .stuck
/-- == -/
def eqI (x y : D) (S : Sto) : Option Bool := match toPy S 8 x, toPy S 8 y with
  | some a, some b => if a.depth ≤ 64 ∨ b.depth ≤ 64 then some (PyData.eqv a b) else none
  | _, _ => none
def ltP (x y : PD) : Option Bool := if PD.like x y = true ∧ x ≠ .non ∧ x.dep ≤ 64 then some (PD.lt x y) else none
def gtP (x y : PD) : Option Bool := if PD.like x y = true ∧ x ≠ .non ∧ x.dep ≤ 64 then some (PD.lt y x) else none
def isStrP : PD → Bool
  | .str _ => true
  | _ => false
/-- in -/
def inI (x y : D) (S : Sto) : Option Bool := match x, y with
  | .p (.str [c]), .p (.str z) => some (decide (c ∈ z))
  | .p x, .p (.tup ys) => if x.dep ≤ 64 then some (ys.any fun y => PD.eqv y x) else none
  | .p x, .ref n => match S[n]? with
    | some (.pl ys) => if x.dep ≤ 64 then some (ys.any fun y => PD.eqv y x) else none
    | _ => none
  | .ref n, .p (.tup ys) => match S[n]? with
    | some (.dc _) => if ys.all isStrP then some false else none
    | _ => match toPy S 8 (.ref n) with
      | some a => if a.depth ≤ 64 then some ((PD.pys ys).any fun z => PyData.eqv z a) else none
      | none => none
  | _, _ => none
def isI (x y : D) : Option Bool := match y, x with
  | .p .non, .p .non => some true
  | .p .non, _ => some false
  | .p (.bl b), .p (.bl c) => some (decide (c = b))
  | _, _ => none
def lift (o : Option Bool) (S : Sto) : Res D := match o with
  | some b => ret1 (.bl b) S
  | none => .stuck
def cmpI (op : CmpOp) (x y : D) (S : Sto) : Res D := match op with
  | .Eq => lift (eqI x y S) S
  | .NotEq => lift ((eqI x y S).map (!·)) S
  | .In => lift (inI x y S) S
  | .NotIn => lift ((inI x y S).map (!·)) S
  | .Is => lift (isI x y) S
  | .IsNot => lift ((isI x y).map (!·)) S
  | .Lt => match x, y with
    | .p x, .p y => lift (ltP x y) S
    | _, _ => .stuck
  | .Gt => match x, y with
    | .p (.int i), .p (.int j) => ret1 (.bl (decide (j < i))) S
    | .p x, .p y => lift (gtP x y) S
    | _, _ => .stuck
  | .LtE => match x, y with
    | .p (.int i), .p (.int j) => ret1 (.bl (decide (i ≤ j))) S
    | _, _ => .stuck
  | .GtE => match x, y with
    | .p (.int i), .p (.int j) => ret1 (.bl (decide (j ≤ i))) S
    | _, _ => .stuck
/-- a[i] -/
def ixI (x i : D) (S : Sto) : Res D := match x, i with
  | .p (.str s), .p (.int i) => match atI s i with
    | some c => ret1 (.str [c]) S
    | none => .stuck
  | .p (.tup xs), .p (.int i) => match atI xs i with
    | some c => ret1 c S
    | none => .stuck
  | .mt xs, .p (.int i) => match atI xs i with
    | some c => .ok c S
    | none => .stuck
  | .ref n, .p (.int i) => match Sto.lst S n with
    | some xs => match atI xs i with
      | some c => .ok c S
      | none => .stuck
    | none => .stuck
  | _, _ => .stuck
/-- the part from lo to hi -/
def cut {α : Type} (xs : List α) (lo hi : Option Int) : List α := (xs.drop (HT.sIx xs.length 0 lo)).take (HT.sIx xs.length xs.length hi - HT.sIx xs.length 0 lo)
def slI (x : D) (lo hi : Option Int) (S : Sto) : Res D := match x with
  | .p (.str s) => ret1 (.str (cut s lo hi)) S
  | .p (.tup xs) => ret1 (.tup (cut xs lo hi)) S
  | .ref n => match S[n]? with
    | some (.pl xs) => new (.pl (cut xs lo hi)) S
    | some (.fz xs) => new (.pl (cut xs lo hi)) S
    | some (.ml xs) => new (.ml (cut xs lo hi)) S
    | _ => .stuck
  | _ => .stuck
def asInt (d : D) (S : Sto) (f : Int → Res D) : Res D := match d with
  | .p (.int i) => f i
  | _ => .stuck
/-- the signs of a number -/
def numS (i : Int) : Cs := (toString i).toList.map Char.toNat
def boolsOf : List PD → Option (List Bool)
  | [] => some []
  | .bl b :: xs => (boolsOf xs).map (b :: ·)
  | _ :: _ => none
def intsOf : List PD → Option (List Int)
  | [] => some []
  | .int b :: xs => (intsOf xs).map (b :: ·)
  | _ :: _ => none
def strsOf : List PD → Option (List Cs)
  | [] => some []
  | .str b :: xs => (strsOf xs).map (b :: ·)
  | _ :: _ => none
/-- the data that a list or tuple of data holds -/
def dataOf (d : D) (S : Sto) : Option (List PD) := match d with
  | .p (.tup xs) => some xs
  | .ref n => match S[n]? with
    | some (.pl xs) => some xs
    | some (.fz xs) => some xs
    | _ => none
  | _ => none
/-- the order of sorted -/
def PD.le (x y : PD) : Bool := !PD.lt y x
def isTup1 : PD → Bool
  | .tup (_ :: _) => true
  | _ => false
def isFlat : PD → Bool
  | .tup _ => false
  | .non => false
  | _ => true
def srtI (xs : List PD) : Option (List PD) :=
  if (∀ x ∈ xs, ∀ y ∈ xs, PD.like x y = true) ∧ ((∀ x ∈ xs, isTup1 x = true) ∨ ∀ x ∈ xs, isFlat x = true) ∧ ∀ x ∈ xs, x.dep ≤ 64 then some (xs.mergeSort PD.le) else none
/-- a dict's keys; the dict as it is when it is written no more -/
def O.frzD : O → Option (List PD × O)
  | .dc kvs => some (kvs.map (·.1), .df false kvs)
  | .dt kvs => some (kvs.map (·.1), .df true kvs)
  | .df t kvs => some (kvs.map (·.1), .df t kvs)
  | _ => none
def keysD (d : D) (S : Sto) : Option (List PD) := match d with
  | .ref n => match S[n]? with
    | some o => (O.frzD o).map (·.1)
    | none => none
  | _ => none
abbrev joinS (s : Cs) (ys : List Cs) : Cs := TL.joinL s ys
def bltI (b : Bf) (ds : List D) (S : Sto) : Res D := match b, ds with
  | .len, [.p (.str s)] => ret1 (.int s.length) S
  | .len, [.p (.tup xs)] => ret1 (.int xs.length) S
  | .len, [.mt xs] => ret1 (.int xs.length) S
  | .len, [.ref n] => match Sto.lst S n with
    | some xs => ret1 (.int xs.length) S
    | none => match keysD (.ref n) S with
      | some ks => ret1 (.int ks.length) S
      | none => .stuck
  | .int, [.p (.int i)] => ret1 (.int i) S
  | .int, [.p (.bl b)] => ret1 (.int (if b then 1 else 0)) S
  | .ord, [.p (.str [c])] => ret1 (.int c) S
  | .str, [.p (.int i)] => if i.natAbs.log2 < 1920 then ret1 (.str (numS i)) S else .stuck
  | .tuple, [d] => match dataOf d S with
    | some xs => ret1 (.tup xs) S
    | none => .stuck
  | .list, [d] => match dataOf d S with
    | some xs => new (.pl xs) S
    | none => match keysD d S with
      | some ks => new (.pl ks) S
      | none => .stuck
  | .sorted, [d] => match dataOf d S with
    | some xs => match srtI xs with
      | some ys => new (.pl ys) S
      | none => .stuck
    | none => match keysD d S with
      | some ks => match srtI ks with
        | some ys => new (.pl ys) S
        | none => .stuck
      | none => .stuck
  | .all, [.ref n] => match S[n]? with
    | some (.pl xs) => match boolsOf xs with
      | some bs => ret1 (.bl (bs.all id)) S
      | none => .stuck
    | _ => .stuck
  | .any, [.ref n] => match S[n]? with
    | some (.pl xs) => match boolsOf xs with
      | some bs => ret1 (.bl (bs.any id)) S
      | none => .stuck
    | _ => .stuck
  | .sum, [.ref n] => match S[n]? with
    | some (.pl xs) => match intsOf xs with
      | some bs => ret1 (.int bs.sum) S
      | none => .stuck
    | _ => .stuck
  | .max, [.p (.int i), .p (.int j)] => ret1 (.int (if j > i then j else i)) S
  | .min, [.p (.int i), .p (.int j)] => ret1 (.int (if j < i then j else i)) S
  | .max, [d] => match dataOf d S with
    | some xs => (match intsOf xs with
      | some (i :: r) => ret1 (.int (r.foldl max i)) S
      | _ => .stuck)
    | none => .stuck
  | .min, [d] => match dataOf d S with
    | some xs => (match intsOf xs with
      | some (i :: r) => ret1 (.int (r.foldl min i)) S
      | _ => .stuck)
    | none => .stuck
  | .abs, [.p (.int i)] => ret1 (.int (if i < 0 then -i else i)) S
  | _, _ => .stuck
/-- y put behind a list's items -/
def O.push : O → D → Option O
  | .pl xs, .p y => some (.pl (xs ++ [y]))
  | .pl xs, y => some (.ml (xs.map .p ++ [y]))
  | .ml xs, y => some (.ml (xs ++ [y]))
  | .fz _, _ => none
  | .dc _, _ => none
  | .ob _ _, _ => none
  | .dt _, _ => none
  | .df _ _, _ => none
def mthI (m : Mt) (x : D) (ds : List D) (S : Sto) : Res D := match m, x, ds with
  | .append, .ref n, [y] => match S[n]? with
    | some o => if o.ds.length < LINE then (match o.push y with
        | some o' => ret1 .non (S.set n o')
        | none => .stuck) else .stuck
    | none => .stuck
  | .extend, .ref n, [.ref k] => match S[n]?, S[k]? with
    | some (.pl xs), some (.pl ys) => if xs.length + ys.length ≤ LINE then ret1 .non (S.set n (.pl (xs ++ ys))) else .stuck
    | _, _ => .stuck
  | .extend, .ref n, [.p (.tup ys)] => match S[n]? with
    | some (.pl xs) => if xs.length + ys.length ≤ LINE then ret1 .non (S.set n (.pl (xs ++ ys))) else .stuck
    | _ => .stuck
  | .pop, .ref n, [] => match S[n]? with
    | some (.pl xs) => match xs.getLast? with
      | some y => .ok (.p y) (S.set n (.pl xs.dropLast))
      | none => .stuck
    | some (.ml xs) => match xs.getLast? with
      | some y => .ok y (S.set n (.ml xs.dropLast))
      | none => .stuck
    | _ => .stuck
  | .join, .p (.str s), [d] => match (dataOf d S).bind strsOf with
    | some ys => if (ys.map (·.length)).sum + ys.length * s.length ≤ LINE then ret1 (.str (joinS s ys)) S else .stuck
    | none => .stuck
  | .find, .p (.str s), [.p (.str t)] => ret1 (.int (Txt.find (mkS s) (mkS t))) S
  | .index, .p (.str s), [.p (.str t)] => (match Builtin.Str.occurrences (mkS s) (mkS t) 0 s.length 1 with
    | i :: _ => ret1 (.int (i : Nat)) S
    | [] => .stuck)
  | .split, .p (.str s), [.p (.str t)] => if t ≠ [] ∧ t.all (· < 256) = true ∧ s.length + 2 ≤ LINE then new (.pl ((TL.spl t 0 [] s).map .str)) S else .stuck
  | _, _, _ => .stuck
/-- the receiver is of the method's own type -/
def Mt.ofL : Mt → Bool
  | .append | .extend | .pop => true
  | _ => false
def recv (m : Mt) (x : D) (S : Sto) : Bool := match x with
  | .ref n => m.ofL && (Sto.lst S n).isSome
  | .p (.str _) => !m.ofL
  | _ => false
def isTy (d : D) (S : Sto) : Ty → Bool := fun t => match d, t with
  | .p (.int _), .int => true
  | .p (.bl _), .int => true
  | .p (.bl _), .bool => true
  | .p (.str _), .str => true
  | .p (.tup _), .tuple => true
  | .mt _, .tuple => true
  | .ref n, .list => (Sto.lst S n).isSome
  | .ref n, .dict => Sto.isD S n
  | _, _ => false
def known (d : D) (S : Sto) : Bool := match d with
  | .ref n => (S[n]?).isSome && !Sto.isO S n
  | .xv _ _ _ _ => false
  | _ => true
/-! ### dicts -/
mutual
/-- data as a key -/
def nk : PD → NestedKey
  | .non => .none
  | .bl b => .num (if b then 1 else 0)
  | .int i => .num i
  | .str s => .text (mkS s)
  | .tup xs => .tup (nks xs)
def nks : List PD → List NestedKey
  | [] => []
  | x :: xs => nk x :: nks xs
end
/-- a key that is a tuple; one that is a number or a text -/
def isTK : PD → Bool
  | .tup xs => decide ((nk (.tup xs)).depth ≤ 8)
  | _ => false
def isSK : PD → Bool
  | .int _ => true
  | .str _ => true
  | _ => false
def kget (kvs : List (PD × D)) (k : PD) : Option D := (kvs.find? fun p => decide (nk p.1 = nk k)).map (·.2)
def kput (kvs : List (PD × D)) (k : PD) (v : D) : List (PD × D) := if (kget kvs k).isSome then kvs.map (fun p => if nk p.1 = nk k then (p.1, v) else p) else kvs ++ [(k, v)]
def kdrop (kvs : List (PD × D)) (k : PD) : List (PD × D) := kvs.filter fun p => decide (nk p.1 ≠ nk k)
/-- what a dict has for a key; none: no dict, no such key can be in it -/
def dGet (x i : D) (S : Sto) : Option (Option D) := match x, i with
  | .ref n, .p k => match S[n]? with
    | some (.dc kvs) => if isSK k then some (kget kvs k) else none
    | some (.dt kvs) => if isTK k then some (kget kvs k) else none
    | some (.df t kvs) => if (if t then isTK k else isSK k) then some (kget kvs k) else none
    | _ => none
  | _, _ => none
def dIx (x i : D) (S : Sto) : Res D := match dGet x i S with
  | some (some d) => .ok d S
  | _ => .stuck
def dIn (neg : Bool) (i x : D) (S : Sto) : Res D := match dGet x i S with
  | some o => ret1 (.bl (o.isSome != neg)) S
  | none => .stuck
def dGet2 (x i z : D) (S : Sto) : Res D := match dGet x i S with
  | some o => .ok (o.getD z) S
  | none => .stuck
/-- d[k] = v -/
def dPut (x i v : D) (S : Sto) : Option Sto := match x, i with
  | .ref n, .p k => match S[n]? with
    | some (.dc kvs) => if isSK k = true ∧ kvs.length < LINE then some (S.set n (.dc (kput kvs k v))) else none
    | some (.dt kvs) => if isTK k = true ∧ kvs.length < LINE then some (S.set n (.dt (kput kvs k v))) else none
    | _ => none
  | _, _ => none
/-- del d[k] -/
def dDel (x i : D) (S : Sto) : Option Sto := match x, i with
  | .ref n, .p k => match S[n]? with
    | some (.dc kvs) => if isSK k = true ∧ (kget kvs k).isSome = true then some (S.set n (.dc (kdrop kvs k))) else none
    | some (.dt kvs) => if isTK k = true ∧ (kget kvs k).isSome = true then some (S.set n (.dt (kdrop kvs k))) else none
    | _ => none
  | _, _ => none
/-! ### instances -/
/-- a field put -/
def putS (f : String) (d : D) : List (String × D) → List (String × D)
  | [] => [(f, d)]
  | (g, x) :: r => if g = f then (g, d) :: r else (g, x) :: putS f d r
/-- o.f -/
def fldO (c f : String) (x : D) (S : Sto) : Res D := match x with
  | .ref n => match S[n]? with
    | some (.ob c' fs) => if c' = c then (match fs.lookup f with
      | some d => .ok d S
      | none => .stuck) else .stuck
    | _ => .stuck
  | _ => .stuck
/-- an instance of the class, without such a field -/
def isOb (c m : String) (x : D) (S : Sto) : Bool := match x with
  | .ref n => match S[n]? with
    | some (.ob c' fs) => decide (c' = c) && (fs.lookup m).isNone
    | _ => false
  | _ => false
/-- C(..): the new instance; what its __init__ leaves -/
def mkO (c : String) (call : List D → Sto → Res D) (ds : List D) (S : Sto) : Res D := (call (.ref S.length :: ds) (S ++ [.ob c []])).bind fun d S' => match d with
  | .p .non => .ok (.ref S.length) S'
  | _ => .stuck
/-- o.f = v -/
def setO (c f : String) (x v : D) (S : Sto) : Option Sto := match x with
  | .ref n => match S[n]? with
    | some (.ob c' fs) => if c' = c ∧ fs.length < 1000 then some (S.set n (.ob c (putS f v fs))) else none
    | _ => none
  | _ => none
/-- the receiver is a dict -/
def recvD (x : D) (S : Sto) : Bool := match x with
  | .ref n => Sto.isD S n
  | _ => false
/-- o[i] = v -/
def subI (x i v : D) (S : Sto) : Option Sto := match x, i with
  | .ref n, .p (.int i) => match S[n]?, v with
    | some (.pl xs), .p y => (ixN xs.length i).map fun j => S.set n (.pl (xs.set j y))
    | some (.ml xs), v => (ixN xs.length i).map fun j => S.set n (.ml (xs.set j v))
    | _, _ => none
  | _, _ => none

/-! ### targets, walks -/
mutual
def asgT : Tg → D → Nv → Option Nv
  | .nm i, d, ρ => some (ρ.set i (some d))
  | .tp ts, .p (.tup xs), ρ => asgTs ts (xs.map .p) ρ
  | .tp ts, .mt xs, ρ => asgTs ts xs ρ
  | .tp _, _, _ => none
def asgTs : List Tg → List D → Nv → Option Nv
  | [], [], ρ => some ρ
  | t :: ts, d :: ds, ρ => (asgT t d ρ).bind (asgTs ts ds)
  | _, _, _ => none
end
/-- what a for walks: the items; for a list its number, that it stand still -/
structure Wk where
  ds : List D
  src : Option (Nat × O)
/-- the list walked stands as it stood -/
def Wk.still (w : Wk) (S : Sto) : Bool := match w.src with
  | some (n, o) => decide (S[n]? = some o)
  | none => true
def wkOf (d : D) (S : Sto) : Res Wk := match d with
  | .p (.str s) => .ok ⟨s.map fun c => .p (.str [c]), none⟩ S
  | .p (.tup xs) => .ok ⟨xs.map .p, none⟩ S
  | .mt xs => .ok ⟨xs, none⟩ S
  | .ref n => match S[n]? with
    | some o => if o.isL then .ok ⟨o.ds, some (n, o)⟩ S else match o.frzD with
      | some (ks, o') => .ok ⟨ks.map .p, none⟩ (S.set n o')
      | none => .stuck
    | none => .stuck
  | _ => .stuck
/-- n whole numbers from a by c -/
def rgS (a c : Int) (n : Nat) : List D := (List.range n).map fun (k : Nat) => D.p (.int (a + (k : Int) * c))
def small (i : Int) : Bool := decide (-(2 ^ 62) ≤ i) && decide (i < 2 ^ 62)
def wipeN (ρ : Nv) : List Nat → Nv
  | [] => ρ
  | v :: vs => (wipeN ρ vs).set v none

def forI (w : Wk) (tg : Tg) (body : Nv → Sto → Out) : List D → Nv → Sto → Out
  | [], ρ, S => if w.still S then .nx ρ S else .stuck
  | d :: ds, ρ, S => if w.still S then (match asgT tg d ρ with
    | none => .stuck
    | some ρ1 => match body ρ1 S with
      | .nx ρ2 S2 => forI w tg body ds ρ2 S2
      | .ct ρ2 S2 => forI w tg body ds ρ2 S2
      | .bk ρ2 S2 => .nx ρ2 S2
      | r => r) else .stuck
/-- at most n turns of a while; none: not through -/
def whlN (c : Nv → Sto → Res Bool) (body : Nv → Sto → Out) : Nat → Nv → Sto → Option Out
  | 0, _, _ => none
  | n + 1, ρ, S => match c ρ S with
    | .stuck => some .stuck
    | .exc x S1 => some (.exc x ρ S1)
    | .ok false S1 => some (.nx ρ S1)
    | .ok true S1 => match body ρ S1 with
      | .nx ρ2 S2 => whlN c body n ρ2 S2
      | .ct ρ2 S2 => whlN c body n ρ2 S2
      | .bk ρ2 S2 => some (.nx ρ2 S2)
      | r => some r
open Classical in
noncomputable def whlI (c : Nv → Sto → Res Bool) (body : Nv → Sto → Out) (ρ : Nv) (S : Sto) : Out :=
  if h : ∃ r n, whlN c body n ρ S = some r then h.choose else .stuck
/-- a comprehension's turns; o: the new list (number n) as it stands -/
def lcI (w : Wk) (tg : Tg) (c : Nv → Sto → Res Bool) (elt : Nv → Sto → Res D) (ρ : Nv) (n : Nat) : O → List D → Sto → Res D
  | o, [], S => if w.still S then .ok (.ref n) S else .stuck
  | o, d :: ds, S => if w.still S then (match asgT tg d ρ with
    | none => .stuck
    | some ρ1 => match c ρ1 S with
      | .ok false S1 => if S1[n]? = some o then lcI w tg c elt ρ n o ds S1 else .stuck
      | .ok true S1 => match elt ρ1 S1 with
        | .ok y S2 => if S2[n]? = some o then (match o.push y with
          | some o' => lcI w tg c elt ρ n o' ds (S2.set n o')
          | none => .stuck) else .stuck
        | _ => .stuck
      | _ => .stuck) else .stuck

/-- a dict comprehension's turns; n: the new dict's number -/
def dcI (w : Wk) (tg : Tg) (c : Nv → Sto → Res Bool) (kx vx : Nv → Sto → Res D) (ρ : Nv) (n : Nat) : List D → Sto → Res D
  | [], S => if w.still S then .ok (.ref n) S else .stuck
  | d :: ds, S => if w.still S then (match asgT tg d ρ with
    | none => .stuck
    | some ρ1 => match c ρ1 S with
      | .ok false S1 => dcI w tg c kx vx ρ n ds S1
      | .ok true S1 => match kx ρ1 S1 with
        | .ok k S2 => match vx ρ1 S2 with
          | .ok v S3 => match dPut (.ref n) k v S3 with
            | some S4 => dcI w tg c kx vx ρ n ds S4
            | none => .stuck
          | _ => .stuck
        | _ => .stuck
      | _ => .stuck) else .stuck
/-- a new dict -/
def newD (t : Bool) : O := if t then .dt [] else .dc []

/-! ### what the language means -/
section
variable (M : Mo)
mutual
def evE : E → Nv → Sto → Res D
  | .v i, ρ, S => match ρ[i]? with
    | some (some d) => .ok d S
    | _ => .stuck
  | .k x, _, S => ret1 x S
  | .g i, _, S => match M.glob i with
    | some x => ret1 x S
    | none => .stuck
  | .tp es, ρ, S => (evEs es ρ S).bind fun ds S => .ok (mkT ds) S
  | .ls es, ρ, S => (evEs es ρ S).bind fun ds S => new (mkL ds) S
  | .d0, _, S => new (.dc []) S
  | .d0t, _, S => new (.dt []) S
  | .dix a i, ρ, S => (evE a ρ S).bind fun x S => (evE i ρ S).bind fun y S => dIx x y S
  | .din neg i a, ρ, S => (evE i ρ S).bind fun y S => (evE a ρ S).bind fun x S => dIn neg y x S
  | .dg1 a k, ρ, S => (evE a ρ S).bind fun x S => if recvD x S then (evE k ρ S).bind fun y S => dGet2 x y (.p .non) S else .stuck
  | .dg2 a k z, ρ, S => (evE a ρ S).bind fun x S => if recvD x S then (evE k ρ S).bind fun y S => (evE z ρ S).bind fun z S => dGet2 x y z S else .stuck
  | .dead, _, _ => .stuck
  | .bin op a b, ρ, S => (evE a ρ S).bind fun x S => (evE b ρ S).bind fun y S => binI op x y S
  | .neg a, ρ, S => (evE a ρ S).bind negI
  | .cmp op a b, ρ, S => (evE a ρ S).bind fun x S => (evE b ρ S).bind fun y S => cmpI op x y S
  | .chn o1 o2 a b c, ρ, S => (evE a ρ S).bind fun x S => (evE b ρ S).bind fun y S => (cmpI o1 x y S).bind fun t S => (truI t S).bind fun k S =>
    if k then (evE c ρ S).bind fun z S => cmpI o2 y z S else ret1 (.bl false) S
  | .bo o es, ρ, S => evB o es ρ S
  | .no a, ρ, S => (evE a ρ S).bind fun x S => (truI x S).bind fun k S => ret1 (.bl (!k)) S
  | .ife c a b, ρ, S => (evE c ρ S).bind fun x S => (truI x S).bind fun k S => if k then evE a ρ S else evE b ρ S
  | .ix a i, ρ, S => (evE a ρ S).bind fun x S => (evE i ρ S).bind fun y S => ixI x y S
  | .slN a, ρ, S => (evE a ρ S).bind fun x S => slI x none none S
  | .slL a lo, ρ, S => (evE a ρ S).bind fun x S => (evE lo ρ S).bind fun l S => asInt l S fun i => slI x (some i) none S
  | .slH a hi, ρ, S => (evE a ρ S).bind fun x S => (evE hi ρ S).bind fun l S => asInt l S fun i => slI x none (some i) S
  | .sl a lo hi, ρ, S => (evE a ρ S).bind fun x S => (evE lo ρ S).bind fun l S => asInt l S fun i => (evE hi ρ S).bind fun l S => asInt l S fun j => slI x (some i) (some j) S
  | .call f es, ρ, S => (evEs es ρ S).bind fun ds S => M.call f ds S
  | .blt b es, ρ, S => (evEs es ρ S).bind fun ds S => bltI b ds S
  | .isi a t, ρ, S => (evE a ρ S).bind fun x S => if known x S then ret1 (.bl (isTy x S t)) S else .stuck
  | .isT a ts, ρ, S => (evE a ρ S).bind fun x S => if known x S then ret1 (.bl (ts.any (isTy x S))) S else .stuck
  | .mth m a es, ρ, S => (evE a ρ S).bind fun x S => if recv m x S then (evEs es ρ S).bind fun ds S => mthI m x ds S else .stuck
  | .gd t _ e, ρ, S => (evE e ρ S).bind fun d S => match d with
    | .p (.str z) => (match t.lookup z with
      | some x => ret1 x S
      | none => .stuck)
    | _ => .stuck
  | .at c e f, ρ, S => (evE e ρ S).bind fun x S => fldO c f x S
  | .mk c fi es, ρ, S => (evEs es ρ S).bind fun ds S => mkO c (M.call fi) ds S
  | .mcl c m fi e es, ρ, S => (evE e ρ S).bind fun x S => if isOb c m x S then (evEs es ρ S).bind fun ds S => M.call fi (x :: ds) S else .stuck
  | .fld i f, ρ, S => match ρ[i]?, M.glob XC with
    | some (some (.xv a d c fs)), some (.tup [.int a', .int d', .int c']) => if a' = a ∧ d' = d ∧ c' = c then (match fs.lookup f with
        | some y => ret1 y S
        | none => .stuck) else .stuck
    | _, _ => .stuck
  | .isx i cs, ρ, S => match ρ[i]?, M.glob XC with
    | some (some (.xv a d c _)), some (.tup [.int a', .int d', .int c']) => if a' = a ∧ d' = d ∧ c' = c then ret1 (.bl (cs.any (subX c))) S else .stuck
    | _, _ => .stuck
  | .dcm t own tg it kx vx, ρ, S => (evW it ρ S).bind fun w S => dcI w tg (fun _ S => .ok true S) (evE kx) (evE vx) (wipeN ρ own) S.length w.ds (S ++ [newD t])
  | .dcmI t own tg it c kx vx, ρ, S => (evW it ρ S).bind fun w S => dcI w tg (fun ρ S => (evE c ρ S).bind truI) (evE kx) (evE vx) (wipeN ρ own) S.length w.ds (S ++ [newD t])
  | .lc own tg it elt, ρ, S => (evW it ρ S).bind fun w S => if w.ds.length ≤ LINE then
      lcI w tg (fun _ S => .ok true S) (evE elt) (wipeN ρ own) S.length (.pl []) w.ds (S ++ [.pl []]) else .stuck
  | .lcI own tg it c elt, ρ, S => (evW it ρ S).bind fun w S => if w.ds.length ≤ LINE then
      lcI w tg (fun ρ S => (evE c ρ S).bind truI) (evE elt) (wipeN ρ own) S.length (.pl []) w.ds (S ++ [.pl []]) else .stuck
def evEs : Es → Nv → Sto → Res (List D)
  | .nil, _, S => .ok [] S
  | .cons e es, ρ, S => (evE e ρ S).bind fun d S => (evEs es ρ S).bind fun ds S => .ok (d :: ds) S
def evB : BoolOp → Es → Nv → Sto → Res D
  | _, .nil, _, _ => .stuck
  | _, .cons e .nil, ρ, S => evE e ρ S
  | o, .cons e es, ρ, S => (evE e ρ S).bind fun d S => (truI d S).bind fun k S => match o, k with
    | .And, true => evB o es ρ S
    | .Or, false => evB o es ρ S
    | _, _ => .ok d S
/-- what an expression behind in stands for -/
def evW : W → Nv → Sto → Res Wk
  | .rg1 a, ρ, S => (evE a ρ S).bind fun x S => match x with
    | .p (.int n) => if small n then .ok ⟨rgS 0 1 n.toNat, none⟩ S else .stuck
    | _ => .stuck
  | .rgL a, ρ, S => (evE a ρ S).bind fun x S => (bltI .len [x] S).bind fun n S => match n with
    | .p (.int n) => .ok ⟨rgS 0 1 n.toNat, none⟩ S
    | _ => .stuck
  | .rg2 a b, ρ, S => (evE a ρ S).bind fun x S => (evE b ρ S).bind fun y S => match x, y with
    | .p (.int i), .p (.int j) => if small i && small j then .ok ⟨rgS i 1 (j - i).toNat, none⟩ S else .stuck
    | _, _ => .stuck
  | .of e, ρ, S => (evE e ρ S).bind wkOf
end
/-- an expression as a test -/
def evT (e : E) (ρ : Nv) (S : Sto) : Res Bool := (evE M e ρ S).bind truI
/-- an expression's outcome within a statement -/
def Res.out {α : Type} (r : Res α) (ρ : Nv) (f : α → Sto → Out) : Out := match r with
  | .ok a S => f a S
  | .exc x S => .exc x ρ S
  | .stuck => .stuck
/-- what follows a statement -/
def Out.seq (r : Out) (f : Nv → Sto → Out) : Out := match r with
  | .nx ρ S => f ρ S
  | r => r
end
/-- a list's items -/
def lsts (d : D) (S : Sto) : Option (List D) := match d with
  | .ref n => Sto.lst S n
  | _ => none
/-- while exception (at a, dict at d, class c) is handled -/
def Mo.at (M : Mo) (a d c : Nat) : Mo := ⟨M.call, fun i => if i = XC then some (.tup [.int a, .int d, .int c]) else M.glob i⟩
/-- the name is gone behind an except suite -/
def Out.gone (i : Nat) : Out → Out
  | .nx ρ S => .nx (ρ.set i none) S
  | .bk ρ S => .bk (ρ.set i none) S
  | .ct ρ S => .ct (ρ.set i none) S
  | .exc _ _ _ => .stuck
  | r => r
def Out.noX : Out → Out
  | .exc _ _ _ => .stuck
  | r => r
/-- fields that are data -/
def allX : List (String × D) → Option (List (String × PD))
  | [] => some []
  | (f, .p x) :: r => (allX r).map ((f, x) :: ·)
  | _ :: _ => none
open Classical in
/-- what a suite does wherever the exception lies -/
noncomputable def anyAt (F : Nat → Nat → Out) : Out := if h : ∃ r, ∀ a d, F a d = r then h.choose else .stuck
/-- try .. except as a name in slot i, and without one; kn: the classes that can come -/
noncomputable def trxF (kn : List Nat) (c i : Nat) (F : Nv → Sto → Out) (G : Nat → Nat → Nat → Nv → Sto → Out) (ρ : Nv) (S : Sto) : Out := match F ρ S with
  | .exc x ρ1 S1 => if x.c ∈ kn then (if subX x.c c then (match allX x.fs with
      | some fs => anyAt fun a d => (G a d x.c (ρ1.set i (some (.xv a d x.c fs))) S1).gone i
      | none => .stuck) else .exc x ρ1 S1) else .stuck
  | r => r
noncomputable def try0F (kn : List Nat) (c : Nat) (F : Nv → Sto → Out) (G : Nat → Nat → Nat → Nv → Sto → Out) (ρ : Nv) (S : Sto) : Out := match F ρ S with
  | .exc x ρ1 S1 => if x.c ∈ kn then (if subX x.c c then anyAt (fun a d => (G a d x.c ρ1 S1).noX) else .exc x ρ1 S1) else .stuck
  | r => r
mutual
noncomputable def evC (M : Mo) : C → Nv → Sto → Out
  | .ret e, ρ, S => (evE M e ρ S).out ρ .rt
  | .retN, _, S => .rt (.p .non) S
  | .asg tg e, ρ, S => (evE M e ρ S).out ρ fun d S => match asgT tg d ρ with
    | some ρ' => .nx ρ' S
    | none => .stuck
  | .ex e, ρ, S => (evE M e ρ S).out ρ fun _ S => .nx ρ S
  | .sub a i e, ρ, S => (evE M e ρ S).out ρ fun y S => (evE M a ρ S).out ρ fun x S => (evE M i ρ S).out ρ fun k S => match subI x k y S with
    | some S' => .nx ρ S'
    | none => .stuck
  | .dsu a i e, ρ, S => (evE M e ρ S).out ρ fun y S => (evE M a ρ S).out ρ fun x S => (evE M i ρ S).out ρ fun k S => match dPut x k y S with
    | some S' => .nx ρ S'
    | none => .stuck
  | .ddl a i, ρ, S => (evE M a ρ S).out ρ fun x S => (evE M i ρ S).out ρ fun k S => match dDel x k S with
    | some S' => .nx ρ S'
    | none => .stuck
  | .sat c a f e, ρ, S => (evE M e ρ S).out ρ fun y S => (evE M a ρ S).out ρ fun x S => match setO c f x y S with
    | some S' => .nx ρ S'
    | none => .stuck
  | .ite c t f, ρ, S => (evT M c ρ S).out ρ fun k S => if k then evCz M t ρ S else evCz M f ρ S
  | .forr tg it body, ρ, S => (evW M it ρ S).out ρ fun w S => forI w tg (evCz M body) w.ds ρ S
  | .whl c body, ρ, S => whlI (evT M c) (evCz M body) ρ S
  | .pas, ρ, S => .nx ρ S
  | .brk, ρ, S => .bk ρ S
  | .cnt, ρ, S => .ct ρ S
  | .dead, _, _ => .stuck
  | .unl ts e, ρ, S => (evE M e ρ S).out ρ fun d S => match lsts d S with
    | some xs => (match asgTs ts xs ρ with
      | some ρ' => .nx ρ' S
      | none => .stuck)
    | none => .stuck
  | .rse c fs es, ρ, S => (evEs M es ρ S).out ρ fun ds S => if ds.length = fs.length then .exc ⟨c, fs.zip ds⟩ ρ S else .stuck
  | .trx body kn c i suite, ρ, S => trxF kn c i (evCz M body) (fun a d c => evCz (M.at a d c) suite) ρ S
  | .try0 body kn c suite, ρ, S => try0F kn c (evCz M body) (fun a d c => evCz (M.at a d c) suite) ρ S
noncomputable def evCz (M : Mo) : Cz → Nv → Sto → Out
  | .nil, ρ, S => .nx ρ S
  | .cons c cs, ρ, S => (evC M c ρ S).seq (evCz M cs)
end

/-! ### a def's call -/
mutual
/-- no object from n on is in it -/
def D.bel (n : Nat) : D → Bool
  | .p _ => true
  | .ref k => decide (k < n)
  | .mt xs => D.bels n xs
  | .xv _ _ _ _ => true
def D.bels (n : Nat) : List D → Bool
  | [] => true
  | x :: xs => D.bel n x && D.bels n xs
end
def O.bel (n : Nat) : O → Bool
  | .ml xs => D.bels n xs
  | .dc kvs => D.bels n (kvs.map (·.2))
  | .ob _ fs => D.bels n (fs.map (·.2))
  | .dt kvs => D.bels n (kvs.map (·.2))
  | .df _ kvs => D.bels n (kvs.map (·.2))
  | _ => true
/-- what was made within a call and is not handed on is forgotten; a new list of data, a new dict of values from without become the next object -/
def tidy (S S' : Sto) (d : D) : Res D :=
  if S'.take S.length = S ∨ (S'.take S.length).all (O.bel S.length) = true then match d with
    | .p x => .ok (.p x) (S'.take S.length)
    | .ref j => if j < S.length then .ok (.ref j) (S'.take S.length) else match S'[j]? with
      | some (.pl xs) => .ok (.ref (S'.take S.length).length) (S'.take S.length ++ [.pl xs])
      | some o => if (o.frzD.isSome && o.bel S.length) = true then .ok (.ref (S'.take S.length).length) (S'.take S.length ++ [o]) else .ok (.ref j) S'
      | none => .ok (.ref j) S'
    | d => .ok d S'
  else .ok d S'
def tidyX (S S' : Sto) (x : Ex) : Res D :=
  if (S'.take S.length = S ∨ (S'.take S.length).all (O.bel S.length) = true) ∧ x.fs.all (fun p => D.bel S.length p.2) = true then .exc x (S'.take S.length) else .exc x S'
/-- a def: parameters, slots, body -/
structure Df where
  np : Nat
  n : Nat
  body : Cz
noncomputable def runB (M : Mo) (df : Df) (ds : List D) (S : Sto) : Res D := match evCz M df.body (ds.map some ++ List.replicate (df.n - df.np) none) S with
  | .nx _ S' => tidy S S' (.p .non)
  | .rt d S' => tidy S S' d
  | .exc x _ S' => tidyX S S' x
  | _ => .stuck
noncomputable def callI (G : Nat → Option Df) (gl : Nat → Option PD) : Nat → Nat → List D → Sto → Res D
  | 0, _, _, _ => .stuck
  | k + 1, f, ds, S => match G f with
    | some df => if ds.length = df.np then runB ⟨callI G gl k, gl⟩ df ds S else .stuck
    | none => .stuck
end PH

/-! PH, part B: how data, values, objects lie in the abstract heap; what is wanted behind an expression. -/
namespace PH
open L2 PySem PySem.Spec PyProof.Rows
/-- the written part and the world -/
structure Fg where
  fr : PySem.W.Frag
  wd : World
abbrev _root_.L2.Cx.F (X : Cx) : Fg := ⟨X.K, X.w⟩

theorem line_eq : sizeLine = LINE := sizeLine_eq
def okS (s : Cs) : Prop := s.length ≤ LINE ∧ ∀ c ∈ s, c < 1114112
theorem tl_mkS (s : Cs) : (mkS s).cps.toList = s := rfl
theorem len_mkS (s : Cs) : (mkS s).length = s.length := by simp [mkS, Str.length]
theorem mkS_inj {s t : Cs} (h : mkS s = mkS t) : s = t := by
  have := congrArg (fun x : Str => x.cps.toList) h
  simpa [mkS] using this
theorem mkS_of (x : Str) : mkS x.cps.toList = x := by cases x; simp [mkS]

/-! ### data, values -/
mutual
inductive RelP (K : Fg) (H : Hp) : PD → V → Prop
  | non : RelP K H .non .non
  | bl (b : Bool) : RelP K H (.bl b) (.bl b)
  | int (i : Int) : RelP K H (.int i) (.int i)
  | str (s : Cs) (h : okS s) : RelP K H (.str s) (.str (mkS s))
  | tup {a : Addr} {xs : List PD} {vs : List V} (h : SqT K.fr H a vs) (r : RelPs K H xs vs) : RelP K H (.tup xs) (.ref a)
inductive RelPs (K : Fg) (H : Hp) : List PD → List V → Prop
  | nil : RelPs K H [] []
  | cons {x : PD} {xs : List PD} {v : V} {vs : List V} (h : RelP K H x v) (r : RelPs K H xs vs) : RelPs K H (x :: xs) (v :: vs)
end
mutual
inductive RelD (K : Fg) (H : Hp) (m : List Addr) : D → V → Prop
  | p {x : PD} {v : V} (h : RelP K H x v) : RelD K H m (.p x) v
  | ref {n : Nat} {a : Addr} (h : m[n]? = some a) : RelD K H m (.ref n) (.ref a)
  | mt {a : Addr} {xs : List D} {vs : List V} (h : SqT K.fr H a vs) (r : RelDs K H m xs vs) : RelD K H m (.mt xs) (.ref a)
  | xv {a d c : Nat} {fs : List (String × PD)} {vs : List (Str × V)} (h : H d = some (.xd vs)) (r : ∀ f y, fs.lookup f = some y → ∃ v, vs.lookup (Str.ofString f) = some v ∧ RelP K H y v) : RelD K H m (.xv a d c fs) (.ref a)
inductive RelDs (K : Fg) (H : Hp) (m : List Addr) : List D → List V → Prop
  | nil : RelDs K H m [] []
  | cons {x : D} {xs : List D} {v : V} {vs : List V} (h : RelD K H m x v) (r : RelDs K H m xs vs) : RelDs K H m (x :: xs) (v :: vs)
end
/-- what is read as a tuple stays -/
def Kp (K : Fg) (H H' : Hp) : Prop := (∀ a vs, SqT K.fr H a vs → SqT K.fr H' a vs) ∧ (∀ a fs, H a = some (.xd fs) → H' a = some (.xd fs)) ∧ ∀ a o u, H a = some (.frz o u) → H' a = some (.frz o u)
theorem Kp.refl {K : Fg} {H : Hp} : Kp K H H := ⟨fun _ _ h => h, fun _ _ h => h, fun _ _ _ h => h⟩
theorem Kp.trans {K : Fg} {H H1 H2 : Hp} (a : Kp K H H1) (b : Kp K H1 H2) : Kp K H H2 := ⟨fun c vs h => b.1 c vs (a.1 c vs h), fun c vs h => b.2.1 c vs (a.2.1 c vs h), fun c o u h => b.2.2 c o u (a.2.2 c o u h)⟩
section
variable {K : Fg} {H H' : Hp} {m m' : List Addr}
mutual
theorem RelP.mono (k : Kp K H H') : ∀ {x : PD} {v : V}, RelP K H x v → RelP K H' x v
  | _, _, .non => .non
  | _, _, .bl b => .bl b
  | _, _, .int i => .int i
  | _, _, .str s h => .str s h
  | _, _, .tup h r => .tup (k.1 _ _ h) (RelPs.mono k r)
theorem RelPs.mono (k : Kp K H H') : ∀ {xs : List PD} {vs : List V}, RelPs K H xs vs → RelPs K H' xs vs
  | _, _, .nil => .nil
  | _, _, .cons h r => .cons (RelP.mono k h) (RelPs.mono k r)
end
theorem pre_get {α : Type} {m t : List α} {n : Nat} {a : α} (h : m[n]? = some a) : (m ++ t)[n]? = some a := by
  rw [List.getElem?_append_left (List.getElem?_eq_some_iff.mp h).1]; exact h
mutual
theorem RelD.mono (k : Kp K H H') (t : List Addr) : ∀ {x : D} {v : V}, RelD K H m x v → RelD K H' (m ++ t) x v
  | _, _, .p h => .p (h.mono k)
  | _, _, .ref h => .ref (pre_get h)
  | _, _, .mt h r => .mt (k.1 _ _ h) (RelDs.mono k t r)
  | _, _, .xv h r => .xv (k.2.1 _ _ h) fun f y e => let ⟨v, e1, q⟩ := r f y e; ⟨v, e1, q.mono k⟩
theorem RelDs.mono (k : Kp K H H') (t : List Addr) : ∀ {xs : List D} {vs : List V}, RelDs K H m xs vs → RelDs K H' (m ++ t) xs vs
  | _, _, .nil => .nil
  | _, _, .cons h r => .cons (RelD.mono k t h) (RelDs.mono k t r)
end
/-- the heap and the numbers have grown -/
structure Ext (K : Fg) (H : Hp) (m : List Addr) (H' : Hp) (m' : List Addr) : Prop where
  kp : Kp K H H'
  pre : ∃ t, m' = m ++ t
theorem Ext.refl : Ext K H m H m := ⟨.refl, [], by simp⟩
theorem Ext.trans {H1 H2 : Hp} {m1 m2 : List Addr} (a : Ext K H m H1 m1) (b : Ext K H1 m1 H2 m2) : Ext K H m H2 m2 := by
  obtain ⟨t, rfl⟩ := a.pre
  obtain ⟨u, rfl⟩ := b.pre
  exact ⟨a.kp.trans b.kp, t ++ u, by simp⟩
theorem RelD.ext (e : Ext K H m H' m') {x : D} {v : V} (h : RelD K H m x v) : RelD K H' m' x v := by
  obtain ⟨t, rfl⟩ := e.pre
  exact h.mono e.kp t
theorem RelDs.ext (e : Ext K H m H' m') {x : List D} {v : List V} (h : RelDs K H m x v) : RelDs K H' m' x v := by
  obtain ⟨t, rfl⟩ := e.pre
  exact h.mono e.kp t
theorem RelPs.length : ∀ {xs : List PD} {vs : List V}, RelPs K H xs vs → xs.length = vs.length
  | _, _, .nil => rfl
  | _, _, .cons _ r => by rw [List.length_cons, List.length_cons, RelPs.length r]
theorem RelDs.length : ∀ {xs : List D} {vs : List V}, RelDs K H m xs vs → xs.length = vs.length
  | _, _, .nil => rfl
  | _, _, .cons _ r => by rw [List.length_cons, List.length_cons, RelDs.length r]
theorem RelPs.get : ∀ {xs : List PD} {vs : List V} {i : Nat} {x : PD}, RelPs K H xs vs → xs[i]? = some x → ∃ v, vs[i]? = some v ∧ RelP K H x v
  | _, _, _, _, .nil, e => by simp at e
  | _, _, 0, _, .cons h _, e => by simp at e; subst e; exact ⟨_, rfl, h⟩
  | _, _, i + 1, x, .cons _ r, e => by
    obtain ⟨v, h1, h2⟩ := RelPs.get (i := i) (x := x) r (by simpa using e)
    exact ⟨v, by simpa using h1, h2⟩
theorem RelDs.get : ∀ {xs : List D} {vs : List V} {i : Nat} {x : D}, RelDs K H m xs vs → xs[i]? = some x → ∃ v, vs[i]? = some v ∧ RelD K H m x v
  | _, _, _, _, .nil, e => by simp at e
  | _, _, 0, _, .cons h _, e => by simp at e; subst e; exact ⟨_, rfl, h⟩
  | _, _, i + 1, x, .cons _ r, e => by
    obtain ⟨v, h1, h2⟩ := RelDs.get (i := i) (x := x) r (by simpa using e)
    exact ⟨v, by simpa using h1, h2⟩
theorem RelPs.getV : ∀ {xs : List PD} {vs : List V} {i : Nat} {v : V}, RelPs K H xs vs → vs[i]? = some v → ∃ x, xs[i]? = some x ∧ RelP K H x v
  | _, _, _, _, .nil, e => by simp at e
  | _, _, 0, _, .cons h _, e => by simp at e; subst e; exact ⟨_, rfl, h⟩
  | _, _, i + 1, v, .cons _ r, e => by
    obtain ⟨x, h1, h2⟩ := RelPs.getV (i := i) (v := v) r (by simpa using e)
    exact ⟨x, by simpa using h1, h2⟩
theorem RelDs.getV : ∀ {xs : List D} {vs : List V} {i : Nat} {v : V}, RelDs K H m xs vs → vs[i]? = some v → ∃ x, xs[i]? = some x ∧ RelD K H m x v
  | _, _, _, _, .nil, e => by simp at e
  | _, _, 0, _, .cons h _, e => by simp at e; subst e; exact ⟨_, rfl, h⟩
  | _, _, i + 1, v, .cons _ r, e => by
    obtain ⟨x, h1, h2⟩ := RelDs.getV (i := i) (v := v) r (by simpa using e)
    exact ⟨x, by simpa using h1, h2⟩
theorem RelPs.append : ∀ {xs ys : List PD} {vs ws : List V}, RelPs K H xs vs → RelPs K H ys ws → RelPs K H (xs ++ ys) (vs ++ ws)
  | _, _, _, _, .nil, s => s
  | _, _, _, _, .cons h r, s => .cons h (RelPs.append r s)
theorem RelDs.append : ∀ {xs ys : List D} {vs ws : List V}, RelDs K H m xs vs → RelDs K H m ys ws → RelDs K H m (xs ++ ys) (vs ++ ws)
  | _, _, _, _, .nil, s => s
  | _, _, _, _, .cons h r, s => .cons h (RelDs.append r s)
theorem RelPs.take : ∀ {xs : List PD} {vs : List V} (n : Nat), RelPs K H xs vs → RelPs K H (xs.take n) (vs.take n)
  | _, _, 0, _ => by simp; exact .nil
  | _, _, _ + 1, .nil => by simp; exact .nil
  | _, _, n + 1, .cons h r => .cons h (RelPs.take n r)
theorem RelPs.drop : ∀ {xs : List PD} {vs : List V} (n : Nat), RelPs K H xs vs → RelPs K H (xs.drop n) (vs.drop n)
  | _, _, 0, r => r
  | _, _, _ + 1, .nil => by simp; exact .nil
  | _, _, n + 1, .cons _ r => RelPs.drop n r
theorem RelDs.take : ∀ {xs : List D} {vs : List V} (n : Nat), RelDs K H m xs vs → RelDs K H m (xs.take n) (vs.take n)
  | _, _, 0, _ => by simp; exact .nil
  | _, _, _ + 1, .nil => by simp; exact .nil
  | _, _, n + 1, .cons h r => .cons h (RelDs.take n r)
theorem RelDs.drop : ∀ {xs : List D} {vs : List V} (n : Nat), RelDs K H m xs vs → RelDs K H m (xs.drop n) (vs.drop n)
  | _, _, 0, r => r
  | _, _, _ + 1, .nil => by simp; exact .nil
  | _, _, n + 1, .cons _ r => RelDs.drop n r
theorem RelPs.set {x : PD} {v : V} (h : RelP K H x v) : ∀ {xs : List PD} {vs : List V} (i : Nat), RelPs K H xs vs → RelPs K H (xs.set i x) (vs.set i v)
  | _, _, _, .nil => .nil
  | _, _, 0, .cons _ r => .cons h r
  | _, _, i + 1, .cons q r => .cons q (RelPs.set h i r)
theorem RelDs.set {x : D} {v : V} (h : RelD K H m x v) : ∀ {xs : List D} {vs : List V} (i : Nat), RelDs K H m xs vs → RelDs K H m (xs.set i x) (vs.set i v)
  | _, _, _, .nil => .nil
  | _, _, 0, .cons _ r => .cons h r
  | _, _, i + 1, .cons q r => .cons q (RelDs.set h i r)
theorem RelPs.up : ∀ {xs : List PD} {vs : List V}, RelPs K H xs vs → RelDs K H m (xs.map .p) vs
  | _, _, .nil => .nil
  | _, _, .cons h r => .cons (.p h) (RelPs.up r)
theorem RelDs.down : ∀ {xs : List D} {ys : List PD} {vs : List V}, RelDs K H m xs vs → allP xs = some ys → RelPs K H ys vs
  | [], _, _, .nil, e => by simp only [allP, Option.some.injEq] at e; subst e; exact .nil
  | .p x :: xs, ys, _, .cons h r, e => by
    cases q : allP xs with
    | none => simp [allP, q] at e
    | some zs =>
      simp only [allP, q, Option.map_some, Option.some.injEq] at e
      subst e
      cases h with
      | p h => exact .cons h (RelDs.down r q)
  | .ref _ :: _, _, _, .cons _ _, e => by simp [allP] at e
  | .mt _ :: _, _, _, .cons _ _, e => by simp [allP] at e
theorem RelDs.dropLast : ∀ {xs : List D} {vs : List V}, RelDs K H m xs vs → RelDs K H m xs.dropLast vs.dropLast := fun {xs vs} r => by
  rw [List.dropLast_eq_take, List.dropLast_eq_take, r.length]; exact r.take _
theorem RelPs.dropLast : ∀ {xs : List PD} {vs : List V}, RelPs K H xs vs → RelPs K H xs.dropLast vs.dropLast := fun {xs vs} r => by
  rw [List.dropLast_eq_take, List.dropLast_eq_take, r.length]; exact r.take _
end

/-! ### objects -/
/-- a list that is never written: known to the object, or of the module's own -/
def FzL (K : Fg) (H : Hp) (a : Addr) (vs : List V) : Prop :=
  (∃ o, H a = some (.frz o (.lst vs))) ∨ ∃ (o : Obj) (its : Array Value) (n : Nat), K.fr.lookup a = some o ∧ o.cls = .type "list" ∧ o.dict = none ∧ o.data = .seq its n ∧ its.size ≤ sizeLine ∧ Vals vs its.toList
theorem FzL.seq {K : Fg} {H : Hp} {a : Addr} {vs : List V} (h : FzL K H a vs) : SqL K.fr H a vs := by
  rcases h with ⟨o, h⟩ | h
  · exact .inl (.inr ⟨o, h⟩)
  · exact .inr h
def keyP : PD → Option L2.Key
  | .int i => some (.inl i)
  | .str s => some (.inr (mkS s))
  | _ => none
inductive RelKs (K : Fg) (H : Hp) (m : List Addr) : List (PD × D) → List (L2.Key × V) → Prop
  | nil : RelKs K H m [] []
  | cons {k : PD} {q : L2.Key} {d : D} {v : V} {kvs : List (PD × D)} {us : List (L2.Key × V)} (hk : keyP k = some q) (rp : RelP K H k (kV q)) (h : RelD K H m d v) (r : RelKs K H m kvs us) : RelKs K H m ((k, d) :: kvs) ((q, v) :: us)
theorem RelKs.mono {K : Fg} {H H' : Hp} {m : List Addr} (k : Kp K H H') (t : List Addr) : ∀ {kvs : List (PD × D)} {us : List (L2.Key × V)}, RelKs K H m kvs us → RelKs K H' (m ++ t) kvs us
  | _, _, .nil => .nil
  | _, _, .cons hk rp h r => .cons hk (rp.mono k) (h.mono k t) (RelKs.mono k t r)
/-- a dict with tuple keys: its keys, where they lie, its values -/
abbrev Ent3 := List (NestedKey × Addr × Value)
/-- what is in the object's own record -/
def recT (w : World) (o : Obj) (xs : Ent3) : Prop := o.ExactDict ∧ ∃ es ep, o.data = .dict es ep ∧ es.toList = xs.map (fun x => (⟨x.1.hash w, .ref x.2.1, x.2.2⟩ : DictEntry)) ∧ (xs.map (·.1)).Nodup
/-- the dict, by its record -/
def dtO (w : World) (a : Addr) (xs : Ent3) : HO := .ext fun h => ∃ o, h.get? a = some o ∧ recT w o xs
inductive RelTs (K : Fg) (H : Hp) (m : List Addr) : List (PD × D) → Ent3 → Prop
  | nil : RelTs K H m [] []
  | cons {k : PD} {d : D} {b : Addr} {v : V} {u : Value} {kvs : List (PD × D)} {xs : Ent3} (hk : RelP K H k (.ref b)) (ok : isTK k = true) (rv : RelV v u) (h : RelD K H m d v) (r : RelTs K H m kvs xs) : RelTs K H m ((k, d) :: kvs) ((nk k, b, u) :: xs)
theorem RelTs.mono {K : Fg} {H H' : Hp} {m : List Addr} (k : Kp K H H') (t : List Addr) : ∀ {kvs : List (PD × D)} {xs : Ent3}, RelTs K H m kvs xs → RelTs K H' (m ++ t) kvs xs
  | _, _, .nil => .nil
  | _, _, .cons hk ok rv h r => .cons (hk.mono k) ok rv (h.mono k t) (RelTs.mono k t r)
theorem RelTs.length {K : Fg} {H : Hp} {m : List Addr} : ∀ {kvs : List (PD × D)} {xs : Ent3}, RelTs K H m kvs xs → kvs.length = xs.length
  | _, _, .nil => rfl
  | _, _, .cons _ _ _ _ r => by rw [List.length_cons, List.length_cons, r.length]
/-- fields, side by side -/
inductive RelFs (K : Fg) (H : Hp) (m : List Addr) : List (String × D) → List (Str × V) → Prop
  | nil : RelFs K H m [] []
  | cons {f : String} {d : D} {v : V} {fs : List (String × D)} {vs : List (Str × V)} (h : RelD K H m d v) (r : RelFs K H m fs vs) : RelFs K H m ((f, d) :: fs) ((Str.ofString f, v) :: vs)
theorem ofS_inj {a b : String} (h : Str.ofString a = Str.ofString b) : a = b := by
  rw [Str.ofString_eq_toList, Str.ofString_eq_toList] at h
  have h1 : a.toList.map Char.toNat = b.toList.map Char.toNat := by simpa using congrArg (fun x : Str => x.cps.toList) h
  have h2 : a.toList = b.toList := (List.map_inj_right fun x y e => Char.toNat_inj.mp e).mp h1
  exact String.toList_inj.mp h2
section
variable {K : Fg} {H H' : Hp} {m : List Addr}
theorem RelFs.mono (k : Kp K H H') (t : List Addr) : ∀ {fs : List (String × D)} {vs : List (Str × V)}, RelFs K H m fs vs → RelFs K H' (m ++ t) fs vs
  | _, _, .nil => .nil
  | _, _, .cons h r => .cons (h.mono k t) (RelFs.mono k t r)
theorem RelFs.length : ∀ {fs : List (String × D)} {vs : List (Str × V)}, RelFs K H m fs vs → fs.length = vs.length
  | _, _, .nil => rfl
  | _, _, .cons _ r => by rw [List.length_cons, List.length_cons, r.length]
theorem RelFs.hit : ∀ {fs : List (String × D)} {vs : List (Str × V)} {f : String} {d : D}, RelFs K H m fs vs → fs.lookup f = some d → ∃ v, vs.lookup (Str.ofString f) = some v ∧ RelD K H m d v
  | _, _, _, _, .nil, e => by cases e
  | _, _, f, d, .cons (f := g) h r, e => by
    by_cases q : f = g
    · subst q
      simp only [List.lookup_cons, beq_self_eq_true, Option.some.injEq] at e ⊢
      subst e; exact ⟨_, rfl, h⟩
    · have q1 : (f == g) = false := beq_eq_false_iff_ne.mpr q
      have q2 : (Str.ofString f == Str.ofString g) = false := beq_eq_false_iff_ne.mpr fun z => q (ofS_inj z)
      simp only [List.lookup_cons, q1, q2] at e ⊢
      exact RelFs.hit r e
theorem RelFs.mis : ∀ {fs : List (String × D)} {vs : List (Str × V)} {f : String}, RelFs K H m fs vs → fs.lookup f = none → vs.lookup (Str.ofString f) = none
  | _, _, _, .nil, e => rfl
  | _, _, f, .cons (f := g) h r, e => by
    by_cases q : f = g
    · subst q
      simp only [List.lookup_cons, beq_self_eq_true, reduceCtorEq] at e
    · have q1 : (f == g) = false := beq_eq_false_iff_ne.mpr q
      have q2 : (Str.ofString f == Str.ofString g) = false := beq_eq_false_iff_ne.mpr fun z => q (ofS_inj z)
      simp only [List.lookup_cons, q1, q2] at e ⊢
      exact RelFs.mis r e
theorem RelFs.put {f : String} {d : D} {v : V} (h : RelD K H m d v) : ∀ {fs : List (String × D)} {vs : List (Str × V)}, RelFs K H m fs vs → RelFs K H m (putS f d fs) (putF (Str.ofString f) v vs)
  | _, _, .nil => .cons h .nil
  | _, _, .cons (f := g) q r => by
    unfold putS putF
    by_cases z : g = f
    · subst z
      simp only [if_true]
      exact .cons h r
    · rw [if_neg z, if_neg fun e => z (ofS_inj e)]
      exact .cons q (RelFs.put h r)
end
/-- where the class of a name lies -/
def ClsAt (K : PySem.W.Frag) (C : Addr) (c : String) : Prop := PySem.W.nsIn K mainGlobals (Str.ofString c) = some (some (.ref C))
theorem ClsAt.one {K : PySem.W.Frag} {C C' : Addr} {c : String} (h : ClsAt K C c) (h' : ClsAt K C' c) : C = C' := by
  have := h.symm.trans h'
  simpa using this
inductive RelO (K : Fg) (H : Hp) (m : List Addr) (a : Addr) : O → Prop
  | pl {xs : List PD} {vs : List V} (h : H a = some (.lst vs)) (r : RelPs K H xs vs) : RelO K H m a (.pl xs)
  | ml {xs : List D} {vs : List V} (h : H a = some (.lst vs)) (r : RelDs K H m xs vs) : RelO K H m a (.ml xs)
  | fz {xs : List PD} {vs : List V} (h : FzL K H a vs) (r : RelPs K H xs vs) : RelO K H m a (.fz xs)
  | dc {kvs : List (PD × D)} {us : List (L2.Key × V)} (h : H a = some (.dK us)) (r : RelKs K H m kvs us) : RelO K H m a (.dc kvs)
  | ob {c : String} {fs : List (String × D)} {C dx : Addr} {vs : List (Str × V)} (h : H a = some (.ins C dx vs)) (cl : ClsAt K.fr C c) (r : RelFs K H m fs vs) : RelO K H m a (.ob c fs)
  | dt {kvs : List (PD × D)} {xs : Ent3} (h : H a = some (dtO K.wd a xs)) (nd : (a == sysModules) = false) (z : kvs.length ≤ sizeLine) (r : RelTs K H m kvs xs) : RelO K H m a (.dt kvs)
  | dfk {kvs : List (PD × D)} {us : List (L2.Key × V)} {o : Obj} (h : H a = some (.frz o (.dK us))) (r : RelKs K H m kvs us) : RelO K H m a (.df false kvs)
  | dft {kvs : List (PD × D)} {xs : Ent3} {o : Obj} (h : H a = some (.frz o (dtO K.wd a xs))) (nd : (a == sysModules) = false) (z : kvs.length ≤ sizeLine) (r : RelTs K H m kvs xs) : RelO K H m a (.df true kvs)
def O.mut : O → Bool
  | .fz _ => false
  | .df _ _ => false
  | _ => true
structure RelS (K : Fg) (H : Hp) (m : List Addr) (S : Sto) : Prop where
  len : m.length = S.length
  ob : ∀ (n : Nat) (o : O), S[n]? = some o → ∃ a, m[n]? = some a ∧ RelO K H m a o
  inj : ∀ (i j : Nat) (a : Addr) (o u : O), m[i]? = some a → m[j]? = some a → S[i]? = some o → S[j]? = some u → o.mut = true → u.mut = true → i = j
section
variable {K : Fg} {H H' : Hp} {m m' : List Addr} {S S' : Sto} {a p : Addr}
theorem RelO.lst {o : O} (h : RelO K H m a o) (hl : o.isL = true) : ∃ vs, SqL K.fr H a vs ∧ RelDs K H m o.ds vs := by
  cases h with
  | pl h r => exact ⟨_, SqL.of h, r.up⟩
  | ml h r => exact ⟨_, SqL.of h, r⟩
  | fz h r => exact ⟨_, h.seq, r.up⟩
  | dc h r => cases hl
  | ob h cl r => cases hl
  | dt h nd z r => cases hl
  | dfk h r => cases hl
  | dft h nd z r => cases hl
theorem RelO.mutH {o : O} (h : RelO K H m a o) (q : o.mut = true) : ∃ vs, H a = some vs := by
  cases h with
  | pl h r => exact ⟨_, h⟩
  | ml h r => exact ⟨_, h⟩
  | fz h r => cases q
  | dc h r => exact ⟨_, h⟩
  | ob h cl r => exact ⟨_, h⟩
  | dt h nd z r => exact ⟨_, h⟩
  | dfk h r => cases q
  | dft h nd z r => cases q
theorem RelS.lst (R : RelS K H m S) {n : Nat} {xs : List D} (h : Sto.lst S n = some xs) : ∃ a vs, m[n]? = some a ∧ SqL K.fr H a vs ∧ RelDs K H m xs vs := by
  unfold Sto.lst at h
  cases e : S[n]? with
  | none => rw [e] at h; cases h
  | some o =>
  rw [e] at h
  dsimp only at h
  split at h <;> cases h
  rename_i hl
  obtain ⟨a, ea, r⟩ := R.ob n o e
  obtain ⟨vs, h1, h2⟩ := r.lst hl
  exact ⟨a, vs, ea, h1, h2⟩
/-- what may be written over: nothing that values are read from -/
def Wr (H : Hp) (p : Addr) : Prop := H p = none ∨ Mut (H p)
/-- what a change of the heap at one place leaves -/
theorem wr_no {p : Addr} (h : Wr H p) : (∀ xs, H p ≠ some (.tup xs)) ∧ (∀ o u, H p ≠ some (.frz o u)) ∧ ∀ fs, H p ≠ some (.xd fs) := by
  refine ⟨fun xs q => ?_, fun o u q => ?_, fun fs q => ?_⟩ <;> rcases h with h | h <;> rw [q] at h <;> first | (cases h; done) | exact h
theorem kp_updW {o : HO} (h : Wr H p) : Kp K H (upd H p o) := by
  obtain ⟨h1, h2, h3⟩ := wr_no h
  refine ⟨fun b vs q => ?_, fun b fs q => ?_, fun b o u q => by
    have hb : b ≠ p := fun z => h2 o u (by rw [← z]; exact q)
    rw [upd_ne hb]; exact q⟩
  · rcases q with q | q
    · refine .inl ?_
      have hb : b ≠ p := by
        rintro rfl
        rcases q with q | ⟨u, q⟩
        · exact h1 _ q
        · exact h2 _ _ q
      rcases q with q | ⟨u, q⟩
      · exact .inl (by rw [upd_ne hb]; exact q)
      · exact .inr ⟨u, by rw [upd_ne hb]; exact q⟩
    · exact .inr q
  · rw [upd_ne]
    · exact q
    · rintro rfl
      exact h3 _ q
theorem kp_upd {o : HO} (h : H p = none ∨ ∃ xs, H p = some (.lst xs)) : Kp K H (upd H p o) := kp_updW (h.imp id fun ⟨xs, e⟩ => by rw [e]; trivial)
theorem fz_updW {o : HO} {vs : List V} (h : Wr H p) (q : FzL K H a vs) : FzL K (upd H p o) a vs := by
  rcases q with ⟨u, q⟩ | q
  · refine .inl ⟨u, ?_⟩
    rw [upd_ne]
    · exact q
    · rintro rfl
      exact (wr_no h).2.1 _ _ q
  · exact .inr q
theorem fz_upd {o : HO} {vs : List V} (h : H p = none ∨ ∃ xs, H p = some (.lst xs)) (q : FzL K H a vs) : FzL K (upd H p o) a vs := fz_updW (h.imp id fun ⟨xs, e⟩ => by rw [e]; trivial) q
/-- a new object -/
theorem RelS.new (R : RelS K H m S) (hp : H p = none) {u : HO} {o : O} (h : RelO K (upd H p u) (m ++ [p]) p o) (hu : o.mut = true) : RelS K (upd H p u) (m ++ [p]) (S ++ [o]) := by
  have kp : Kp K H (upd H p u) := kp_upd (.inl hp)
  have old : ∀ n q, S[n]? = some q → ∃ a, (m ++ [p])[n]? = some a ∧ RelO K (upd H p u) (m ++ [p]) a q := fun n q e => by
    obtain ⟨a, ea, r⟩ := R.ob n q e
    refine ⟨a, pre_get ea, ?_⟩
    cases r with
    | pl h r => exact .pl (by rw [upd_ne (ne_of_none h hp)]; exact h) (r.mono kp)
    | ml h r => exact .ml (by rw [upd_ne (ne_of_none h hp)]; exact h) (r.mono kp _)
    | fz h r => exact .fz (fz_upd (.inl hp) h) (r.mono kp)
    | dc h r => exact .dc (by rw [upd_ne (ne_of_none h hp)]; exact h) (r.mono kp _)
    | ob h cl r => exact .ob (by rw [upd_ne (ne_of_none h hp)]; exact h) cl (r.mono kp _)
    | dt h nd z r => exact .dt (by rw [upd_ne (ne_of_none h hp)]; exact h) nd z (r.mono kp _)
    | dfk h r => exact .dfk (by rw [upd_ne (ne_of_none h hp)]; exact h) (r.mono kp _)
    | dft h nd z r => exact .dft (by rw [upd_ne (ne_of_none h hp)]; exact h) nd z (r.mono kp _)
  have cs : ∀ {n : Nat} {q : O}, (S ++ [o])[n]? = some q → S[n]? = some q ∨ (n = S.length ∧ q = o) := fun {n q} e => by
    rw [List.getElem?_append] at e
    split at e
    · exact .inl e
    · rename_i hn
      rcases Nat.lt_or_ge S.length n with h1 | h1
      · have : n - S.length ≠ 0 := by omega
        rw [List.getElem?_singleton, if_neg this] at e; cases e
      · have e1 : n = S.length := by omega
        subst e1
        simp at e
        exact .inr ⟨rfl, e.symm⟩
  refine ⟨by simp [R.len], fun n q e => ?_, fun i j a q r hi hj e1 e2 m1 m2 => ?_⟩
  · rcases cs e with e | ⟨rfl, rfl⟩
    · exact old n q e
    · exact ⟨p, by rw [← R.len]; simp, h⟩
  · have nold : ∀ (n : Nat) (q : O), S[n]? = some q → q.mut = true → (m ++ [p])[n]? ≠ some p := fun n q e mq z => by
      obtain ⟨b, eb, rb⟩ := R.ob n q e
      rw [pre_get eb] at z
      cases z
      obtain ⟨vs, hv⟩ := rb.mutH mq
      rw [hp] at hv; cases hv
    have hp' : (m ++ [p])[S.length]? = some p := by rw [← R.len]; simp
    rcases cs e1 with f1 | ⟨g1, g2⟩ <;> rcases cs e2 with f2 | ⟨g3, g4⟩
    · obtain ⟨b, eb, _⟩ := R.ob i q f1
      obtain ⟨c, ec, _⟩ := R.ob j r f2
      have x1 := pre_get (t := [p]) eb
      have x2 := pre_get (t := [p]) ec
      rw [hi] at x1; cases x1
      rw [hj] at x2; cases x2
      exact R.inj i j a q r eb ec f1 f2 m1 m2
    · rw [g3, hp'] at hj; cases hj
      exact absurd hi (nold i q f1 m1)
    · rw [g1, hp'] at hi; cases hi
      exact absurd hj (nold j r f2 m2)
    · rw [g1, g3]
theorem Ext.new (hp : H p = none) {u : HO} : Ext K H m (upd H p u) (m ++ [p]) := ⟨kp_upd (.inl hp), _, rfl⟩
/-- a heap that has one thing more, of which the store knows nothing -/
theorem RelS.more (R : RelS K H m S) (hp : H p = none) {u : HO} : RelS K (upd H p u) m S := by
  have kp : Kp K H (upd H p u) := kp_upd (.inl hp)
  refine ⟨R.len, fun n q e => ?_, R.inj⟩
  obtain ⟨a, ea, r⟩ := R.ob n q e
  refine ⟨a, ea, ?_⟩
  cases r with
  | pl h r => exact .pl (by rw [upd_ne (ne_of_none h hp)]; exact h) (r.mono kp)
  | ml h r => exact .ml (by rw [upd_ne (ne_of_none h hp)]; exact h) (by have := r.mono kp []; simpa using this)
  | fz h r => exact .fz (fz_upd (.inl hp) h) (r.mono kp)
  | dc h r => exact .dc (by rw [upd_ne (ne_of_none h hp)]; exact h) (by have := r.mono kp []; simpa using this)
  | ob h cl r => exact .ob (by rw [upd_ne (ne_of_none h hp)]; exact h) cl (by have := r.mono kp []; simpa using this)
  | dt h nd z r => exact .dt (by rw [upd_ne (ne_of_none h hp)]; exact h) nd z (by have := r.mono kp []; simpa using this)
  | dfk h r => exact .dfk (by rw [upd_ne (ne_of_none h hp)]; exact h) (by have := r.mono kp []; simpa using this)
  | dft h nd z r => exact .dft (by rw [upd_ne (ne_of_none h hp)]; exact h) nd z (by have := r.mono kp []; simpa using this)
theorem Ext.more (hp : H p = none) {u : HO} : Ext K H m (upd H p u) m := ⟨kp_upd (.inl hp), [], by simp⟩
/-- an object written -/
theorem RelS.putF (R : RelS K H m S) {n : Nat} {o o' : O} (hn : S[n]? = some o) (mo : o.mut = true) (ha : m[n]? = some a) (hH : Wr H a) {u : HO} (h : RelO K (upd H a u) m a o') : RelS K (upd H a u) m (S.set n o') := by
  have kp : Kp K H (upd H a u) := kp_updW hH
  have hlt : n < S.length := (List.getElem?_eq_some_iff.mp hn).1
  have cs : ∀ {k : Nat} {q : O}, (S.set n o')[k]? = some q → (k = n ∧ q = o') ∨ (k ≠ n ∧ S[k]? = some q) := fun {k q} e => by
    by_cases hk : k = n
    · subst hk
      rw [List.getElem?_set_self hlt] at e
      exact .inl ⟨rfl, (Option.some.inj e).symm⟩
    · rw [List.getElem?_set_ne (Ne.symm hk)] at e
      exact .inr ⟨hk, e⟩
  refine ⟨by simp [R.len], fun k q e => ?_, fun i j b q r hi hj e1 e2 m1 m2 => ?_⟩
  · rcases cs e with ⟨rfl, rfl⟩ | ⟨hk, e⟩
    · exact ⟨a, ha, h⟩
    · obtain ⟨b, eb, r⟩ := R.ob k q e
      refine ⟨b, eb, ?_⟩
      have nb : q.mut = true → b ≠ a := fun mq z => hk (R.inj k n a q o (z ▸ eb) ha e hn mq mo)
      cases r with
      | pl h r => exact .pl (by rw [upd_ne (nb rfl)]; exact h) (r.mono kp)
      | ml h r => exact .ml (by rw [upd_ne (nb rfl)]; exact h) (by have := r.mono kp []; simpa using this)
      | fz h r => exact .fz (fz_updW hH h) (r.mono kp)
      | dc h r => exact .dc (by rw [upd_ne (nb rfl)]; exact h) (by have := r.mono kp []; simpa using this)
      | ob h cl r => exact .ob (by rw [upd_ne (nb rfl)]; exact h) cl (by have := r.mono kp []; simpa using this)
      | dt h nd z r => exact .dt (by rw [upd_ne (nb rfl)]; exact h) nd z (by have := r.mono kp []; simpa using this)
      | dfk h r => exact .dfk (kp.2.2 _ _ _ h) (by have := r.mono kp []; simpa using this)
      | dft h nd z r => exact .dft (kp.2.2 _ _ _ h) nd z (by have := r.mono kp []; simpa using this)
  · rcases cs e1 with ⟨g1, g2⟩ | ⟨h1, f1⟩ <;> rcases cs e2 with ⟨g3, g4⟩ | ⟨h2, f2⟩
    · rw [g1, g3]
    · exact R.inj i j b o r hi hj (g1 ▸ hn) f2 mo m2
    · exact R.inj i j b q o hi hj f1 (g3 ▸ hn) m1 mo
    · exact R.inj i j b q r hi hj f1 f2 m1 m2
theorem RelS.putW (R : RelS K H m S) {n : Nat} {o o' : O} (hn : S[n]? = some o) (mo : o.mut = true) (ha : m[n]? = some a) (hH : Wr H a) {u : HO} (h : RelO K (upd H a u) m a o') (mo' : o'.mut = true) : RelS K (upd H a u) m (S.set n o') := R.putF hn mo ha hH h
theorem RelS.put (R : RelS K H m S) {n : Nat} {o o' : O} {vs : List V} (hn : S[n]? = some o) (mo : o.mut = true) (ha : m[n]? = some a) (hH : H a = some (.lst vs)) {u : HO} (h : RelO K (upd H a u) m a o') (mo' : o'.mut = true) : RelS K (upd H a u) m (S.set n o') := R.putW hn mo ha (.inr (by rw [hH]; trivial)) h mo'
theorem Ext.putW (hH : Wr H a) {u : HO} : Ext K H m (upd H a u) m := ⟨kp_updW hH, [], by simp⟩
theorem Ext.put {vs : List V} (hH : H a = some (.lst vs)) {u : HO} : Ext K H m (upd H a u) m := ⟨kp_upd (.inr ⟨vs, hH⟩), [], by simp⟩
end

/-! ### names -/
structure RelN (K : Fg) (H : Hp) (m : List Addr) (ρ : Nv) (σ : L2.St) : Prop where
  len : ρ.length = σ.length
  nv : ∀ (i : Nat) (d : D), ρ[i]? = some (some d) → ∃ v, σ[i]? = some (some v) ∧ RelD K H m d v
section
variable {K : Fg} {H H' : Hp} {m m' : List Addr} {ρ : Nv} {σ : L2.St}
theorem RelN.ext (e : Ext K H m H' m') (h : RelN K H m ρ σ) : RelN K H' m' ρ σ :=
  ⟨h.len, fun i d q => let ⟨v, e1, r⟩ := h.nv i d q; ⟨v, e1, r.ext e⟩⟩
theorem RelN.set (h : RelN K H m ρ σ) {d : D} {v : V} (r : RelD K H m d v) (i : Nat) : RelN K H m (ρ.set i (some d)) (σ.set i (some v)) := by
  refine ⟨by simp [h.len], fun j e q => ?_⟩
  by_cases hj : i = j
  · subst hj
    by_cases hl : i < ρ.length
    · rw [List.getElem?_set_self hl] at q
      cases q
      exact ⟨v, List.getElem?_set_self (by rw [← h.len]; exact hl), r⟩
    · rw [List.getElem?_eq_none (by simpa using hl)] at q; cases q
  · rw [List.getElem?_set_ne hj] at q
    obtain ⟨w, e1, r1⟩ := h.nv j e q
    exact ⟨w, by rw [List.getElem?_set_ne hj]; exact e1, r1⟩
theorem RelN.wipe (h : RelN K H m ρ σ) : ∀ vs : List Nat, RelN K H m (wipeN ρ vs) (L2.wipe σ vs)
  | [] => h
  | v :: vs => by
    have ih := RelN.wipe h vs
    unfold wipeN L2.wipe
    refine ⟨by simp [ih.len], fun j e q => ?_⟩
    by_cases hj : v = j
    · subst hj
      by_cases hl : v < (wipeN ρ vs).length
      · rw [List.getElem?_set_self hl] at q; cases q
      · rw [List.getElem?_eq_none (by simpa using hl)] at q; cases q
    · rw [List.getElem?_set_ne hj] at q
      obtain ⟨w, e1, r1⟩ := ih.nv j e q
      exact ⟨w, by rw [List.getElem?_set_ne hj]; exact e1, r1⟩
end

/-! ### what is wanted behind an expression -/
/-- where the classes stand -/
abbrev Ca := Nat → Addr
def RelX (cA : Ca) (K : Fg) (H : Hp) (m : List Addr) (x : Ex) (c : Value) (dx : Option Addr) : Prop :=
  c = .ref (cA x.c) ∧ ∃ d fs, dx = some d ∧ H d = some (.xd fs) ∧ ∀ f y, x.fs.lookup f = some y → ∃ v, fs.lookup (Str.ofString f) = some v ∧ RelD K H m y v
section
variable (cA : Ca) (K : Fg)
def Post (m : List Addr) (H : Hp) (σ : L2.St) (W : WX) (r : Res D) (Q : VK) : Prop := match r with
  | .ok d S => ∀ m' H' v, Ext K H m H' m' → RelS K H' m' S → RelD K H' m' d v → Q v H'
  | .exc x S => ∀ m' H' c dx, Ext K H m H' m' → RelS K H' m' S → RelX cA K H' m' x c dx → W c dx σ H'
  | .stuck => False
def PostB (m : List Addr) (H : Hp) (σ : L2.St) (W : WX) (r : Res Bool) (Q : Bool → Hp → Prop) : Prop := match r with
  | .ok d S => ∀ m' H', Ext K H m H' m' → RelS K H' m' S → Q d H'
  | .exc x S => ∀ m' H' c dx, Ext K H m H' m' → RelS K H' m' S → RelX cA K H' m' x c dx → W c dx σ H'
  | .stuck => False
def PostA (m : List Addr) (H : Hp) (σ : L2.St) (W : WX) (r : Res (List D)) (Q : List V → Hp → Prop) : Prop := match r with
  | .ok d S => ∀ m' H' v, Ext K H m H' m' → RelS K H' m' S → RelDs K H' m' d v → Q v H'
  | .exc x S => ∀ m' H' c dx, Ext K H m H' m' → RelS K H' m' S → RelX cA K H' m' x c dx → W c dx σ H'
  | .stuck => False
/-- a reading: the expression computes f -/
def tR (W : WX) (f : Nv → Sto → Res D) : TE := fun σ H Q => ∃ m ρ S, RelN K H m ρ σ ∧ RelS K H m S ∧ Post cA K m H σ W (f ρ S) Q
def tB (W : WX) (f : Nv → Sto → Res Bool) : TT := fun σ H Q => ∃ m ρ S, RelN K H m ρ σ ∧ RelS K H m S ∧ PostB cA K m H σ W (f ρ S) Q
def tA (W : WX) (f : Nv → Sto → Res (List D)) : TA := fun σ H Q => ∃ m ρ S, RelN K H m ρ σ ∧ RelS K H m S ∧ PostA cA K m H σ W (f ρ S) Q
end
section
variable {cA : Ca} {K : Fg} {H H' : Hp} {m m' : List Addr} {σ : L2.St} {W : WX}
theorem Post.mono {r : Res D} {Q : VK} (e : Ext K H m H' m') (h : Post cA K m H σ W r Q) : Post cA K m' H' σ W r Q := by
  cases r with
  | ok d S => exact fun m2 H2 v e2 => h m2 H2 v (e.trans e2)
  | exc x S => exact fun m2 H2 c dx e2 => h m2 H2 c dx (e.trans e2)
  | stuck => exact h
theorem PostB.mono {r : Res Bool} {Q : Bool → Hp → Prop} (e : Ext K H m H' m') (h : PostB cA K m H σ W r Q) : PostB cA K m' H' σ W r Q := by
  cases r with
  | ok d S => exact fun m2 H2 e2 => h m2 H2 (e.trans e2)
  | exc x S => exact fun m2 H2 c dx e2 => h m2 H2 c dx (e.trans e2)
  | stuck => exact h
theorem PostA.mono {r : Res (List D)} {Q : List V → Hp → Prop} (e : Ext K H m H' m') (h : PostA cA K m H σ W r Q) : PostA cA K m' H' σ W r Q := by
  cases r with
  | ok d S => exact fun m2 H2 v e2 => h m2 H2 v (e.trans e2)
  | exc x S => exact fun m2 H2 c dx e2 => h m2 H2 c dx (e.trans e2)
  | stuck => exact h
theorem Post.bind {r : Res D} {f : D → Sto → Res D} {Q : VK} (h : Post cA K m H σ W (r.bind f) Q) :
    Post cA K m H σ W r fun v H1 => ∃ m1 d S1, r = .ok d S1 ∧ Ext K H m H1 m1 ∧ RelS K H1 m1 S1 ∧ RelD K H1 m1 d v ∧ Post cA K m1 H1 σ W (f d S1) Q := by
  cases r with
  | ok d S => exact fun m1 H1 v e rs rd => ⟨m1, d, S, rfl, e, rs, rd, Post.mono e h⟩
  | exc x S => exact h
  | stuck => exact h
theorem Post.bindB {r : Res Bool} {f : Bool → Sto → Res D} {Q : VK} (h : Post cA K m H σ W (r.bind f) Q) :
    PostB cA K m H σ W r fun b H1 => ∃ m1 S1, r = .ok b S1 ∧ Ext K H m H1 m1 ∧ RelS K H1 m1 S1 ∧ Post cA K m1 H1 σ W (f b S1) Q := by
  cases r with
  | ok d S => exact fun m1 H1 e rs => ⟨m1, S, rfl, e, rs, Post.mono e h⟩
  | exc x S => exact h
  | stuck => exact h
theorem Post.bindA {r : Res (List D)} {f : List D → Sto → Res D} {Q : VK} (h : Post cA K m H σ W (r.bind f) Q) :
    PostA cA K m H σ W r fun vs H1 => ∃ m1 ds S1, r = .ok ds S1 ∧ Ext K H m H1 m1 ∧ RelS K H1 m1 S1 ∧ RelDs K H1 m1 ds vs ∧ Post cA K m1 H1 σ W (f ds S1) Q := by
  cases r with
  | ok d S => exact fun m1 H1 v e rs rd => ⟨m1, d, S, rfl, e, rs, rd, Post.mono e h⟩
  | exc x S => exact h
  | stuck => exact h
theorem PostB.bind {r : Res D} {f : D → Sto → Res Bool} {Q : Bool → Hp → Prop} (h : PostB cA K m H σ W (r.bind f) Q) :
    Post cA K m H σ W r fun v H1 => ∃ m1 d S1, r = .ok d S1 ∧ Ext K H m H1 m1 ∧ RelS K H1 m1 S1 ∧ RelD K H1 m1 d v ∧ PostB cA K m1 H1 σ W (f d S1) Q := by
  cases r with
  | ok d S => exact fun m1 H1 v e rs rd => ⟨m1, d, S, rfl, e, rs, rd, PostB.mono e h⟩
  | exc x S => exact h
  | stuck => exact h
theorem PostB.bindB {r : Res Bool} {f : Bool → Sto → Res Bool} {Q : Bool → Hp → Prop} (h : PostB cA K m H σ W (r.bind f) Q) :
    PostB cA K m H σ W r fun b H1 => ∃ m1 S1, r = .ok b S1 ∧ Ext K H m H1 m1 ∧ RelS K H1 m1 S1 ∧ PostB cA K m1 H1 σ W (f b S1) Q := by
  cases r with
  | ok d S => exact fun m1 H1 e rs => ⟨m1, S, rfl, e, rs, PostB.mono e h⟩
  | exc x S => exact h
  | stuck => exact h
theorem PostA.bind {r : Res D} {f : D → Sto → Res (List D)} {Q : List V → Hp → Prop} (h : PostA cA K m H σ W (r.bind f) Q) :
    Post cA K m H σ W r fun v H1 => ∃ m1 d S1, r = .ok d S1 ∧ Ext K H m H1 m1 ∧ RelS K H1 m1 S1 ∧ RelD K H1 m1 d v ∧ PostA cA K m1 H1 σ W (f d S1) Q := by
  cases r with
  | ok d S => exact fun m1 H1 v e rs rd => ⟨m1, d, S, rfl, e, rs, rd, PostA.mono e h⟩
  | exc x S => exact h
  | stuck => exact h
theorem PostA.bindA {r : Res (List D)} {f : List D → Sto → Res (List D)} {Q : List V → Hp → Prop} (h : PostA cA K m H σ W (r.bind f) Q) :
    PostA cA K m H σ W r fun vs H1 => ∃ m1 ds S1, r = .ok ds S1 ∧ Ext K H m H1 m1 ∧ RelS K H1 m1 S1 ∧ RelDs K H1 m1 ds vs ∧ PostA cA K m1 H1 σ W (f ds S1) Q := by
  cases r with
  | ok d S => exact fun m1 H1 v e rs rd => ⟨m1, d, S, rfl, e, rs, rd, PostA.mono e h⟩
  | exc x S => exact h
  | stuck => exact h
theorem PostB.imp {r : Res Bool} {Q Q' : Bool → Hp → Prop} (h : PostB cA K m H σ W r Q) (f : ∀ v H', Q v H' → Q' v H') : PostB cA K m H σ W r Q' := by
  cases r with
  | ok d S => exact fun m1 H1 e rs => f _ _ (h m1 H1 e rs)
  | exc x S => exact h
  | stuck => exact h
theorem PostA.imp {r : Res (List D)} {Q Q' : List V → Hp → Prop} (h : PostA cA K m H σ W r Q) (f : ∀ v H', Q v H' → Q' v H') : PostA cA K m H σ W r Q' := by
  cases r with
  | ok d S => exact fun m1 H1 v e rs rd => f _ _ (h m1 H1 v e rs rd)
  | exc x S => exact h
  | stuck => exact h
theorem Post.imp {r : Res D} {Q Q' : VK} (h : Post cA K m H σ W r Q) (f : ∀ v H', Q v H' → Q' v H') : Post cA K m H σ W r Q' := by
  cases r with
  | ok d S => exact fun m1 H1 v e rs rd => f _ _ (h m1 H1 v e rs rd)
  | exc x S => exact h
  | stuck => exact h
end
end PH

set_option maxHeartbeats 4000000
/-! PH, part 1: dicts by values: looked up, written. -/
namespace PH
open L2 PySem PySem.Spec PyProof.Rows
section
variable {K : Fg} {H : Hp} {m : List Addr}
theorem RelTs.val {k : PD} : ∀ {kvs : List (PD × D)} {xs : Ent3}, RelTs K H m kvs xs → (kget kvs k = none ∧ atKey xs (nk k) = none) ∨ ∃ d b u v, kget kvs k = some d ∧ atKey xs (nk k) = some (b, u) ∧ RelV v u ∧ RelD K H m d v
  | _, _, .nil => .inl ⟨rfl, rfl⟩
  | _, _, .cons (k := k0) (d := d) (b := b) (u := u) (v := v) hk ok rv h r => by
    unfold kget atKey
    by_cases e : nk k0 = nk k
    · simp only [List.find?_cons, decide_eq_true e, Option.map_some]
      exact .inr ⟨d, b, u, v, rfl, rfl, rv, h⟩
    · simp only [List.find?_cons, decide_eq_false e]
      exact RelTs.val (k := k) r
theorem RelTs.map {k : PD} {d' : D} {v' : V} {u' : Value} (rv : RelV v' u') (rd : RelD K H m d' v') : ∀ {kvs : List (PD × D)} {xs : Ent3}, RelTs K H m kvs xs → RelTs K H m (kvs.map fun p => if nk p.1 = nk k then (p.1, d') else p) (xs.map (putAt (nk k) u'))
  | _, _, .nil => .nil
  | _, _, .cons (k := k0) hk ok rv0 h r => by
    rw [List.map_cons, List.map_cons]
    unfold putAt
    by_cases e : nk k0 = nk k
    · rw [if_pos e, if_pos e]
      exact .cons hk ok rv rd (RelTs.map rv rd r)
    · rw [if_neg e, if_neg e]
      exact .cons hk ok rv0 h (RelTs.map rv rd r)
theorem RelTs.snoc {k : PD} {d' : D} {v' : V} {u' : Value} {b : Addr} (hk : RelP K H k (.ref b)) (ok : isTK k = true) (rv : RelV v' u') (rd : RelD K H m d' v') : ∀ {kvs : List (PD × D)} {xs : Ent3}, RelTs K H m kvs xs → RelTs K H m (kvs ++ [(k, d')]) (xs ++ [(nk k, b, u')])
  | _, _, .nil => .cons hk ok rv rd .nil
  | _, _, .cons hk0 ok0 rv0 h r => .cons hk0 ok0 rv0 h (RelTs.snoc hk ok rv rd r)
theorem RelTs.put {k : PD} {d' : D} {v' : V} {u' : Value} {b : Addr} (hk : RelP K H k (.ref b)) (ok : isTK k = true) (rv : RelV v' u') (rd : RelD K H m d' v') {kvs : List (PD × D)} {xs : Ent3} (r : RelTs K H m kvs xs) : RelTs K H m (kput kvs k d') (storedH xs (nk k) b u') := by
  unfold kput storedH
  rcases RelTs.val (k := k) r with ⟨h1, h2⟩ | ⟨d, b', u, v, h1, h2, _⟩
  · rw [h1, h2]
    exact RelTs.snoc hk ok rv rd r
  · rw [h1, h2]
    exact RelTs.map rv rd r
theorem RelTs.drop {k : PD} : ∀ {kvs : List (PD × D)} {xs : Ent3}, RelTs K H m kvs xs → RelTs K H m (kdrop kvs k) (withoutH xs (nk k))
  | _, _, .nil => .nil
  | _, _, .cons (k := k0) hk ok rv h r => by
    unfold kdrop withoutH
    by_cases e : nk k0 = nk k
    · rw [List.filter_cons, List.filter_cons, if_neg (by simp [e]), if_neg (by simp [e])]
      exact RelTs.drop r
    · rw [List.filter_cons, List.filter_cons, if_pos (by simp [e]), if_pos (by simp [e])]
      exact .cons hk ok rv h (RelTs.drop r)
theorem kput_len (kvs : List (PD × D)) (k : PD) (d : D) : (kput kvs k d).length ≤ kvs.length + 1 := by
  unfold kput
  split <;> simp
/-! ### numbers and texts as keys -/
theorem sk_key {k : PD} (h : isSK k = true) : ∃ q, keyP k = some q := by
  cases k <;> first | exact ⟨_, rfl⟩ | cases h
theorem nk_key {a b : PD} {q r : L2.Key} (ha : keyP a = some q) (hb : keyP b = some r) : nk a = nk b ↔ q = r := by
  cases a <;> cases b <;> simp only [keyP, Option.some.injEq, reduceCtorEq] at ha hb <;> subst ha hb <;> simp [nk]
theorem key_v {k : PD} {q : L2.Key} {y : V} (hk : keyP k = some q) (r : RelP K H k y) : y = kV q := by
  cases r <;> simp only [keyP, Option.some.injEq, reduceCtorEq] at hk <;> subst hk <;> rfl
theorem RelKs.val {k : PD} {q : L2.Key} (hk : keyP k = some q) : ∀ {kvs : List (PD × D)} {us : List (L2.Key × V)}, RelKs K H m kvs us → (kget kvs k = none ∧ valV us q = none) ∨ ∃ d v, kget kvs k = some d ∧ valV us q = some v ∧ RelD K H m d v
  | _, _, .nil => .inl ⟨rfl, rfl⟩
  | _, _, .cons (k := k0) (q := q0) (d := d) (v := v) hk0 rp h r => by
    unfold kget valV
    by_cases e : nk k0 = nk k
    · simp only [List.find?_cons, decide_eq_true e, decide_eq_true ((nk_key hk0 hk).mp e), Option.map_some]
      exact .inr ⟨d, v, rfl, rfl, h⟩
    · simp only [List.find?_cons, decide_eq_false e, decide_eq_false fun z => e ((nk_key hk0 hk).mpr z)]
      exact RelKs.val hk r
theorem RelKs.length : ∀ {kvs : List (PD × D)} {us : List (L2.Key × V)}, RelKs K H m kvs us → kvs.length = us.length
  | _, _, .nil => rfl
  | _, _, .cons _ _ _ r => by rw [List.length_cons, List.length_cons, r.length]
theorem RelKs.map {k : PD} {q : L2.Key} {d' : D} {v' : V} (hk : keyP k = some q) (rd : RelD K H m d' v') : ∀ {kvs : List (PD × D)} {us : List (L2.Key × V)}, RelKs K H m kvs us → RelKs K H m (kvs.map fun p => if nk p.1 = nk k then (p.1, d') else p) (us.map fun kv => if kv.1 = q then (kv.1, v') else kv)
  | _, _, .nil => .nil
  | _, _, .cons (k := k0) (q := q0) hk0 rp h r => by
    rw [List.map_cons, List.map_cons]
    dsimp only
    by_cases e : nk k0 = nk k
    · rw [if_pos e, if_pos ((nk_key hk0 hk).mp e)]
      exact .cons hk0 rp rd (RelKs.map hk rd r)
    · rw [if_neg e, if_neg fun z => e ((nk_key hk0 hk).mpr z)]
      exact .cons hk0 rp h (RelKs.map hk rd r)
theorem RelKs.snoc {k : PD} {q : L2.Key} {d' : D} {v' : V} (hk : keyP k = some q) (rk : RelP K H k (kV q)) (rd : RelD K H m d' v') : ∀ {kvs : List (PD × D)} {us : List (L2.Key × V)}, RelKs K H m kvs us → RelKs K H m (kvs ++ [(k, d')]) (us ++ [(q, v')])
  | _, _, .nil => .cons hk rk rd .nil
  | _, _, .cons hk0 rp h r => .cons hk0 rp h (RelKs.snoc hk rk rd r)
theorem RelKs.put {k : PD} {q : L2.Key} {d' : D} {v' : V} (hk : keyP k = some q) (rk : RelP K H k (kV q)) (rd : RelD K H m d' v') {kvs : List (PD × D)} {us : List (L2.Key × V)} (r : RelKs K H m kvs us) : RelKs K H m (kput kvs k d') (putK us q v') := by
  unfold kput putK
  rw [valV_any]
  rcases RelKs.val hk r with ⟨h1, h2⟩ | ⟨d, v, h1, h2, _⟩
  · rw [h1, h2]
    exact RelKs.snoc hk rk rd r
  · rw [h1, h2]
    exact RelKs.map hk rd r
theorem RelKs.drop {k : PD} {q : L2.Key} (hk : keyP k = some q) : ∀ {kvs : List (PD × D)} {us : List (L2.Key × V)}, RelKs K H m kvs us → RelKs K H m (kdrop kvs k) (dropK us q)
  | _, _, .nil => .nil
  | _, _, .cons (k := k0) hk0 rp h r => by
    unfold kdrop dropK
    by_cases e : nk k0 = nk k
    · have e' := (nk_key hk0 hk).mp e
      rw [List.filter_cons, List.filter_cons, if_neg (by simp [e]), if_neg (by simp [e'])]
      exact RelKs.drop hk r
    · have e' : ¬ _ = q := fun z => e ((nk_key hk0 hk).mpr z)
      rw [List.filter_cons, List.filter_cons, if_pos (by simp [e]), if_pos (by simp [e'])]
      exact .cons hk0 rp h (RelKs.drop hk r)
end
section
variable {X : Cx} {pins : List (Addr × Obj)} {σ : L2.St} {H : Hp} {s : Shared} {m : List Addr} {S : Sto} {x y z : V} {u v r : Value} {d e f : D} {A : Around} {E : Value → Shared → Prop}
mutual
theorem key_is (I : Inv X pins σ H s) : ∀ {k : PD} {y : V} {u : Value}, RelP X.F H k y → RelV y u → NestedIs s.heap (nk k) u
  | _, _, _, .non, ry => by cases (show _ = Value.none from ry); exact .none
  | _, _, _, .bl b, ry => by cases (show _ = Value.bool b from ry); exact .bool rfl
  | _, _, _, .int i, ry => by obtain ⟨t, e⟩ := ry; subst e; exact .int i t
  | _, _, _, .str z h, ry => by obtain ⟨t, e⟩ := ry; subst e; exact .text _ t
  | _, _, _, .tup h r, ry => by
    cases (show _ = Value.ref _ from ry)
    obtain ⟨its, ri, ⟨o, e1, e2, n, e3⟩, _⟩ := I.tuple h
    exact .tup e1 e2 e3 (by simpa using keys_are I r ri)
theorem keys_are (I : Inv X pins σ H s) : ∀ {ks : List PD} {ys : List V} {us : List Value}, RelPs X.F H ks ys → Vals ys us → NestedAll s.heap (nks ks) us
  | _, _, _, .nil, ri => by cases ri; exact .nil
  | _, _, _, .cons h r, ri => by
    cases ri with
    | cons r1 rs => exact .cons (key_is I h r1) (keys_are I r rs)
end
theorem tk_is (I : Inv X pins σ H s) {k : PD} {b : Addr} (ok : isTK k = true) (h : RelP X.F H k (.ref b)) : (nestedKind X.prog X.w).is s.heap (nk k) b := by
  refine ⟨key_is I h rfl, ?_⟩
  cases k <;> first | cases ok | skip
  simpa [isTK] using ok
theorem tk_ref {K : Fg} {k : PD} (ok : isTK k = true) (h : RelP K H k y) : ∃ b, y = .ref b := by
  cases h <;> first | cases ok | exact ⟨_, rfl⟩
theorem tks_are (I : Inv X pins σ H s) : ∀ {kvs : List (PD × D)} {xs : Ent3}, RelTs X.F H m kvs xs → ∀ q ∈ xs, (nestedKind X.prog X.w).is s.heap q.1 q.2.1
  | _, _, .nil, _, h => by cases h
  | _, _, .cons hk ok rv h r, q, hq => by
    rcases List.mem_cons.mp hq with e | e
    · subst e; exact tk_is I ok hk
    · exact tks_are I r q e
theorem t_of (I : Inv X pins σ H s) {a : Addr} {kvs : List (PD × D)} {xs : Ent3} (h : Rd H a (dtO X.w a xs)) (r : RelTs X.F H m kvs xs) : s.heap.DictOfH (nestedKind X.prog X.w) a xs := by
  obtain ⟨⟨o, ho, hx, es, ep, h1, h2, h3⟩, _⟩ := (show ObjOk X.prog X.w H s.heap a (dtO X.w a xs) from h.ok I.hok)
  exact ⟨o, es, ep, ho, hx, h1, h2, tks_are I r, h3⟩
theorem t_ok {P : Program} {w : World} {H' : Hp} {h' : Heap} {a : Addr} {xs : Ent3} (dd : h'.DictOfH (nestedKind P w) a xs) : ObjOk P w H' h' a (dtO w a xs) := by
  obtain ⟨o, es, ep, ho, hx, h1, h2, _, h3⟩ := dd
  refine ⟨⟨o, ho, hx, es, ep, h1, h2, h3⟩, ⟨o, ho⟩, fun g1 g2 ⟨o', e1, e2⟩ k => ⟨o', k o' e1, e2⟩⟩
theorem room8 (hu : A.units + 64 < cLine) : (nestedKind X.prog X.w).room A.in1 := by show A.units + 1 + 8 < cLine; omega
/-- a dict's store value, its two kinds -/
theorem dget_of {o : Option D} (rs : RelS X.F H m S) (rd : RelD X.F H m d x) (re : RelD X.F H m e y) (h : dGet d e S = some o) :
    ∃ a, x = .ref a ∧ ((∃ kvs us k q, Rd H a (.dK us) ∧ RelKs X.F H m kvs us ∧ keyP k = some q ∧ y = kV q ∧ o = kget kvs k) ∨
      ∃ kvs xs k b, Rd H a (dtO X.w a xs) ∧ (a == sysModules) = false ∧ kvs.length ≤ sizeLine ∧ RelTs X.F H m kvs xs ∧ isTK k = true ∧ y = .ref b ∧ RelP X.F H k (.ref b) ∧ o = kget kvs k) := by
  unfold dGet at h
  split at h
  · rename_i n k
    cases re with
    | p rk =>
    cases rd with
    | ref ha =>
    split at h
    · rename_i kvs ho
      split at h
      · rename_i hk
        obtain ⟨q, hq⟩ := sk_key hk
        obtain ⟨a, ea, ro⟩ := rs.ob _ _ ho
        rw [ha] at ea; cases ea
        cases ro with
        | dc hH r => exact ⟨_, rfl, .inl ⟨kvs, _, k, q, .inl hH, r, hq, key_v hq rk, (Option.some.inj h).symm⟩⟩
      · cases h
    · rename_i kvs ho
      split at h
      · rename_i hk
        obtain ⟨b, eb⟩ := tk_ref hk rk
        subst eb
        obtain ⟨a, ea, ro⟩ := rs.ob _ _ ho
        rw [ha] at ea; cases ea
        cases ro with
        | dt hH nd z r => exact ⟨_, rfl, .inr ⟨kvs, _, k, b, .inl hH, nd, z, r, hk, rfl, rk, (Option.some.inj h).symm⟩⟩
      · cases h
    · rename_i t kvs ho
      obtain ⟨a, ea, ro⟩ := rs.ob _ _ ho
      rw [ha] at ea; cases ea
      cases ro with
      | dfk hH r =>
        by_cases hk : isSK k = true
        · obtain ⟨q, hq⟩ := sk_key hk
          simp only [hk, Bool.false_eq_true, if_false, if_true, Option.some.injEq] at h
          exact ⟨_, rfl, .inl ⟨kvs, _, k, q, .inr ⟨_, hH⟩, r, hq, key_v hq rk, h.symm⟩⟩
        · simp [hk] at h
      | dft hH nd z r =>
        by_cases hk : isTK k = true
        · obtain ⟨b, eb⟩ := tk_ref hk rk
          subst eb
          simp only [hk, if_true, Option.some.injEq] at h
          exact ⟨_, rfl, .inr ⟨kvs, _, k, b, .inr ⟨_, hH⟩, nd, z, r, hk, rfl, rk, h.symm⟩⟩
        · simp [hk] at h
    · cases h
  · cases h
theorem sv_dix {zd : D} {Q : Value → Shared → Prop} (hu : A.units + 64 < cLine) (I : Inv X pins σ H s) (rs : RelS X.F H m S) (rx : RelV x v) (ry : RelV y u) (rd : RelD X.F H m d x) (re : RelD X.F H m e y) (h : dGet d e S = some (some zd))
    (q : ∀ w' s' vz, Inv X pins σ H s' → RelV vz w' → RelD X.F H m zd vz → Q w' s') : s.TypeIs v "dict" ∧ wpAny (model X.prog X.w) A (getItem v u) Q E s := by
  obtain ⟨a, rfl, ⟨kvs, us, k, kq, hH, r, hk, rfl, ho⟩ | ⟨kvs, xs, k, b, hH, nd, z, r, ok, rfl, rk, ho⟩⟩ := dget_of rs rd re h
  · cases (show v = Value.ref a from rx)
    rcases r.val hk with ⟨h1, _⟩ | ⟨d1, v1, h1, h2, h3⟩
    · rw [← ho] at h1; cases h1
    · rw [← ho] at h1; cases h1
      have g : DGet H a (kV kq) (some v1) := by rw [← h2]; exact .inl ⟨us, kq, hH, rfl, rfl⟩
      exact ⟨dict_typeIs I g, d_getItem (by omega) I g ry fun w' s' I' rw' => q w' s' v1 I' rw' h3⟩
  · cases (show v = Value.ref a from rx)
    cases (show u = Value.ref b from ry)
    have dd := t_of I hH r
    rcases r.val (k := k) with ⟨h1, _⟩ | ⟨d1, b1, u1, v1, h1, h2, h3, h4⟩
    · rw [← ho] at h1; cases h1
    · rw [← ho] at h1; cases h1
      exact ⟨dd.typeIs, wpAny_getItem_heap (room8 hu) (tk_is I ok rk) dd h2 (q _ _ v1 (I.tok _) h3 h4)⟩
theorem sv_din {neg : Bool} {o : Option D} {Q : Value → Shared → Prop} (hu : A.units + 64 < cLine) (I : Inv X pins σ H s) (rs : RelS X.F H m S) (rx : RelV x v) (ry : RelV y u) (rd : RelD X.F H m d x) (re : RelD X.F H m e y) (h : dGet d e S = some o)
    (q : ∀ s', Inv X pins σ H s' → Q (.bool (o.isSome != neg)) s') : wpAny (model X.prog X.w) A (compareOp (if neg then .NotIn else .In) u v) Q E s := by
  obtain ⟨a, rfl, ⟨kvs, us, k, kq, hH, r, hk, rfl, ho⟩ | ⟨kvs, xs, k, b, hH, nd, z, r, ok, rfl, rk, ho⟩⟩ := dget_of rs rd re h
  · cases (show v = Value.ref a from rx)
    have g : DGet H a (kV kq) (valV us kq) := .inl ⟨us, kq, hH, rfl, rfl⟩
    have e : o.isSome = (valV us kq).isSome := by rcases r.val hk with ⟨h1, h2⟩ | ⟨d1, v1, h1, h2, _⟩ <;> rw [ho, h1, h2] <;> rfl
    rw [e] at q
    cases neg with
    | false => exact d_in (by omega) I g ry fun s' I' => by have := q s' I'; simpa using this
    | true => exact d_notIn (by omega) I g ry fun s' I' => by have := q s' I'; simpa using this
  · cases (show v = Value.ref a from rx)
    cases (show u = Value.ref b from ry)
    have dd := t_of I hH r
    have e : o.isSome = (atKey xs (nk k)).isSome := by rcases r.val (k := k) with ⟨h1, h2⟩ | ⟨d1, b1, u1, v1, h1, h2, _⟩ <;> rw [ho, h1, h2] <;> rfl
    rw [e] at q
    cases neg with
    | false => exact wpAny_in_heap (room8 hu) (tk_is I ok rk) nd dd (by have := q { s with toks := s.toks + (nestedKind X.prog X.w).draws (nk k) } (I.tok _); simpa using this)
    | true =>
      show wpAny _ _ (do return .bool (!(← contains (.ref a) (.ref b)))) Q E s
      exact wpAny_bind (wpAny_contains_heap (room8 hu) (tk_is I ok rk) nd dd (wpAny_pure (by have := q { s with toks := s.toks + (nestedKind X.prog X.w).draws (nk k) } (I.tok _); simpa using this)))
/-- d.get(k), d.get(k, x) -/
theorem sv_dget {o : Option D} {zd : D} {Q : Value → Shared → Prop} (hu : A.units + 64 < cLine) (I : Inv X pins σ H s) (rs : RelS X.F H m S) (rx : RelV x v) (ry : RelV y u) (rd : RelD X.F H m d x) (re : RelD X.F H m e y) (h : dGet d e S = some o)
    (q : ∀ w' s' vz, Inv X pins σ H s' → RelV vz w' → RelD X.F H m (o.getD zd) vz → Q w' s') :
    (zd = .p .non → wpAny (model X.prog X.w) A (call (.builtin "dict.get") [v, u]) Q E s) ∧ (RelV z r → RelD X.F H m zd z → wpAny (model X.prog X.w) A (call (.builtin "dict.get") [v, u, r]) Q E s) := by
  obtain ⟨a, rfl, ⟨kvs, us, k, kq, hH, rel, hk, rfl, ho⟩ | ⟨kvs, xs, k, b, hH, nd, zl, rel, ok, rfl, rk, ho⟩⟩ := dget_of rs rd re h
  · cases (show v = Value.ref a from rx)
    have g : DGet H a (kV kq) (valV us kq) := .inl ⟨us, kq, hH, rfl, rfl⟩
    rcases rel.val hk with ⟨h1, h2⟩ | ⟨d1, v1, h1, h2, h3⟩
    · rw [ho, h1] at q
      refine ⟨fun hz => ?_, fun rz rdz => ?_⟩
      · subst hz
        exact d_get1 (by omega) I g ry fun w' s' I' rw' => q w' s' .non I' (by rw [h2] at rw'; exact rw') (.p .non)
      · exact d_get2 (by omega) I g ry rz fun w' s' I' rw' => q w' s' z I' (by rw [h2] at rw'; exact rw') rdz
    · rw [ho, h1] at q
      exact ⟨fun hz => d_get1 (by omega) I g ry fun w' s' I' rw' => q w' s' v1 I' (by rw [h2] at rw'; exact rw') h3, fun rz rdz => d_get2 (by omega) I g ry rz fun w' s' I' rw' => q w' s' v1 I' (by rw [h2] at rw'; exact rw') h3⟩
  · cases (show v = Value.ref a from rx)
    cases (show u = Value.ref b from ry)
    have dd := t_of I hH rel
    have k1 := tk_is I ok rk
    rcases rel.val (k := k) with ⟨h1, h2⟩ | ⟨d1, b1, u1, v1, h1, h2, h3, h4⟩
    · rw [ho, h1] at q
      refine ⟨fun hz => ?_, fun rz rdz => ?_⟩
      · subst hz
        refine call_meetsIn PySem.F.slot_dict_get dd.typeIs PySem.F.entry_dict_get (PySem.F.args_dict_get_2 _ _) (meetsH_dict_get (nestedKind X.prog X.w) a b nd) ⟨room8 hu, nk k, xs, k1, dd, ?_⟩
        rw [h2]
        exact q _ _ .non (I.tok _) rfl (.p .non)
      · refine call_meetsIn PySem.F.slot_dict_get dd.typeIs PySem.F.entry_dict_get (PySem.F.args_dict_get_3 _ _ _) (meetsH_dict_get_default (nestedKind X.prog X.w) a b nd r) ⟨room8 hu, nk k, xs, k1, dd, ?_⟩
        rw [h2]
        exact q _ _ z (I.tok _) rz rdz
    · rw [ho, h1] at q
      refine ⟨fun hz => ?_, fun rz rdz => ?_⟩
      · refine call_meetsIn PySem.F.slot_dict_get dd.typeIs PySem.F.entry_dict_get (PySem.F.args_dict_get_2 _ _) (meetsH_dict_get (nestedKind X.prog X.w) a b nd) ⟨room8 hu, nk k, xs, k1, dd, ?_⟩
        rw [h2]
        exact q _ _ v1 (I.tok _) h3 h4
      · refine call_meetsIn PySem.F.slot_dict_get dd.typeIs PySem.F.entry_dict_get (PySem.F.args_dict_get_3 _ _ _) (meetsH_dict_get_default (nestedKind X.prog X.w) a b nd r) ⟨room8 hu, nk k, xs, k1, dd, ?_⟩
        rw [h2]
        exact q _ _ v1 (I.tok _) h3 h4
/-- d[k] = v -/
theorem sv_dput {S' : Sto} {Q : Unit → Shared → Prop} (hu : A.units + 64 < cLine) (I : Inv X pins σ H s) (rs : RelS X.F H m S) (rx : RelV x v) (ry : RelV y u) (rz : RelV z r) (rd : RelD X.F H m d x) (re : RelD X.F H m e y) (rf : RelD X.F H m f z) (h : dPut d e f S = some S')
    (q : ∀ H' s', Inv X pins σ H' s' → Ext X.F H m H' m → RelS X.F H' m S' → Q () s') : wpAny (model X.prog X.w) A (setItem v u r) Q E s := by
  unfold dPut at h
  split at h
  · rename_i n k
    cases re with
    | p rk =>
    cases rd with
    | @ref _ a ha =>
    cases (show v = Value.ref a from rx)
    split at h
    · rename_i kvs ho
      split at h
      · rename_i hc
        obtain ⟨hk, hl⟩ := hc
        cases h
        obtain ⟨kq, hkq⟩ := sk_key hk
        cases key_v hkq rk
        obtain ⟨a', ea, ro⟩ := rs.ob _ _ ho
        rw [ha] at ea; cases ea
        cases ro with
        | @dc _ us hH rel =>
        have hl' : us.length < sizeLine := by rw [← rel.length, line_eq]; exact hl
        have wr : Wr H a := .inr (by rw [hH]; trivial)
        refine d_setItem (by omega) I (DPut.k hH hl') ry rz fun s' I' => q _ s' I' (.putW wr) (rs.putW ho rfl ha wr (.dc upd_same ?_) rfl)
        have := (rel.put hkq rk rf).mono (kp_updW (o := .dK (putK us kq z)) wr) []
        simpa using this
      · cases h
    · rename_i kvs ho
      split at h
      · rename_i hc
        obtain ⟨hk, hl⟩ := hc
        cases h
        obtain ⟨b, eb⟩ := tk_ref hk rk
        subst eb
        cases (show u = Value.ref b from ry)
        obtain ⟨a', ea, ro⟩ := rs.ob _ _ ho
        rw [ha] at ea; cases ea
        cases ro with
        | @dt _ xs hH nd zl rel =>
        have wr : Wr H a := .inr (by rw [hH]; trivial)
        have dd := t_of I (.inl hH) rel
        refine wpAny_setItem_heap (hsz := by rw [← rel.length]; exact zl) (room8 hu) (tk_is I hk rk) dd fun h' dd' hs => ?_
        have he : ∃ o, h'.get? a = some o := let ⟨o, _, _, ho, _⟩ := dd'; ⟨o, ho⟩
        refine q (upd H a (dtO X.w a (storedH xs (nk k) b r))) _ (d_write I (by rw [hH]; trivial) hs he (t_ok dd')) (.putW wr) (rs.putW ho rfl ha wr (.dt upd_same nd ?_ ?_) rfl)
        · have := kput_len kvs k f
          rw [line_eq]; omega
        · have := (rel.put rk hk rz rf).mono (kp_updW (o := dtO X.w a (storedH xs (nk k) b r)) wr) []
          simpa using this
      · cases h
    · cases h
  · cases h
/-- del d[k] -/
theorem sv_ddel {S' : Sto} {Q : Unit → Shared → Prop} (hu : A.units + 64 < cLine) (I : Inv X pins σ H s) (rs : RelS X.F H m S) (rx : RelV x v) (ry : RelV y u) (rd : RelD X.F H m d x) (re : RelD X.F H m e y) (h : dDel d e S = some S')
    (q : ∀ H' s', Inv X pins σ H' s' → Ext X.F H m H' m → RelS X.F H' m S' → Q () s') : wpAny (model X.prog X.w) A (delItem v u) Q E s := by
  unfold dDel at h
  split at h
  · rename_i n k
    cases re with
    | p rk =>
    cases rd with
    | @ref _ a ha =>
    cases (show v = Value.ref a from rx)
    split at h
    · rename_i kvs ho
      split at h
      · rename_i hc
        obtain ⟨hk, hl⟩ := hc
        cases h
        obtain ⟨kq, hkq⟩ := sk_key hk
        cases key_v hkq rk
        obtain ⟨a', ea, ro⟩ := rs.ob _ _ ho
        rw [ha] at ea; cases ea
        cases ro with
        | @dc _ us hH rel =>
        have wr : Wr H a := .inr (by rw [hH]; trivial)
        have l : (valV us kq).isSome = true := by rcases rel.val hkq with ⟨h1, h2⟩ | ⟨d1, v1, h1, h2, _⟩ <;> rw [h1] at hl <;> first | (rw [h2]; rfl) | (cases hl; done)
        refine d_delItem I hH ry l fun s' I' => q _ s' I' (.putW wr) (rs.putW ho rfl ha wr (.dc upd_same ?_) rfl)
        have := (rel.drop hkq).mono (kp_updW (o := .dK (dropK us kq)) wr) []
        simpa using this
      · cases h
    · rename_i kvs ho
      split at h
      · rename_i hc
        obtain ⟨hk, hl⟩ := hc
        cases h
        obtain ⟨b, eb⟩ := tk_ref hk rk
        subst eb
        cases (show u = Value.ref b from ry)
        obtain ⟨a', ea, ro⟩ := rs.ob _ _ ho
        rw [ha] at ea; cases ea
        cases ro with
        | @dt _ xs hH nd zl rel =>
        have wr : Wr H a := .inr (by rw [hH]; trivial)
        have dd := t_of I (.inl hH) rel
        rcases rel.val (k := k) with ⟨h1, _⟩ | ⟨d1, b1, u1, v1, h1, h2, _⟩
        · rw [h1] at hl; cases hl
        refine wpAny_delItem_heap (hsz := by rw [← rel.length]; exact zl) (room8 hu) (tk_is I hk rk) nd dd h2 fun h' dd' hs => ?_
        have he : ∃ o, h'.get? a = some o := let ⟨o, _, _, ho, _⟩ := dd'; ⟨o, ho⟩
        refine q (upd H a (dtO X.w a (withoutH xs (nk k)))) _ (d_write I (by rw [hH]; trivial) hs he (t_ok dd')) (.putW wr) (rs.putW ho rfl ha wr (.dt upd_same nd ?_ ?_) rfl)
        · exact Nat.le_trans (List.length_filter_le _ _) zl
        · have := (rel.drop (k := k)).mono (kp_updW (o := dtO X.w a (withoutH xs (nk k))) wr) []
          simpa using this
      · cases h
    · cases h
  · cases h
/-- len(d) -/
theorem sv_dlen {ks : List PD} {Q : Value → Shared → Prop} (I : Inv X pins σ H s) (rs : RelS X.F H m S) (rx : RelV x v) (rd : RelD X.F H m d x) (h : keysD d S = some ks)
    (q : ∀ t s', ks.length ≤ LINE → Inv X pins σ H s' → Q (.int ks.length t) s') : wpAny (model X.prog X.w) A (call (.builtin "len") [v]) Q E s := by
  have kk : ∀ {a : Addr} {kvs : List (PD × D)} {us : List (L2.Key × V)}, Rd H a (.dK us) → RelKs X.F H m kvs us → ks = kvs.map (·.1) → wpAny (model X.prog X.w) A (call (.builtin "len") [.ref a]) Q E s := fun {a kvs us} hH rel e =>
    d_len I hH fun t s' I' => by
      obtain ⟨z, _⟩ := dk_rd I.hok hH
      have el : ks.length = us.length := by rw [e, List.length_map, rel.length]
      rw [← el]; exact q t s' (by rw [el, ← line_eq]; exact z) I'
  have tt : ∀ {a : Addr} {kvs : List (PD × D)} {xs : Ent3}, Rd H a (dtO X.w a xs) → (a == sysModules) = false → kvs.length ≤ sizeLine → RelTs X.F H m kvs xs → ks = kvs.map (·.1) → wpAny (model X.prog X.w) A (call (.builtin "len") [.ref a]) Q E s := fun {a kvs xs} hH nd z rel e => by
    have el : ks.length = xs.length := by rw [e, List.length_map, rel.length]
    refine call_len_dictH nd (t_of I hH rel) (by rw [← rel.length]; rw [sizeLine_eq] at z; omega) ?_
    rw [← el]; exact q _ _ (by rw [el, ← rel.length, ← line_eq]; exact z) (I.tok _)
  unfold keysD at h
  split at h
  · rename_i n
    cases rd with
    | @ref _ a ha =>
    cases (show v = Value.ref a from rx)
    split at h
    · rename_i o ho
      obtain ⟨a', ea, ro⟩ := rs.ob _ _ ho
      rw [ha] at ea; cases ea
      cases ro with
      | dc hH rel => cases h; exact kk (.inl hH) rel rfl
      | dfk hH rel => cases h; exact kk (.inr ⟨_, hH⟩) rel rfl
      | dt hH nd z rel => cases h; exact tt (.inl hH) nd z rel rfl
      | dft hH nd z rel => cases h; exact tt (.inr ⟨_, hH⟩) nd z rel rfl
      | _ => cases h
    · cases h
  · cases h
/-! ### the keys in a row -/
theorem ks_raw : ∀ {kvs : List (PD × D)} {us : List (L2.Key × V)} {vs : List (L2.Key × Value)}, RelKs X.F H m kvs us → KV us vs → ∀ es : List DictEntry, es.length = vs.length → (∀ (i : Nat) e k v, es[i]? = some e → vs[i]? = some (k, v) → keyIs k e.key = true) →
    ∃ ws, Vals ws (es.map (·.key)) ∧ RelPs X.F H (kvs.map (·.1)) ws
  | _, _, _, .nil, kv, es, hl, hk => by
    cases kv
    rw [List.eq_nil_of_length_eq_zero hl]
    exact ⟨[], .nil, .nil⟩
  | _, _, _, .cons (q := q) hq rp h r, kv, es, hl, hk => by
    cases kv with
    | @cons _ p _ _ h1 h2 =>
    cases es with
    | nil => cases hl
    | cons e es =>
      obtain ⟨ws, g1, g2⟩ := ks_raw r h2 es (by simpa using hl) fun i e' k v a b => hk (i + 1) e' k v (by simpa using a) (by simpa using b)
      have k0 := hk 0 e p.1 p.2 rfl rfl
      rw [← h1.1] at k0
      exact ⟨kV q :: ws, .cons (relV_key k0) g1, .cons rp g2⟩
theorem ts_raw {w : World} : ∀ {kvs : List (PD × D)} {xs : Ent3}, RelTs X.F H m kvs xs → ∃ ws, Vals ws ((xs.map fun x => (⟨x.1.hash w, .ref x.2.1, x.2.2⟩ : DictEntry)).map (·.key)) ∧ RelPs X.F H (kvs.map (·.1)) ws
  | _, _, .nil => ⟨[], .nil, .nil⟩
  | _, _, .cons (b := b) hk ok rv h r => let ⟨ws, g1, g2⟩ := ts_raw (w := w) r; ⟨.ref b :: ws, .cons rfl g1, .cons hk g2⟩
/-- what is known of a dict's record -/
structure Keyed (X : Cx) (H : Hp) (s : Shared) (a : Addr) (o : Obj) (es : Array DictEntry) (ep : Nat) (ks : List PD) (ws : List V) : Prop where
  sys : (a == sysModules) = false
  get : s.heap.get? a = some o
  ex : o.ExactDict
  dat : o.data = .dict es ep
  vals : Vals ws (es.toList.map (·.key))
  rel : RelPs X.F H ks ws
  line : ks.length ≤ sizeLine
theorem Keyed.size {a : Addr} {o : Obj} {es : Array DictEntry} {ep : Nat} {ks : List PD} {ws : List V} (k : Keyed X H s a o es ep ks ws) : es.size = ks.length ∧ es.size = ws.length := by
  have h1 := k.vals.length
  have h2 := k.rel.length
  simp at h1
  omega
theorem keyed_k (I : Inv X pins σ H s) {a : Addr} {kvs : List (PD × D)} {us : List (L2.Key × V)} (h : Rd H a (.dK us)) (r : RelKs X.F H m kvs us) : ∃ o es ep ws, Keyed X H s a o es ep (kvs.map (·.1)) ws := by
  obtain ⟨z, hd, vs, rel, dd⟩ := dk_rd I.hok h
  obtain ⟨es, ep, ⟨o, g1, g2, g3⟩, sz, hk⟩ := dd.raw
  obtain ⟨ws, h1, h2⟩ := ks_raw r rel es.toList (by simpa using sz) fun i e k v a b => by
    have hi : i < es.size := by have := (List.getElem?_eq_some_iff.mp a).1; simpa using this
    have e1 : es[i] = e := by
      have := (List.getElem?_eq_some_iff.mp a).2
      simpa using this
    rw [← e1]
    exact (hk i hi k v b).1
  exact ⟨o, es, ep, ws, hd, g1, g2, g3, h1, h2, by rw [List.length_map, r.length]; exact z⟩
theorem keyed_t (I : Inv X pins σ H s) {a : Addr} {kvs : List (PD × D)} {xs : Ent3} (h : Rd H a (dtO X.w a xs)) (nd : (a == sysModules) = false) (z : kvs.length ≤ sizeLine) (r : RelTs X.F H m kvs xs) : ∃ o es ep ws, Keyed X H s a o es ep (kvs.map (·.1)) ws := by
  obtain ⟨⟨o, ho, hx, es, ep, h1, h2, h3⟩, _⟩ := (show ObjOk X.prog X.w H s.heap a (dtO X.w a xs) from h.ok I.hok)
  obtain ⟨ws, g1, g2⟩ := ts_raw (w := X.w) r
  exact ⟨o, es, ep, ws, nd, ho, hx, h1, by rw [h2]; exact g1, g2, by simpa using z⟩
theorem keys_of (I : Inv X pins σ H s) (rs : RelS X.F H m S) (rd : RelD X.F H m d x) {ks : List PD} (h : keysD d S = some ks) : ∃ a o es ep ws, x = .ref a ∧ Keyed X H s a o es ep ks ws := by
  unfold keysD at h
  split at h
  · rename_i n
    split at h
    · rename_i o ho
      cases rd with
      | @ref _ a ha =>
      obtain ⟨a', ea, ro⟩ := rs.ob _ _ ho
      rw [ha] at ea; cases ea
      cases ro with
      | dc hH rel => cases h; obtain ⟨o, es, ep, ws, k⟩ := keyed_k I (.inl hH) rel; exact ⟨a, o, es, ep, ws, rfl, k⟩
      | dfk hH rel => cases h; obtain ⟨o, es, ep, ws, k⟩ := keyed_k I (.inr ⟨_, hH⟩) rel; exact ⟨a, o, es, ep, ws, rfl, k⟩
      | dt hH nd z rel => cases h; obtain ⟨o, es, ep, ws, k⟩ := keyed_t I (.inl hH) nd z rel; exact ⟨a, o, es, ep, ws, rfl, k⟩
      | dft hH nd z rel => cases h; obtain ⟨o, es, ep, ws, k⟩ := keyed_t I (.inr ⟨_, hH⟩) nd z rel; exact ⟨a, o, es, ep, ws, rfl, k⟩
      | _ => cases h
    · cases h
  · cases h
/-- written no more -/
theorem freeze (I : Inv X pins σ H s) (rs : RelS X.F H m S) {n : Nat} {a : Addr} (ha : m[n]? = some a) {o o' : O} {ks : List PD} (ho : S[n]? = some o) (h : o.frzD = some (ks, o')) :
    ∃ H' u od es ep ws, Inv X pins σ H' s ∧ Ext X.F H m H' m ∧ RelS X.F H' m (S.set n o') ∧ H' a = some (.frz od u) ∧ Keyed X H' s a od es ep ks ws := by
  obtain ⟨a', ea, ro⟩ := rs.ob _ _ ho
  rw [ha] at ea; cases ea
  have same : ∀ {q : O}, S[n]? = some q → S.set n q = S := fun {q} hq => by
    obtain ⟨hlt, e⟩ := List.getElem?_eq_some_iff.mp hq
    rw [← e]; exact List.set_getElem_self hlt
  cases ro with
  | @dc _ us hH rel =>
    cases h
    obtain ⟨od, I1⟩ := I.lock hH True.intro
    have wr : Wr H a := .inr (by rw [hH]; trivial)
    have rel' := rel.mono (kp_updW (K := X.F) (o := .frz od (.dK us)) wr) []
    rw [List.append_nil] at rel'
    obtain ⟨o2, es, ep, ws, k⟩ := keyed_k I1 (.inr ⟨od, upd_same⟩) rel'
    have e : o2 = od := by
      obtain ⟨e, _⟩ := I1.hok a _ upd_same
      rw [k.get] at e; cases e; rfl
    subst e
    exact ⟨_, _, o2, es, ep, ws, I1, .putW wr, rs.putF ho rfl ha wr (.dfk upd_same rel'), upd_same, k⟩
  | @dt _ xs hH nd z rel =>
    cases h
    obtain ⟨od, I1⟩ := I.lock hH True.intro
    have wr : Wr H a := .inr (by rw [hH]; trivial)
    have rel' := rel.mono (kp_updW (K := X.F) (o := .frz od (dtO X.w a xs)) wr) []
    rw [List.append_nil] at rel'
    obtain ⟨o2, es, ep, ws, k⟩ := keyed_t I1 (.inr ⟨od, upd_same⟩) nd z rel'
    have e : o2 = od := by
      obtain ⟨e, _⟩ := I1.hok a _ upd_same
      rw [k.get] at e; cases e; rfl
    subst e
    exact ⟨_, _, o2, es, ep, ws, I1, .putW wr, rs.putF ho rfl ha wr (.dft upd_same nd z rel'), upd_same, k⟩
  | dfk hH rel =>
    cases h
    obtain ⟨o2, es, ep, ws, k⟩ := keyed_k I (.inr ⟨_, hH⟩) rel
    obtain ⟨e, _⟩ := I.hok a _ hH
    rw [k.get] at e; cases e
    exact ⟨H, _, _, es, ep, ws, I, .refl, by rw [same ho]; exact rs, hH, k⟩
  | dft hH nd z rel =>
    cases h
    obtain ⟨o2, es, ep, ws, k⟩ := keyed_t I (.inr ⟨_, hH⟩) nd z rel
    obtain ⟨e, _⟩ := I.hok a _ hH
    rw [k.get] at e; cases e
    exact ⟨H, _, _, es, ep, ws, I, .refl, by rw [same ho]; exact rs, hH, k⟩
  | _ => cases h
end
theorem vals_rget : ∀ {ws : List V} {us : List Value} {i : Nat} {u : Value}, Vals ws us → us[i]? = some u → ∃ x, ws[i]? = some x ∧ RelV x u
  | _, _, _, _, .nil, e => by simp at e
  | _, _, 0, _, .cons h _, e => by simp at e; subst e; exact ⟨_, rfl, h⟩
  | _, _, i + 1, u, .cons _ r, e => by
    obtain ⟨x, h1, h2⟩ := vals_rget (i := i) (u := u) r (by simpa using e)
    exact ⟨x, by simpa using h1, h2⟩
/-- the walk of a dict that is written no more -/
def Itx (a : Addr) (od : Obj) (u : HO) (ws : List V) : It :=
  ⟨fun i H => H a = some (.frz od u) ∧ i < ws.length, fun i H x H' => H' = H ∧ ws[i]? = some x, fun i H => H a = some (.frz od u) ∧ ws.length ≤ i⟩
theorem turn_x {P : Program} {w : World} {K : PySem.W.Frag} {tg : Expr} {a : Addr} {od : Obj} {u : HO} {ws : List V} {es : Array DictEntry} {ep : Nat} (it : Addr) (hod : od.data = .dict es ep) (hv : Vals ws (es.toList.map (·.key))) :
    Turn P w K tg (Itx a od u ws) [it] it (fun i h => h.IsKeyIter it a i ws.length ep) where
  mem := List.mem_singleton.mpr rfl
  obj := fun i h st b hb => by
    rw [List.mem_singleton.mp hb]
    obtain ⟨oi, g1, g2, g3⟩ := st
    exact ⟨oi, g1, fun v z => by rw [g3] at z; cases z⟩
  keep := fun i h h' st k => st.at fun oi q => k it (List.mem_singleton.mpr rfl) oi q
  item := fun X hP hw hK hc i pins s σ H E I hf st hg => by
    subst hP hw hK
    obtain ⟨hd, hi⟩ := hg
    obtain ⟨f0, f1, f2, f3, f4, f5⟩ := hf it (List.mem_singleton.mpr rfl)
    obtain ⟨hget, _⟩ := I.hok a _ hd
    have hsz : es.size = ws.length := by have := hv.length; simp at this; omega
    have hes : i < es.size := by omega
    obtain ⟨x, hx, rx⟩ : ∃ x, ws[i]? = some x ∧ RelV x es[i].key := by
      exact vals_rget hv (by simp [hes])
    refine next_key_item st hget hod hsz (Array.getElem?_eq_getElem hes) fun h' st' sb => ?_
    have I1 : Inv X pins σ H { s with heap := h' } := I.turned (t' := s.toks) (fun b ob hb q => (sb.2 b hb).trans q) f0 f1 f3 f4 f5
    obtain ⟨oi, g1, g2, g3⟩ := id st'
    exact ⟨_, rfl, go_of (s := { s with heap := h' }) g1 g2 g3 (by decide) ⟨x, H, I1, rx, ⟨rfl, hx⟩, st', fun b hb => (hf b hb).1⟩⟩
  done := fun X hP hw hK hc i pins s σ H E I hf st hg => by
    subst hP hw hK
    obtain ⟨hd, hi⟩ := hg
    obtain ⟨f0, f1, f2, f3, f4, f5⟩ := hf it (List.mem_singleton.mpr rfl)
    obtain ⟨hget, _⟩ := I.hok a _ hd
    have hsz : es.size = ws.length := by have := hv.length; simp at this; omega
    exact next_key_end (I.ok.hd hc) st hget hod hsz hi fun h' eb => ⟨rfl, I.turned (t' := s.toks) (fun b ob hb q => eb b ob hb q) f0 f1 f3 f4 f5⟩
  self := fun A i s Q E st h => wpAny_pyIter_keyiter st h
end PH

set_option maxHeartbeats 4000000
/-! PH, part C: each operation by values does what the language says. -/
namespace PH
open L2 PySem PySem.Spec PyProof.Rows
section
variable {cA : Ca} {X : Cx} {pins : List (Addr × Obj)} {σ : L2.St} {H : Hp} {s : Shared} {m : List Addr} {S : Sto} {W : WX} {Q : VK} {x y z : V} {u v t : Value} {d e : D}

/-- a datum is handed on -/
theorem Post.dat {x : PD} {v : V} (rs : RelS X.F H m S) (h : Post cA X.F m H σ W (ret1 x S) Q) (r : RelP X.F H x v) : Q v H := h m H v .refl rs (.p r)
/-- a new object is handed on -/
theorem Post.newl {o : O} {vs : List V} (rs : RelS X.F H m S) (h : Post cA X.F m H σ W (new o S) Q) (hu : o.mut = true) (r : ∀ p, H p = none → RelO X.F (upd H p (.lst vs)) (m ++ [p]) p o) : ∀ p, H p = none → Q (.ref p) (upd H p (.lst vs)) := fun p hp =>
  h (m ++ [p]) _ (.ref p) (Ext.new hp) (rs.new hp (r p hp) hu) (.ref (by rw [← rs.len]; simp))
theorem relO_pl {xs : List PD} {vs : List V} (r : RelPs X.F H xs vs) (p : Addr) (hp : H p = none) : RelO X.F (upd H p (.lst vs)) (m ++ [p]) p (.pl xs) := .pl upd_same (r.mono (kp_upd (.inl hp)))
theorem relO_ml {xs : List D} {vs : List V} (r : RelDs X.F H m xs vs) (p : Addr) (hp : H p = none) : RelO X.F (upd H p (.lst vs)) (m ++ [p]) p (.ml xs) := .ml upd_same (r.mono (kp_upd (.inl hp)) _)
/-- a new tuple of data is handed on -/
theorem Post.newt {xs : List PD} {vs : List V} (rs : RelS X.F H m S) (h : Post cA X.F m H σ W (ret1 (.tup xs) S) Q) (r : RelPs X.F H xs vs) : ∀ p, H p = none → Q (.ref p) (upd H p (.tup vs)) := fun p hp =>
  h m _ (.ref p) (Ext.more hp) (rs.more hp) (.p (.tup (SqT.of upd_same) (r.mono (kp_upd (.inl hp)))))

theorem allP_none_length : ∀ {xs : List D} {ys : List PD}, allP xs = some ys → xs.length = ys.length
  | [], _, e => by simp only [allP, Option.some.injEq] at e; subst e; rfl
  | .p x :: xs, ys, e => by
    cases q : allP xs with
    | none => simp [allP, q] at e
    | some zs =>
      simp only [allP, q, Option.map_some, Option.some.injEq] at e
      subst e
      simp [allP_none_length q]
  | .ref _ :: _, ys, e => by simp [allP] at e
  | .mt _ :: _, ys, e => by simp [allP] at e

/-! ### truth -/
theorem sv_tru {k : Bool} {S' : Sto} (rs : RelS X.F H m S) (rd : RelD X.F H m d x) (h : truI d S = .ok k S') : TruV X.K x H k ∧ S' = S := by
  unfold truI at h
  split at h
  all_goals (try (simp only [Res.ok.injEq] at h; obtain ⟨h1, h2⟩ := h; subst h1; subst h2))
  · cases rd with | p r => cases r; exact ⟨rfl, rfl⟩
  · cases rd with | p r => cases r; exact ⟨rfl, rfl⟩
  · cases rd with | p r => cases r; exact ⟨rfl, rfl⟩
  · cases rd with
    | p r =>
      cases r with
      | str t hs =>
        refine ⟨⟨by rw [len_mkS, line_eq]; exact hs.1, ?_⟩, rfl⟩
        rw [len_mkS]
        clear hs
        rename_i z
        cases z with
        | nil => rfl
        | cons c r => simp; omega
  · cases rd with
    | p r =>
      cases r with
      | tup hq r =>
        refine ⟨.inr (.inl ⟨_, hq, ?_⟩), rfl⟩
        cases r <;> rfl
  · cases rd with
    | mt hq r =>
      refine ⟨.inr (.inl ⟨_, hq, ?_⟩), rfl⟩
      cases r <;> rfl
  · cases h
  · split at h
    · rename_i n xs hx
      simp only [Res.ok.injEq] at h
      obtain ⟨h1, h2⟩ := h
      subst h1; subst h2
      cases rd with
      | ref ha =>
        obtain ⟨a, vs, ea, hq, r⟩ := rs.lst hx
        rw [ha] at ea; cases ea
        refine ⟨.inl ⟨_, hq, ?_⟩, rfl⟩
        cases r <;> rfl
    · cases h

/-! ### + - * // % ** -/
theorem relPs_rep {K : Fg} {xs : List PD} {vs : List V} (h : RelPs K H xs vs) : ∀ n : Nat, RelPs K H (List.replicate n xs).flatten (List.replicate n vs).flatten
  | 0 => .nil
  | n + 1 => by rw [List.replicate_succ, List.replicate_succ, List.flatten_cons, List.flatten_cons]; exact h.append (relPs_rep h n)
theorem sv_bin {op : Operator} (I : Inv X pins σ H s) (rx : RelV x v) (ry : RelV y u) (rs : RelS X.F H m S) (dx : RelD X.F H m d x) (dy : RelD X.F H m e y)
    (h : Post cA X.F m H σ W (binI op d e S) Q) : wpAny (model X.prog X.w) X.A (binaryOp op v u) (EP X pins σ Q) X.xe s := by
  unfold binI at h
  split at h
  · cases dx with | p dx => cases dx; cases dy with | p dy => cases dy; exact op_add pins s σ H _ _ v u Q I rx ry ⟨_, _, rfl, rfl, h.dat rs (.int _)⟩
  · cases dx with | p dx => cases dx; cases dy with | p dy => cases dy; exact op_sub pins s σ H _ _ v u Q I rx ry ⟨_, _, rfl, rfl, h.dat rs (.int _)⟩
  · split at h
    · rename_i i j hc
      cases dx with | p dx => cases dx; cases dy with | p dy => cases dy; exact op_mul pins s σ H _ _ v u Q I rx ry ⟨_, _, rfl, rfl, by rcases hc with hc | hc; exact .inl (by omega); exact .inr (by omega), h.dat rs (.int _)⟩
    · exact h.elim
  · split at h
    · rename_i i j hc
      cases dx with | p dx => cases dx; cases dy with | p dy => cases dy; exact op_fdiv pins s σ H _ _ v u Q I rx ry ⟨_, _, rfl, rfl, hc, h.dat rs (.int _)⟩
    · exact h.elim
  · split at h
    · rename_i i j hc
      cases dx with | p dx => cases dx; cases dy with | p dy => cases dy; exact op_mod pins s σ H _ _ v u Q I rx ry ⟨_, _, rfl, rfl, hc, h.dat rs (.int _)⟩
    · exact h.elim
  · split at h
    · rename_i i j hc
      cases dx with | p dx => cases dx; cases dy with | p dy => cases dy; exact op_pow pins s σ H _ _ v u Q I rx ry ⟨_, _, rfl, rfl, hc, h.dat rs (.int _)⟩
    · exact h.elim
  · split at h
    · rename_i a b hc
      cases dx with
      | p dx =>
        cases dx with
        | str _ h1 =>
          cases dy with
          | p dy =>
            cases dy with
            | str _ h2 =>
              refine op_add_str pins s σ H _ _ v u Q I rx ry ⟨_, _, rfl, rfl, by rw [len_mkS, len_mkS, line_eq]; exact hc, ?_⟩
              have e1 : mkS a ++ mkS b = mkS (a ++ b) := by
                show (⟨a.toArray ++ b.toArray⟩ : Str) = ⟨(a ++ b).toArray⟩
                simp
              rw [e1]
              exact h.dat rs (.str _ ⟨by simpa using hc, fun c q => (List.mem_append.mp q).elim (h1.2 c) (h2.2 c)⟩)
    · exact h.elim
  · split at h
    · rename_i a b hc
      cases dx with
      | p dx =>
        cases dx with
        | tup q1 r1 =>
          cases dy with
          | p dy =>
            cases dy with
            | tup q2 r2 =>
              have l1 := r1.length
              have l2 := r2.length
              refine op_catA pins s σ H _ _ v u Q I rx ry ⟨_, _, _, _, rfl, rfl, q1, q2, by rw [line_eq, ← l1, ← l2]; exact hc, fun z => ?_, fun _ z => ?_, fun _ _ => ?_⟩
              · subst z
                cases r1
                exact h.dat rs (.tup q2 (by simpa using r2))
              · subst z
                cases r2
                exact h.dat rs (.tup q1 (by simpa using r1))
              · exact h.newt rs (r1.append r2)
    · exact h.elim
  · split at h
    · rename_i m1 n1 _ _ a b ha hb
      split at h
      · rename_i hc
        cases dx with
        | ref hx =>
          cases dy with
          | ref hy =>
            obtain ⟨p, ep, rp⟩ := rs.ob _ _ ha
            rw [hx] at ep; cases ep
            obtain ⟨q, eq, rq⟩ := rs.ob _ _ hb
            rw [hy] at eq; cases eq
            cases rp with
            | pl h1 r1 =>
              cases rq with
              | pl h2 r2 =>
                have l1 := r1.length
                have l2 := r2.length
                exact op_cat pins s σ H _ _ v u Q I rx ry ⟨_, _, _, _, rfl, rfl, h1, h2, by rw [line_eq, ← l1, ← l2]; exact hc, h.newl rs rfl (relO_pl (r1.append r2))⟩
      · exact h.elim
    · rename_i m1 n1 _ _ a b ha hb
      split at h
      · rename_i hc
        cases dx with
        | ref hx =>
          cases dy with
          | ref hy =>
            obtain ⟨p, ep, rp⟩ := rs.ob _ _ ha
            rw [hx] at ep; cases ep
            obtain ⟨q, eq, rq⟩ := rs.ob _ _ hb
            rw [hy] at eq; cases eq
            cases rp with
            | pl h1 r1 =>
              cases rq with
              | ml h2 r2 =>
                have l1 := r1.length
                have l2 := r2.length
                exact op_cat pins s σ H _ _ v u Q I rx ry ⟨_, _, _, _, rfl, rfl, h1, h2, by rw [line_eq, ← l1, ← l2]; exact hc, h.newl rs rfl (relO_ml (r1.up.append r2))⟩
      · exact h.elim
    · rename_i m1 n1 _ _ a b ha hb
      split at h
      · rename_i hc
        cases dx with
        | ref hx =>
          cases dy with
          | ref hy =>
            obtain ⟨p, ep, rp⟩ := rs.ob _ _ ha
            rw [hx] at ep; cases ep
            obtain ⟨q, eq, rq⟩ := rs.ob _ _ hb
            rw [hy] at eq; cases eq
            cases rp with
            | ml h1 r1 =>
              cases rq with
              | pl h2 r2 =>
                have l1 := r1.length
                have l2 := r2.length
                exact op_cat pins s σ H _ _ v u Q I rx ry ⟨_, _, _, _, rfl, rfl, h1, h2, by rw [line_eq, ← l1, ← l2]; exact hc, h.newl rs rfl (relO_ml (r1.append r2.up))⟩
      · exact h.elim
    · rename_i m1 n1 _ _ a b ha hb
      split at h
      · rename_i hc
        cases dx with
        | ref hx =>
          cases dy with
          | ref hy =>
            obtain ⟨p, ep, rp⟩ := rs.ob _ _ ha
            rw [hx] at ep; cases ep
            obtain ⟨q, eq, rq⟩ := rs.ob _ _ hb
            rw [hy] at eq; cases eq
            cases rp with
            | ml h1 r1 =>
              cases rq with
              | ml h2 r2 =>
                have l1 := r1.length
                have l2 := r2.length
                exact op_cat pins s σ H _ _ v u Q I rx ry ⟨_, _, _, _, rfl, rfl, h1, h2, by rw [line_eq, ← l1, ← l2]; exact hc, h.newl rs rfl (relO_ml (r1.append r2))⟩
      · exact h.elim
    · exact h.elim
  · split at h
    · rename_i a b hc
      cases dx with
      | mt q1 r1 =>
        cases dy with
        | mt q2 r2 =>
          have l1 := r1.length
          have l2 := r2.length
          have kp : ∀ {p vs}, H p = none → Kp X.F H (upd H p (.tup vs)) := fun z => kp_upd (.inl z)
          refine op_catA pins s σ H _ _ v u Q I rx ry ⟨_, _, _, _, rfl, rfl, q1, q2, by rw [line_eq, ← l1, ← l2]; exact hc, fun z => ?_, fun _ z => ?_, fun _ _ p hp => ?_⟩
          · subst z
            cases r1
            exact h m H _ (Ext.refl) rs (.mt q2 (by simpa using r2))
          · subst z
            cases r2
            exact h m H _ (Ext.refl) rs (.mt q1 (by simpa using r1))
          · exact h m _ (.ref p) (Ext.more hp) (rs.more hp) (.mt (SqT.of upd_same) (by simpa using RelDs.mono (kp hp) [] ((r1).append (r2))))
    · exact h.elim
  · split at h
    · rename_i a b hc
      cases dx with
      | p d1 => cases d1 with | tup q1 r1 =>
        cases dy with
        | mt q2 r2 =>
          have l1 := r1.length
          have l2 := r2.length
          have kp : ∀ {p vs}, H p = none → Kp X.F H (upd H p (.tup vs)) := fun z => kp_upd (.inl z)
          refine op_catA pins s σ H _ _ v u Q I rx ry ⟨_, _, _, _, rfl, rfl, q1, q2, by rw [line_eq, ← l1, ← l2]; exact hc, fun z => ?_, fun _ z => ?_, fun _ _ p hp => ?_⟩
          · subst z
            cases r1
            exact h m H _ (Ext.refl) rs (.mt q2 (by simpa using r2))
          · subst z
            cases r2
            exact h m H _ (Ext.refl) rs (.mt q1 (by simpa using r1.up (m := m)))
          · exact h m _ (.ref p) (Ext.more hp) (rs.more hp) (.mt (SqT.of upd_same) (by simpa using RelDs.mono (kp hp) [] ((r1.up (m := m)).append (r2))))
    · exact h.elim
  · split at h
    · rename_i a b hc
      cases dx with
      | mt q1 r1 =>
        cases dy with
        | p d2 => cases d2 with | tup q2 r2 =>
          have l1 := r1.length
          have l2 := r2.length
          have kp : ∀ {p vs}, H p = none → Kp X.F H (upd H p (.tup vs)) := fun z => kp_upd (.inl z)
          refine op_catA pins s σ H _ _ v u Q I rx ry ⟨_, _, _, _, rfl, rfl, q1, q2, by rw [line_eq, ← l1, ← l2]; exact hc, fun z => ?_, fun _ z => ?_, fun _ _ p hp => ?_⟩
          · subst z
            cases r1
            exact h m H _ (Ext.refl) rs (.mt q2 (by simpa using r2.up (m := m)))
          · subst z
            cases r2
            exact h m H _ (Ext.refl) rs (.mt q1 (by simpa using r1))
          · exact h m _ (.ref p) (Ext.more hp) (rs.more hp) (.mt (SqT.of upd_same) (by simpa using RelDs.mono (kp hp) [] ((r1).append (r2.up (m := m)))))
    · exact h.elim
  · split at h
    · rename_i n k a ha
      split at h
      · rename_i hc
        obtain ⟨c1, c2, c3⟩ := hc
        cases dx with
        | ref hx =>
          cases dy with
          | p dy => cases dy with | int _ =>
            obtain ⟨p, ep, rp⟩ := rs.ob _ _ ha
            rw [hx] at ep; cases ep
            cases rp with
            | pl h1 r1 =>
              have l1 := r1.length
              exact op_rep pins s σ H _ _ v u Q I rx ry ⟨_, _, _, rfl, rfl, h1, by omega, by omega, by rw [line_eq, ← l1]; exact c3, h.newl rs rfl (relO_pl (relPs_rep r1 _))⟩
      · exact h.elim
    · exact h.elim
  · exact h.elim
theorem sv_neg (I : Inv X pins σ H s) (rx : RelV x v) (rs : RelS X.F H m S) (dx : RelD X.F H m d x)
    (h : Post cA X.F m H σ W (negI d S) Q) : wpAny (model X.prog X.w) X.A (unaryOp .USub v) (EP X pins σ Q) X.xe s := by
  unfold negI at h
  split at h
  · cases dx with | p dx => cases dx; exact un_neg pins s σ H _ v Q I rx ⟨_, rfl, h.dat rs (.int _)⟩
  · exact h.elim

/-! ### data as the library's data -/
theorem strOk_mkS {s : Cs} (h : okS s) : PyData.strOk (mkS s) = true := by
  unfold PyData.strOk mkS
  rw [← Array.all_toList]
  simp only [List.all_eq_true, decide_eq_true_eq]
  exact h.2
mutual
theorem RelP.dp {K : Fg} : ∀ {x : PD} {v : V}, RelP K H x v → Dp K.fr H v x.py ∧ x.py.canLay0 = true
  | _, _, .non => ⟨.non, rfl⟩
  | _, _, .bl b => ⟨.bl b, rfl⟩
  | _, _, .int i => ⟨.int i, rfl⟩
  | _, _, .str s h => ⟨.str _, strOk_mkS h⟩
  | _, _, .tup h r => by
    obtain ⟨a, b⟩ := RelPs.dp r
    exact ⟨.tup h a, by simp only [PD.py, PyData.canLay0]; exact b⟩
theorem RelPs.dp {K : Fg} : ∀ {xs : List PD} {vs : List V}, RelPs K H xs vs → DpAll K.fr H vs (PD.pys xs) ∧ PyData.canLayAll0 (PD.pys xs) = true
  | _, _, .nil => ⟨.nil, rfl⟩
  | _, _, .cons h r => by
    obtain ⟨a, b⟩ := RelP.dp h
    obtain ⟨a', b'⟩ := RelPs.dp r
    exact ⟨.cons a a', by simp only [PD.pys, PyData.canLayAll0, b, b', Bool.and_true]⟩
end
theorem toPy_dp (rs : RelS X.F H m S) : ∀ (k : Nat) (d : D) (v : V) (a : PyData), RelD X.F H m d v → toPy S k d = some a → Dp X.K H v a ∧ a.canLay0 = true := by
  intro k
  induction k with
  | zero =>
    intro d v a rd h
    cases d with
    | p x => cases rd with | p r => simp only [toPy, Option.some.injEq] at h; subst h; exact r.dp
    | ref n => simp [toPy] at h
    | mt xs => simp [toPy] at h
    | xv _ _ _ _ => simp [toPy] at h
  | succ k ih =>
    have all : ∀ (xs : List D) (vs : List V) (as : List PyData), RelDs X.F H m xs vs → xs.mapM (toPy S k) = some as → DpAll X.K H vs as ∧ PyData.canLayAll0 as = true := by
      intro xs
      induction xs with
      | nil =>
        intro vs as r h
        cases r
        simp only [List.mapM_nil, Option.pure_def, Option.some.injEq] at h
        subst h
        exact ⟨.nil, rfl⟩
      | cons x xs ih2 =>
        intro vs as r h
        cases r with
        | cons r1 r2 =>
          simp only [List.mapM_cons, Option.bind_eq_bind, Option.pure_def] at h
          obtain ⟨b, hb, h⟩ := Option.bind_eq_some_iff.mp h
          obtain ⟨bs, hbs, h⟩ := Option.bind_eq_some_iff.mp h
          simp only [Option.some.injEq] at h
          subst h
          obtain ⟨p1, p2⟩ := ih _ _ _ r1 hb
          obtain ⟨q1, q2⟩ := ih2 _ _ r2 hbs
          exact ⟨.cons p1 q1, by simp only [PyData.canLayAll0, p2, q2, Bool.and_true]⟩
    intro d v a rd h
    cases d with
    | p x => cases rd with | p r => simp only [toPy, Option.some.injEq] at h; subst h; exact r.dp
    | xv _ _ _ _ => simp [toPy] at h
    | ref n =>
      simp only [toPy] at h
      obtain ⟨xs, hx, h⟩ := Option.bind_eq_some_iff.mp h
      obtain ⟨as, ha, h⟩ := Option.map_eq_some_iff.mp h
      subst h
      cases rd with
      | ref hr =>
        obtain ⟨b, vs, eb, hq, r⟩ := rs.lst hx
        rw [hr] at eb; cases eb
        obtain ⟨p1, p2⟩ := all _ _ _ r ha
        exact ⟨.lst hq p1, p2⟩
    | mt xs =>
      simp only [toPy] at h
      obtain ⟨as, ha, h⟩ := Option.map_eq_some_iff.mp h
      subst h
      cases rd with
      | mt hq r =>
        obtain ⟨p1, p2⟩ := all _ _ _ r ha
        exact ⟨.tup hq p1, p2⟩

theorem Post.lift {o : Option Bool} {b : Bool} (e : o = some b) (h : Post cA X.F m H σ W (lift o S) Q) : Post cA X.F m H σ W (ret1 (.bl b) S) Q := by
  subst e; exact h
theorem lift_some {o : Option Bool} (h : Post cA X.F m H σ W (lift o S) Q) : ∃ b, o = some b := by
  cases o with
  | none => exact h.elim
  | some b => exact ⟨b, rfl⟩

theorem eqI_dp (rs : RelS X.F H m S) (dx : RelD X.F H m d x) (dy : RelD X.F H m e y) {b : Bool} (h : eqI d e S = some b) : ∃ a c, Dp X.K H x a ∧ Dp X.K H y c ∧ a.canLay0 = true ∧ c.canLay0 = true ∧ min a.depth c.depth ≤ 64 ∧ PyData.eqv a c = b := by
  unfold eqI at h
  split at h
  · rename_i a c ha hc
    split at h
    · rename_i hd
      obtain ⟨p1, p2⟩ := toPy_dp rs _ _ _ _ dx ha
      obtain ⟨q1, q2⟩ := toPy_dp rs _ _ _ _ dy hc
      exact ⟨a, c, p1, q1, p2, q2, by omega, Option.some.inj h⟩
    · cases h
  · cases h
/-! ### is -/
theorem isI_non {b : Bool} (dx : RelD X.F H m d x) (h : isI d (.p .non) = some b) : decide (x = .non) = b := by
  cases d with
  | p q =>
    cases dx with
    | p r => cases r <;> simp only [isI, Option.some.injEq] at h <;> subst h <;> simp
  | ref n => cases dx; simp only [isI, Option.some.injEq] at h; subst h; simp
  | mt xs => cases dx; simp only [isI, Option.some.injEq] at h; subst h; simp
  | xv _ _ _ _ => cases dx; simp only [isI, Option.some.injEq] at h; subst h; simp
end
end PH

set_option maxHeartbeats 4000000
/-! PH, part D: comparisons, places, parts, built-in functions and methods by values. -/
namespace PySem
open PySem.Spec PyProof.Rows SeqAt AutoSeq1
theorem str_eq_declines_dict (b : Str) (u : Tok) (l : Addr) (c : Value) (es : Array DictEntry) (n : Nat) (dd : Option Addr) (sl : Array (Option Value)) :
    Meets (Builtin.«str.__eq__» ⟨[.str b u, .ref l], []⟩) (fun _ R s => s.heap.get? l = some { cls := c, dict := dd, data := .dict es n, slots := sl } ∧ R (.ok (.ret .notImplemented)) s) :=
  .of_wp fun prog w A R s h => by obtain ⟨hp, g, d, tk, os⟩ := s; obtain ⟨hl, h⟩ := h; wp_walk using wpAny_loadPart' hl, wpAny_load hl; exact ⟨_, rfl, h⟩
theorem dict_eq_declines_str (l : Addr) (es : Array DictEntry) (n : Nat) (dd : Option Addr) (sl : Array (Option Value)) (b : Str) (u : Tok) :
    Meets (Builtin.«dict.__eq__» ⟨[.ref l, .str b u], []⟩) (fun _ R s => s.heap.get? l = some { cls := .type "dict", dict := dd, data := .dict es n, slots := sl } ∧ R (.ok (.ret .notImplemented)) s) :=
  .of_wp fun prog w A R s h => by obtain ⟨hp, g, d, tk, os⟩ := s; obtain ⟨hl, h⟩ := h; have f1 := F.sub_str_dict; wp_walk using wpAny_loadPart' hl; exact ⟨_, rfl, h⟩
/-- a text and a dict are not equal -/
theorem eqAt_str_dict {A : Around} {s : Shared} {l : Addr} {es : Array DictEntry} {n : Nat} {dd : Option Addr} {sl : Array (Option Value)} (b : Str) (u : Tok) (ho : s.heap.get? l = some { cls := .type "dict", dict := dd, data := .dict es n, slots := sl }) (hu : A.units < cLine) : SeqAt.EqAt A s (.str b u) (.ref l) false := fun prog w E Q h => by
  unfold eqBool
  refine wpAny_holding ?_
  refine wpAny_ite_split (fun hab => absurd (eq_of_beq hab) nofun) (fun _ => ?_)
  refine wpAny_bind ?_
  exact SeqAt.rc_eq_decline_or (k := false) (typeIs_str s b u) ⟨_, ho, rfl⟩ (by decide) F.sub_dict_str F.slot_str_eq F.slot_dict_eq_refl
    (fun _ hq => call_meets F.slot_str_eq (typeIs_str s b u) F.entry_str_eq (F.args_str_eq_2 _ _) (str_eq_declines_dict b u l (.type "dict") es n dd sl) ⟨ho, hq⟩)
    (fun _ hq => call_meets F.slot_dict_eq_refl ⟨_, ho, rfl⟩ F.entry_dict_eq (F.args_dict_eq_2 _ _) (dict_eq_declines_str l es n dd sl b u) ⟨ho, hq⟩)
    (fun _ hq => wpAny_of_eq (rfl : isSame (.str b u) (.ref l) = pure false) hq) (.inr hu) (wpAny_truthy_bool h)
end PySem
namespace PH
open L2 PySem PySem.Spec PyProof.Rows
section
variable {cA : Ca} {X : Cx} {pins : List (Addr × Obj)} {σ : L2.St} {H : Hp} {s : Shared} {m : List Addr} {S : Sto} {W : WX} {Q : VK} {x y z : V} {u v t : Value} {d e : D} {k : Nat}

theorem eq_go {b : Bool} (hu : X.A.units + 64 < cLine) (I : Inv X pins σ H s) (rx : RelV x v) (ry : RelV y u) (rs : RelS X.F H m S) (dx : RelD X.F H m d x) (dy : RelD X.F H m e y) (h : eqI d e S = some b)
    (q : Q (.bl b) H) : wpAny (model X.prog X.w) X.A (compareOp .Eq v u) (EP X pins σ Q) X.xe s := by
  obtain ⟨a, c, p1, q1, p2, q2, hd, rfl⟩ := eqI_dp rs dx dy h
  obtain ⟨as, r1⟩ := Dp.reads I a x v p1 rx
  obtain ⟨bs, r2⟩ := Dp.reads I c y u q1 ry
  exact SeqAt.compareEq_reads r1 r2 p2 q2 (by omega) ⟨.bl _, H, I, rfl, q⟩
theorem ne_go {b : Bool} (hu : X.A.units + 64 < cLine) (I : Inv X pins σ H s) (rx : RelV x v) (ry : RelV y u) (rs : RelS X.F H m S) (dx : RelD X.F H m d x) (dy : RelD X.F H m e y) (h : eqI d e S = some b)
    (q : Q (.bl (!b)) H) : wpAny (model X.prog X.w) X.A (compareOp .NotEq v u) (EP X pins σ Q) X.xe s := by
  obtain ⟨a, c, p1, q1, p2, q2, hd, rfl⟩ := eqI_dp rs dx dy h
  obtain ⟨as, r1⟩ := Dp.reads I a x v p1 rx
  obtain ⟨bs, r2⟩ := Dp.reads I c y u q1 ry
  exact SeqAt.compareNe_reads r1 r2 p2 q2 (by omega) ⟨.bl _, H, I, rfl, q⟩
theorem eqv_pys {K : Fg} : ∀ (ys : List PD) (x : PD), (PD.pys ys).any (fun z => PyData.eqv z x.py) = ys.any fun y => PD.eqv y x
  | [], _ => rfl
  | y :: ys, x => by
    have ih := eqv_pys (K := K) ys x
    show (PyData.eqv y.py x.py || (PD.pys ys).any fun z => PyData.eqv z x.py) = (PD.eqv y x || ys.any fun y => PD.eqv y x)
    rw [ih]; rfl
theorem strs_its {K : Fg} : ∀ {ys : List PD} {vs : List V} {its : List Value}, RelPs K H ys vs → Vals vs its → ys.all isStrP = true → ∀ y ∈ its, ∃ b t, y = .str b t
  | _, _, _, .nil, .nil, _, y, hy => nomatch hy
  | x :: xs, _, _, .cons h r, .cons q t, ha, y, hy => by
    simp only [List.all_cons, Bool.and_eq_true] at ha
    rcases List.mem_cons.mp hy with rfl | hy
    · cases x with
      | str s => cases h; obtain ⟨t, rfl⟩ := q; exact ⟨_, _, rfl⟩
      | _ => exact absurd ha.1 (by simp [isStrP])
    · exact strs_its r t ha.2 y hy
theorem isTuple_of {h : Heap} {a : Addr} {its : Array Value} (hT : IsTup h a its) : h.IsTuple a its := by
  obtain ⟨o, ho, hc, n, hd⟩ := hT
  exact ⟨o, ho, hc, n, hd⟩
theorem in_go {b : Bool} (neg : Bool) (hu : X.A.units + 65 < cLine) (I : Inv X pins σ H s) (rx : RelV x v) (ry : RelV y u) (rs : RelS X.F H m S) (dx : RelD X.F H m d x) (dy : RelD X.F H m e y) (h : inI d e S = some b)
    (q : Q (.bl (if neg then !b else b)) H) : wpAny (model X.prog X.w) X.A (compareOp (if neg then .NotIn else .In) v u) (EP X pins σ Q) X.xe s := by
  unfold inI at h
  split at h
  · rename_i c z
    cases dx with
    | p dx =>
      cases dx with
      | str _ h1 =>
        cases dy with
        | p dy =>
          cases dy with
          | str _ h2 =>
            have hb := (Option.some.inj h)
            cases neg with
            | false => exact op_in_sign pins s σ H _ _ v u Q I rx ry ⟨c, mkS z, rfl, rfl, by rw [tl_mkS, hb]; exact q⟩
            | true => exact op_notIn_sign pins s σ H _ _ v u Q I rx ry ⟨c, mkS z, rfl, rfl, by rw [tl_mkS, hb]; exact q⟩
  · rename_i x' ys
    split at h
    · rename_i hd
      cases dx with
      | p dx =>
        cases dy with
        | p dy =>
          obtain ⟨p1, p2⟩ := dx.dp
          obtain ⟨q1, q2⟩ := dy.dp
          obtain ⟨as, r1⟩ := Dp.reads I _ x v p1 rx
          obtain ⟨bs, r2⟩ := Dp.reads I _ y u q1 ry
          have hm : min (PyData.depthAll (PD.pys ys)) x'.py.depth ≤ x'.py.depth := Nat.min_le_right _ _
          have hd' : x'.py.depth ≤ 64 := hd
          have q2' : PyData.canLayAll0 (PD.pys ys) = true := by simpa only [PD.py, PyData.canLay0] using q2
          have hb := Option.some.inj h
          cases neg with
          | false => exact SeqAt.in_tuple_reads r2 r1 q2' p2 (by omega) ⟨.bl _, H, I, rfl, by rw [eqv_pys (K := X.F), hb]; exact q⟩
          | true => exact SeqAt.notIn_tuple_reads r2 r1 q2' p2 (by omega) ⟨.bl _, H, I, rfl, by rw [eqv_pys (K := X.F), hb]; exact q⟩
    · cases h
  · rename_i x' n
    split at h
    · rename_i ys hn
      split at h
      · rename_i hd
        cases dx with
        | p dx =>
          cases dy with
          | ref ha =>
            obtain ⟨a, ea, ro⟩ := rs.ob _ _ hn
            rw [ha] at ea; cases ea
            cases ro with
            | pl h1 r1 =>
              obtain ⟨p1, p2⟩ := dx.dp
              obtain ⟨q1, q2⟩ := r1.dp
              obtain ⟨as, r1⟩ := Dp.reads I _ x v p1 rx
              obtain ⟨bs, r2⟩ := Dp.reads I (.list (PD.pys ys)) _ u (.lst (SqL.of h1) q1) ry
              have hm : min (PyData.depthAll (PD.pys ys)) x'.py.depth ≤ x'.py.depth := Nat.min_le_right _ _
              have hd' : x'.py.depth ≤ 64 := hd
              have hb := Option.some.inj h
              cases neg with
              | false => exact SeqAt.in_list_reads r2 r1 q2 p2 (by omega) ⟨.bl _, H, I, rfl, by rw [eqv_pys (K := X.F), hb]; exact q⟩
              | true => exact SeqAt.notIn_list_reads r2 r1 q2 p2 (by omega) ⟨.bl _, H, I, rfl, by rw [eqv_pys (K := X.F), hb]; exact q⟩
      · cases h
    · cases h
  · rename_i n ys
    cases dy with
    | p dy =>
      cases dy with
      | tup hq r =>
        cases dx with
        | ref ha =>
          split at h
          · rename_i kvs hn
            obtain ⟨a, ea, ro⟩ := rs.ob _ _ hn
            rw [ha] at ea; cases ea
            cases ro with
            | dc h1 rk =>
              split at h
              · rename_i hall
                obtain rfl := Option.some.inj h
                cases rx
                obtain ⟨its, rv, hT, hz⟩ := I.tuple hq
                cases ry
                have hu' : X.A.in1.units < cLine := by show X.A.units + 1 < cLine; omega
                obtain ⟨_, _, vs, _, dd⟩ := dk_of I.hok h1
                obtain ⟨o, es, ep, ho, ⟨hcls, _, _⟩, hdat, _⟩ := dd
                obtain ⟨oc, od, odt, osl⟩ := o
                simp only at hcls hdat
                subst hcls hdat
                have he : ∀ y, y ∈ its.toArray → SeqAt.EqAt X.A.in1 s y _ ((fun _ => false) y) := fun y hy => by
                  obtain ⟨b, t, rfl⟩ := PH.strs_its r rv hall y (by simpa using hy)
                  exact PySem.eqAt_str_dict b t ho hu'
                have anyF : its.toArray.any (fun _ => false) = false := by simp
                cases neg with
                | false => exact SeqAt.in_tupleAt (fun _ => false) (PH.isTuple_of hT) he (by rw [anyF]; exact ⟨.bl _, H, I, rfl, q⟩)
                | true => exact SeqAt.notIn_tupleAt (fun _ => false) (PH.isTuple_of hT) he (by rw [anyF]; exact ⟨.bl _, H, I, rfl, q⟩)
              · cases h
          · split at h
            · rename_i a' ha'
              split at h
              · rename_i hd
                obtain ⟨p1, p2⟩ := toPy_dp rs _ _ _ _ (.ref ha) ha'
                obtain ⟨q1, q2⟩ := (RelP.tup hq r : RelP X.F H (.tup ys) _).dp
                obtain ⟨as, r1⟩ := Dp.reads I _ _ v p1 rx
                obtain ⟨bs, r2⟩ := Dp.reads I _ _ u q1 ry
                have hm : min (PyData.depthAll (PD.pys ys)) a'.depth ≤ a'.depth := Nat.min_le_right _ _
                have q2' : PyData.canLayAll0 (PD.pys ys) = true := by simpa only [PD.py, PyData.canLay0] using q2
                have hb := Option.some.inj h
                cases neg with
                | false => exact SeqAt.in_tuple_reads r2 r1 q2' p2 (by omega) ⟨.bl _, H, I, rfl, by rw [hb]; exact q⟩
                | true => exact SeqAt.notIn_tuple_reads r2 r1 q2' p2 (by omega) ⟨.bl _, H, I, rfl, by rw [hb]; exact q⟩
              · cases h
            · cases h
  · cases h
theorem is_go {b : Bool} (neg : Bool) (I : Inv X pins σ H s) (rx : RelV x v) (ry : RelV y u) (dx : RelD X.F H m d x) (dy : RelD X.F H m e y) (h : isI d e = some b)
    (q : Q (.bl (if neg then !b else b)) H) : wpAny (model X.prog X.w) X.A (compareOp (if neg then .IsNot else .Is) v u) (EP X pins σ Q) X.xe s := by
  have non : e = .p .non → wpAny (model X.prog X.w) X.A (compareOp (if neg then .IsNot else .Is) v u) (EP X pins σ Q) X.xe s := by
    rintro rfl
    have hb := isI_non dx h
    cases dy with
    | p dy =>
      cases dy
      cases neg with
      | false => exact op_isN pins s σ H _ _ v u Q I rx ry ⟨rfl, by rw [hb]; exact q⟩
      | true => exact op_notN pins s σ H _ _ v u Q I rx ry ⟨rfl, by rw [hb]; exact q⟩
  unfold isI at h
  split at h
  · exact non rfl
  · exact non rfl
  · rename_i b1 c1
    cases dx with
    | p dx =>
      cases dx
      cases dy with
      | p dy =>
        cases dy
        have hb := Option.some.inj h
        cases neg with
        | false => exact op_isBl pins s σ H _ _ v u Q I rx ry ⟨_, _, rfl, rfl, by rw [hb]; exact q⟩
        | true => exact op_notBl pins s σ H _ _ v u Q I rx ry ⟨_, _, rfl, rfl, by rw [hb]; exact q⟩
  · cases h
theorem lt_go {b : Bool} {p q : PD} (hu : X.A.units + 64 < cLine) (I : Inv X pins σ H s) (rx : RelV x v) (ry : RelV y u) (dx : RelP X.F H p x) (dy : RelP X.F H q y) (h : ltP p q = some b)
    (hq : Q (.bl b) H) : wpAny (model X.prog X.w) X.A (compareOp .Lt v u) (EP X pins σ Q) X.xe s := by
  unfold ltP at h
  split at h
  · rename_i hc
    obtain ⟨p1, p2⟩ := dx.dp
    obtain ⟨q1, q2⟩ := dy.dp
    obtain ⟨as, r1⟩ := Dp.reads I _ x v p1 rx
    obtain ⟨bs, r2⟩ := Dp.reads I _ y u q1 ry
    have hm : min p.py.depth q.py.depth ≤ p.py.depth := Nat.min_le_left _ _
    have hd : p.py.depth ≤ 64 := hc.2.2
    have hb := Option.some.inj h
    have hn : p.py ≠ .none := fun z => by cases p <;> first | exact hc.2.1 rfl | (simp [PD.py] at z)
    exact PySem.W.rcLt_alike _ _ X.A s v u _ _ r1 r2 hc.1 hn (by omega) X.prog X.w X.xe _ ⟨.bl _, H, I, rfl, by rw [show PySem.W.dataLt p.py q.py = b from hb]; exact hq⟩
  · cases h
theorem gt_go {b : Bool} {p q : PD} (hu : X.A.units + 64 < cLine) (I : Inv X pins σ H s) (rx : RelV x v) (ry : RelV y u) (dx : RelP X.F H p x) (dy : RelP X.F H q y) (h : gtP p q = some b)
    (hq : Q (.bl b) H) : wpAny (model X.prog X.w) X.A (compareOp .Gt v u) (EP X pins σ Q) X.xe s := by
  unfold gtP at h
  split at h
  · rename_i hc
    obtain ⟨p1, p2⟩ := dx.dp
    obtain ⟨q1, q2⟩ := dy.dp
    obtain ⟨as, r1⟩ := Dp.reads I _ x v p1 rx
    obtain ⟨bs, r2⟩ := Dp.reads I _ y u q1 ry
    have hm : min p.py.depth q.py.depth ≤ p.py.depth := Nat.min_le_left _ _
    have hd : p.py.depth ≤ 64 := hc.2.2
    have hb := Option.some.inj h
    have hn : p.py ≠ .none := fun z => by cases p <;> first | exact hc.2.1 rfl | (simp [PD.py] at z)
    exact PySem.W.rcGt_alike _ _ X.A s v u _ _ r1 r2 hc.1 hn (by omega) X.prog X.w X.xe _ ⟨.bl _, H, I, rfl, by rw [show PySem.W.dataLt q.py p.py = b from hb]; exact hq⟩
  · cases h
theorem sv_cmp (op : CmpOp) (hu : X.A.units + 65 < cLine) (I : Inv X pins σ H s) (rx : RelV x v) (ry : RelV y u) (rs : RelS X.F H m S) (dx : RelD X.F H m d x) (dy : RelD X.F H m e y)
    (h : Post cA X.F m H σ W (cmpI op d e S) Q) : wpAny (model X.prog X.w) X.A (compareOp op v u) (EP X pins σ Q) X.xe s := by
  have mp : ∀ {o : Option Bool} {b : Bool}, o.map (!·) = some b → ∃ c, o = some c ∧ b = !c := fun {o b} q => by
    obtain ⟨c, h1, h2⟩ := Option.map_eq_some_iff.mp q
    exact ⟨c, h1, h2.symm⟩
  cases op with
  | Eq =>
    simp only [cmpI] at h
    obtain ⟨b, e⟩ := lift_some h
    exact eq_go (by omega) I rx ry rs dx dy e ((Post.lift e h).dat rs (.bl b))
  | NotEq =>
    simp only [cmpI] at h
    obtain ⟨b, e⟩ := lift_some h
    obtain ⟨c, e2, rfl⟩ := mp e
    exact ne_go (by omega) I rx ry rs dx dy e2 ((Post.lift e h).dat rs (.bl _))
  | In =>
    simp only [cmpI] at h
    obtain ⟨b, e⟩ := lift_some h
    exact in_go false hu I rx ry rs dx dy e ((Post.lift e h).dat rs (.bl b))
  | NotIn =>
    simp only [cmpI] at h
    obtain ⟨b, e⟩ := lift_some h
    obtain ⟨c, e2, rfl⟩ := mp e
    exact in_go true hu I rx ry rs dx dy e2 ((Post.lift e h).dat rs (.bl _))
  | Is =>
    simp only [cmpI] at h
    obtain ⟨b, e⟩ := lift_some h
    exact is_go false I rx ry dx dy e ((Post.lift e h).dat rs (.bl b))
  | IsNot =>
    simp only [cmpI] at h
    obtain ⟨b, e⟩ := lift_some h
    obtain ⟨c, e2, rfl⟩ := mp e
    exact is_go true I rx ry dx dy e2 ((Post.lift e h).dat rs (.bl _))
  | Lt =>
    simp only [cmpI] at h
    split at h
    · cases dx with
      | p dx =>
        cases dy with
        | p dy =>
          obtain ⟨b, e⟩ := lift_some h
          exact lt_go (by omega) I rx ry dx dy e ((Post.lift e h).dat rs (.bl b))
    · exact h.elim
  | Gt =>
    simp only [cmpI] at h
    split at h
    · cases dx with | p dx => cases dx; cases dy with | p dy => cases dy; exact op_gt pins s σ H _ _ v u Q I rx ry ⟨_, _, rfl, rfl, h.dat rs (.bl _)⟩
    · cases dx with
      | p dx =>
        cases dy with
        | p dy =>
          obtain ⟨b, e⟩ := lift_some h
          exact gt_go (by omega) I rx ry dx dy e ((Post.lift e h).dat rs (.bl b))
    · exact h.elim
  | LtE =>
    simp only [cmpI] at h
    split at h
    · cases dx with | p dx => cases dx; cases dy with | p dy => cases dy; exact op_le pins s σ H _ _ v u Q I rx ry ⟨_, _, rfl, rfl, h.dat rs (.bl _)⟩
    · exact h.elim
  | GtE =>
    simp only [cmpI] at h
    split at h
    · cases dx with | p dx => cases dx; cases dy with | p dy => cases dy; exact op_ge pins s σ H _ _ v u Q I rx ry ⟨_, _, rfl, rfl, h.dat rs (.bl _)⟩
    · exact h.elim

/-! ### places -/
theorem atI_lt {α : Type} {xs : List α} {i : Int} {c : α} (h : atI xs i = some c) : ∃ j, xs[j]? = some c ∧ ixN xs.length i = some j := by
  unfold atI at h
  obtain ⟨j, h1, h2⟩ := Option.bind_eq_some_iff.mp h
  exact ⟨j, h2, h1⟩
theorem atI_rel {α β : Type} {xs : List α} {ys : List β} {i : Int} {c : α} {b : β} {j : Nat} (hl : xs.length = ys.length) (hj : ixN xs.length i = some j) (hb : ys[j]? = some b) : atI ys i = some b := by
  unfold atI
  rw [← hl, hj]
  exact hb
theorem sv_ix (rs : RelS X.F H m S) (dx : RelD X.F H m d x) (dy : RelD X.F H m e y)
    (h : Post cA X.F m H σ W (ixI d e S) Q) : rIx X.K x y H Q := by
  unfold ixI at h
  split at h
  · split at h
    · rename_i i c hc
      cases dx with
      | p dx =>
        cases dx with
        | str z hs =>
          cases dy with
          | p dy =>
            cases dy
            obtain ⟨j, h1, h2⟩ := atI_lt hc
            exact .inr (.inr ⟨_, _, c, rfl, rfl, by rw [len_mkS, line_eq]; exact hs.1, hc, h.dat rs (.str [c] ⟨by simp [LINE], fun a ha => by rw [List.mem_singleton.mp ha]; exact hs.2 c (List.mem_of_getElem? h1)⟩)⟩)
    · exact h.elim
  · split at h
    · rename_i i c hc
      cases dx with
      | p dx =>
        cases dx with
        | tup hq r =>
          cases dy with
          | p dy =>
            cases dy
            obtain ⟨j, h1, h2⟩ := atI_lt hc
            obtain ⟨w, hw, rw⟩ := r.get h1
            exact .inr (.inl ⟨_, _, _, w, rfl, rfl, hq, atI_rel (c := c) r.length h2 hw, h.dat rs rw⟩)
    · exact h.elim
  · split at h
    · rename_i i c hc
      cases dx with
      | mt hq r =>
        cases dy with
        | p dy =>
          cases dy
          obtain ⟨j, h1, h2⟩ := atI_lt hc
          obtain ⟨w, hw, rw⟩ := r.get h1
          exact .inr (.inl ⟨_, _, _, w, rfl, rfl, hq, atI_rel (c := c) r.length h2 hw, h m H w .refl rs rw⟩)
    · exact h.elim
  · split at h
    · rename_i xs hx
      split at h
      · rename_i i c hc
        cases dx with
        | ref ha =>
          obtain ⟨a, vs, ea, hq, r⟩ := rs.lst hx
          rw [ha] at ea; cases ea
          cases dy with
          | p dy =>
            cases dy
            obtain ⟨j, h1, h2⟩ := atI_lt hc
            obtain ⟨w, hw, rw⟩ := r.get h1
            exact .inl ⟨_, _, _, w, rfl, rfl, hq, atI_rel (c := c) r.length h2 hw, h m H w .refl rs rw⟩
      · exact h.elim
    · exact h.elim
  · exact h.elim

/-! ### parts -/
theorem mem_cut {α : Type} {xs : List α} {lo hi : Option Int} {c : α} (h : c ∈ cut xs lo hi) : c ∈ xs := List.mem_of_mem_drop (List.mem_of_mem_take h)
theorem cut_len {α : Type} (xs : List α) (lo hi : Option Int) : (cut xs lo hi).length ≤ xs.length := by
  unfold cut
  rw [List.length_take, List.length_drop]
  omega
theorem RelPs.cut {K : Fg} {xs : List PD} {vs : List V} (r : RelPs K H xs vs) (lo hi : Option Int) : RelPs K H (cut xs lo hi) (cutV vs lo hi) := by
  unfold PH.cut cutV
  rw [r.length]
  exact (r.drop _).take _
theorem RelDs.cut {K : Fg} {xs : List D} {vs : List V} (r : RelDs K H m xs vs) (lo hi : Option Int) : RelDs K H m (cut xs lo hi) (cutV vs lo hi) := by
  unfold PH.cut cutV
  rw [r.length]
  exact (r.drop _).take _
def rSlX (K : PySem.W.Frag) : V → Option Int → Option Int → Hp → VK → Prop := fun x lo hi H Q => rSlL K x lo hi H Q ∨ rSlA K x lo hi H Q ∨ rSlS x lo hi H Q
theorem sl_any : SlR X (rSlX X.K) := sl_list.or (sl_tupA.or sl_str)
theorem sv_sl {lo hi : Option Int} (rs : RelS X.F H m S) (dx : RelD X.F H m d x) (h : Post cA X.F m H σ W (slI d lo hi S) Q) : rSlX X.K x lo hi H Q := by
  unfold slI at h
  split at h
  · rename_i z
    cases dx with
    | p dx =>
      cases dx with
      | str _ hs =>
        refine .inr (.inr ⟨_, rfl, by rw [len_mkS, line_eq]; exact hs.1, ?_⟩)
        have e : cutS (mkS z) lo hi = mkS (cut z lo hi) := by
          unfold cutS cut
          rw [tl_mkS, len_mkS]
          rfl
        rw [e]
        exact h.dat rs (.str _ ⟨Nat.le_trans (cut_len _ _ _) hs.1, fun c q => hs.2 c (mem_cut q)⟩)
  · rename_i xs
    cases dx with
    | p dx =>
      cases dx with
      | tup hq r =>
        refine .inr (.inl ⟨_, _, rfl, hq, fun q => ?_, fun _ => h.newt rs (r.cut lo hi)⟩)
        have e : cut xs lo hi = xs := by
          unfold cut
          rw [r.length, q.1, q.2, List.drop_zero, Nat.sub_zero, ← r.length, List.take_length]
        rw [e] at h
        exact h.dat rs (.tup hq r)
  · split at h
    · rename_i n xs hn
      obtain ⟨a, ea, ro⟩ := rs.ob _ _ hn
      cases dx with
      | ref ha =>
        rw [ha] at ea; cases ea
        cases ro with
        | pl h1 r1 => exact .inl ⟨_, _, rfl, SqL.of h1, h.newl rs rfl (relO_pl (r1.cut lo hi))⟩
    · rename_i n xs hn
      obtain ⟨a, ea, ro⟩ := rs.ob _ _ hn
      cases dx with
      | ref ha =>
        rw [ha] at ea; cases ea
        cases ro with
        | fz h1 r1 => exact .inl ⟨_, _, rfl, h1.seq, h.newl rs rfl (relO_pl (r1.cut lo hi))⟩
    · rename_i n xs hn
      obtain ⟨a, ea, ro⟩ := rs.ob _ _ hn
      cases dx with
      | ref ha =>
        rw [ha] at ea; cases ea
        cases ro with
        | ml h1 r1 => exact .inl ⟨_, _, rfl, SqL.of h1, h.newl rs rfl (relO_ml (r1.cut lo hi))⟩
    · exact h.elim
  · exact h.elim

/-! ### displays -/
theorem sv_tup {ds : List D} {vs : List V} (rs : RelS X.F H m S) (r : RelDs X.F H m ds vs) (h : Post cA X.F m H σ W (.ok (mkT ds) S) Q) : ∀ p, H p = none → Q (.ref p) (upd H p (.tup vs)) := fun p hp => by
  refine h m _ (.ref p) (Ext.more hp) (rs.more hp) ?_
  unfold mkT
  have kp : Kp X.F H (upd H p (.tup vs)) := kp_upd (.inl hp)
  split
  · rename_i ys e
    exact .p (.tup (SqT.of upd_same) ((r.down e).mono kp))
  · have := r.mono kp []
    exact .mt (SqT.of upd_same) (by simpa using this)
theorem sv_lst {ds : List D} {vs : List V} (rs : RelS X.F H m S) (r : RelDs X.F H m ds vs) (h : Post cA X.F m H σ W (new (mkL ds) S) Q) : ∀ p, H p = none → Q (.ref p) (upd H p (.lst vs)) := by
  unfold mkL at h
  split at h
  · rename_i ys e
    exact h.newl rs rfl (relO_pl (r.down e))
  · exact h.newl rs rfl (relO_ml r)
end
end PH

set_option maxHeartbeats 4000000
/-! PH, part E: built-in functions, methods, isinstance, stores by values. -/
namespace PySem.W
open PySem PySem.Calls PyProof.Rows
/-- what is collected of a list or a tuple; the heap behind it -/
theorem collect_seqE {prog : Program} {w : World} {A : Around} {E : Value → Shared → Prop} {s : Shared} {Q : List Value → Shared → Prop} (it : Addr) {T : String} {o : Obj} {vs : List Value} {n : Nat} (hT : T = "list" ∨ T = "tuple")
    (ho : s.heap.get? it = some o) (hc : o.cls = .type T) (hd : o.data = .seq vs.toArray n) (hz : vs.length ≤ sizeLine)
    (hQ : Q vs { s with heap := (s.heap.push (seqObj "list" #[] 0)).update s.heap.objs.size (Obj.mapSeq (· ++ vs.toArray)) }) : wpAny (model prog w) A (collect (.ref it)) Q E s := by
  unfold collect
  refine wpAny_bind (wpAny_runValue (codeAny_builtin F.entry_proto_collect ?_)); rw [Around.under_plainId F.plain_proto_collect _]
  show wpAny _ A.in1 (newList [] >>= fun l => again (.builtin "list.__iadd__" ⟨[l, .ref it], []⟩)) _ _ s
  refine wpAny_bind (wpAny_newObj_type (wpAny_pure ⟨plainId_quiet F.plain_list_iadd _, codeAny_builtin F.entry_list_iadd ?_⟩)); rw [Around.under_plainId F.plain_list_iadd _]
  show wpAny _ A.in1 (Builtin.List.listExtendWith (.ref s.heap.objs.size) (.ref it) (.ref s.heap.objs.size)) _ _ { s with heap := s.heap.push (seqObj "list" #[] 0) }
  have hS : (s.heap.push (seqObj "list" #[] 0)).get? s.heap.objs.size = some { cls := .type "list", data := .seq #[] 0 } := Heap.get?_push_size _ rfl
  have hS2 := Heap.get?_update_self (Obj.mapSeq (· ++ vs.toArray)) hS rfl
  have fin' : wpAny (model prog w) A (match Value.ref s.heap.objs.size with
      | Value.ref a => do match (← load a).data with | Data.seq xs _ => pure xs.toList | _ => unsupported "internal:collect"
      | _ => unsupported "internal:collect") Q E { s with heap := (s.heap.push (seqObj "list" #[] 0)).update s.heap.objs.size (Obj.mapSeq (· ++ vs.toArray)) } := by
    show wpAny _ A (load s.heap.objs.size >>= _) _ _ _
    refine wpAny_bind (wpAny_load hS2 (wpAny_pure ?_))
    show Q ((#[] : Array Value) ++ vs.toArray).toList _
    rw [show ((#[] : Array Value) ++ vs.toArray).toList = vs by simp]
    exact hQ
  refine wpAny_mono (wpAny_extend_seq (hsz := by rw [List.size_toArray]; exact hz) (A := A) (R := fun r s' => r = .ok (.ret (.ref s.heap.objs.size)) ∧ s' = { s with heap := (s.heap.push (seqObj "list" #[] 0)).update s.heap.objs.size (Obj.mapSeq (· ++ vs.toArray)) })
    (s := { s with heap := s.heap.push (seqObj "list" #[] 0) }) _ it _ 0 hT hS (Heap.get?_push_of_some _ ho) hc hd ⟨rfl, rfl⟩) (fun fin s' h => ?_) (fun e s' h => absurd h.1 (by simp))
  cases fin with
  | done f => obtain ⟨e, rfl⟩ := h; cases e; exact fin'
  | again c' => exact ⟨h.1, codeAny_mono h.2 fun r s'' hr => by obtain ⟨rfl, rfl⟩ := hr; exact fin'⟩
/-- sorted of a list or a tuple that reads as data -/
theorem sorted_seq {prog : Program} {w : World} {A : Around} {E : Value → Shared → Prop} {s : Shared} {β : Type} {enc : β → PyData} {R : Value → β → Prop} {bs : List β} {vs : List Value} {it : Addr} {T : String} {o : Obj} {n : Nat} {Q : Value → Shared → Prop}
    (hT : T = "list" ∨ T = "tuple") (ho : s.heap.get? it = some o) (hc : o.cls = .type T) (hd : o.data = .seq vs.toArray n)
    (e : EachIs R vs bs) (er : EachIs (fun v b => ∃ as, Reads s.heap v (enc b) as) vs bs) (hal : AllAlike (bs.map enc)) (hk : Sortable (bs.map enc)) (hL : bs.length ≤ sizeLine) (hu : ∀ b, b ∈ bs → A.units + 2 + (enc b).depth < cLine)
    (h : ∀ (h' : Heap) (a : Addr) (out : List Value) (q : Nat), (∀ b u, s.heap.get? b = some u → h'.get? b = some u) → s.heap.objs.size ≤ a → h'.get? a = some (seqObj "list" out.toArray q) → out.length = bs.length →
      EachIs R out (bs.mergeSort (dataLe false enc)) → Q (.ref a) { s with heap := h' }) : wpAny (model prog w) A (call (.builtin "sorted") [.ref it]) Q E s := by
  have hz : vs.length ≤ sizeLine := by rw [e.length]; exact hL
  refine call_function_entry_kw (kw := []) kind_sorted plain_sorted entry_sorted (args_sorted1 _) ?_
  unfold Builtin.«sorted»
  refine wpAny_bind (m := checkCount "sorted" 1 1 _) (wpAny_pure (wpAny_bind ?_))
  refine collect_seqE it hT ho hc hd hz ?_
  refine wpAny_bind (wpAny_newList ?_ hz)
  generalize hh1 : (s.heap.push (seqObj "list" #[] 0)).update s.heap.objs.size (Obj.mapSeq (· ++ vs.toArray)) = h1
  have hat : (h1.push (seqObj "list" vs.toArray 0)).get? h1.objs.size = some (seqObj "list" vs.toArray 0) := Heap.get?_push_size _ rfl
  have hle : s.heap.objs.size ≤ h1.objs.size := by rw [← hh1, Heap.size_update, size_push']; exact Nat.le_succ _
  have k1 : ∀ b u, s.heap.get? b = some u → h1.get? b = some u := fun b u q => by
    rw [← hh1, Heap.get?_update_ne _ _ _ _ (Nat.ne_of_lt (Heap.lt_size q)), Heap.get?_push_ne _ _ _ (Nat.ne_of_lt (Heap.lt_size q))]; exact q
  have k2 : ∀ b u, s.heap.get? b = some u → (h1.push (seqObj "list" vs.toArray 0)).get? b = some u := fun b u q => Heap.get?_push_of_some _ (k1 b u q)
  have old : ∀ b u, s.heap.get? b = some u → (sortingHeap (h1.push (seqObj "list" vs.toArray 0)) h1.objs.size vs).get? b = some u := fun b u q =>
    sortingHeap_old (Nat.ne_of_lt (Nat.lt_of_lt_of_le (Heap.lt_size q) hle)) (k2 b u q)
  refine wpAny_bind (wpAny_holding (wpAny_call_entry_kw (kw := []) slot_list_sort ⟨_, hat, rfl⟩ entry_list_sort ?_ (args_list_sort _)))
  have er' : EachIs (fun v b => ∃ as, Reads (sortingHeap (h1.push (seqObj "list" vs.toArray 0)) h1.objs.size vs) v (enc b) as) vs bs := er.mono fun _ _ ⟨as, r⟩ => ⟨as, PyProof.Rows.Reads.keeps old r⟩
  show wpAny (model prog w) A.in1.in1 (Builtin.«list.sort» ⟨[.ref h1.objs.size], []⟩) _ _ { s with heap := h1.push (seqObj "list" vs.toArray 0) }
  refine list_sort_vals (s := { s with heap := h1.push (seqObj "list" vs.toArray 0) }) (κ := dataKind (sortingHeap (h1.push (seqObj "list" vs.toArray 0)) h1.objs.size vs) (bs.map enc)) hat
    (SortsAt.data (s := { s with heap := sortingHeap (h1.push (seqObj "list" vs.toArray 0)) h1.objs.size vs }) (each_map (R := fun v d => ∃ as, Reads (sortingHeap (h1.push (seqObj "list" vs.toArray 0)) h1.objs.size vs) v d as) enc er') hal hk
      (bound_map fun b hb => by have q := hu b hb; show A.units + 1 + 1 + _ < _; omega)) hz ⟨.none, rfl, wpAny_pure ?_⟩
  obtain ⟨q, hq⟩ := PyProof.Rows.sortedHeap_at (vs := vs) (out := (sortVals (dataKind (sortingHeap (h1.push (seqObj "list" vs.toArray 0)) h1.objs.size vs) (bs.map enc)) false vs vs).toArray) hat
  refine ⟨_, rfl, h _ _ _ q (fun b u z => ?_) hle hq (by rw [sortVals_length false rfl]; exact e.length) (sortVals_data false e er' hal)⟩
  rw [PyProof.Rows.sortedHeap_old (Nat.ne_of_lt (Nat.lt_of_lt_of_le (Heap.lt_size z) hle)) (Heap.lt_size (k2 b u z))]
  exact k2 b u z
/-- sorted of what is walked, if it reads as data -/
theorem sorted_src {prog : Program} {w : World} {A : Around} {E : Value → Shared → Prop} {s : Shared} {β : Type} {enc : β → PyData} {R : Value → β → Prop} {bs : List β} {vs : List Value} {it d : Addr} {T : String} {P : Nat → Value → Prop} {OK : Heap → Prop} {Q : Value → Shared → Prop} (K : KdlSrc prog w T it d vs.length P OK) (hh : A.handled = none) (hok : OK s.heap) (hP : ∀ j v, P j v → vs[j]? = some v)
    (e : EachIs R vs bs) (er : EachIs (fun v b => ∃ as, Reads s.heap v (enc b) as) vs bs) (hal : AllAlike (bs.map enc)) (hk : Sortable (bs.map enc)) (hL : bs.length ≤ sizeLine) (hu : ∀ b, b ∈ bs → A.units + 2 + (enc b).depth < cLine)
    (h : ∀ (h1 h' : Heap) (out : List Value) (q : Nat) tk, (∀ b u, s.heap.get? b = some u → h1.get? b = some u) → (∀ b u, h1.get? b = some u → h'.get? b = some u) → h'.get? h1.objs.size = some (seqObj "list" out.toArray q) → out.length = bs.length →
      EachIs R out (bs.mergeSort (dataLe false enc)) → Q (.ref h1.objs.size) { s with heap := h', toks := tk }) : wpAny (model prog w) A (call (.builtin "sorted") [.ref it]) Q E s := by
  have hz : vs.length ≤ sizeLine := by rw [e.length]; exact hL
  refine call_function_entry_kw (kw := []) kind_sorted plain_sorted entry_sorted (args_sorted1 _) ?_
  unfold Builtin.«sorted»
  refine wpAny_bind (m := checkCount "sorted" 1 1 _) (wpAny_pure (wpAny_bind ?_))
  refine kdu_collect (A := A.in1) K hh hok hz fun h1 tk acc k1 hacc => ?_
  have eacc : acc.toList = vs := by
    apply List.ext_getElem?
    intro j
    by_cases hj : j < vs.length
    · have hs : j < acc.size := by rw [hacc.1]; exact hj
      rw [hP j acc[j] (hacc.2 j _ (Array.getElem?_eq_getElem hs)), Array.getElem?_toList]
      exact Array.getElem?_eq_getElem hs
    · rw [List.getElem?_eq_none (by rw [Array.length_toList, hacc.1]; omega), List.getElem?_eq_none (by omega)]
  rw [eacc]
  refine wpAny_bind (wpAny_newList ?_ hz)
  have hat : (h1.push (seqObj "list" vs.toArray 0)).get? h1.objs.size = some (seqObj "list" vs.toArray 0) := Heap.get?_push_size _ rfl
  have k3 : ∀ b u, h1.get? b = some u → (h1.push (seqObj "list" vs.toArray 0)).get? b = some u := fun b u q => Heap.get?_push_of_some _ q
  have k2 : ∀ b u, s.heap.get? b = some u → (h1.push (seqObj "list" vs.toArray 0)).get? b = some u := fun b u q => Heap.get?_push_of_some _ (k1 b u q)
  have old : ∀ b u, s.heap.get? b = some u → (sortingHeap (h1.push (seqObj "list" vs.toArray 0)) h1.objs.size vs).get? b = some u := fun b u q =>
    sortingHeap_old (Nat.ne_of_lt (Heap.lt_size (k1 b u q))) (k2 b u q)
  refine wpAny_bind (wpAny_holding (wpAny_call_entry_kw (kw := []) slot_list_sort ⟨_, hat, rfl⟩ entry_list_sort ?_ (args_list_sort _)))
  have er' : EachIs (fun v b => ∃ as, Reads (sortingHeap (h1.push (seqObj "list" vs.toArray 0)) h1.objs.size vs) v (enc b) as) vs bs := er.mono fun _ _ ⟨as, r⟩ => ⟨as, PyProof.Rows.Reads.keeps old r⟩
  show wpAny (model prog w) A.in1.in1 (Builtin.«list.sort» ⟨[.ref h1.objs.size], []⟩) _ _ { s with heap := h1.push (seqObj "list" vs.toArray 0), toks := tk }
  refine list_sort_vals (s := { s with heap := h1.push (seqObj "list" vs.toArray 0), toks := tk }) (κ := dataKind (sortingHeap (h1.push (seqObj "list" vs.toArray 0)) h1.objs.size vs) (bs.map enc)) hat
    (SortsAt.data (s := { s with heap := sortingHeap (h1.push (seqObj "list" vs.toArray 0)) h1.objs.size vs, toks := tk }) (each_map (R := fun v d => ∃ as, Reads (sortingHeap (h1.push (seqObj "list" vs.toArray 0)) h1.objs.size vs) v d as) enc er') hal hk
      (bound_map fun b hb => by have q := hu b hb; show A.units + 1 + 1 + _ < _; omega)) hz ⟨.none, rfl, wpAny_pure ?_⟩
  obtain ⟨q, hq⟩ := PyProof.Rows.sortedHeap_at (vs := vs) (out := (sortVals (dataKind (sortingHeap (h1.push (seqObj "list" vs.toArray 0)) h1.objs.size vs) (bs.map enc)) false vs vs).toArray) hat
  refine ⟨_, rfl, h h1 _ _ q tk k1 (fun b u z => ?_) hq (by rw [sortVals_length false rfl]; exact e.length) (sortVals_data false e er' hal)⟩
  rw [PyProof.Rows.sortedHeap_old (Nat.ne_of_lt (Heap.lt_size z)) (Heap.lt_size (k3 b u z))]
  exact k3 b u z
section
variable {prog : Program} {w : World} {d : Addr} {es : Array DictEntry} {ep : Nat}
/-- a dict's entries, walked -/
theorem kdl_raw (hd : (d == sysModules) = false) : KdlSrc prog w "dict" d d es.size (fun i v => ∃ hi : i < es.size, v = es[i].key) (fun h => h.DictRaw d es ep) where
  type := fun _ hm => hm.typeIs
  there := fun h hm => ⟨Heap.DictRaw.lt_size hm, Heap.DictRaw.lt_size hm⟩
  keep := fun _ _ hm hk => hm.at fun o q => hk d (.inl rfl) o q
  notList := by decide
  notTuple := by decide
  hint := fun _ _ _ _ hm hq => kdl_hint_dict hm.typeIs hq
  iter := fun _ _ hh hm => ⟨_, _, (fun _ _ hq => wpAny_pyIter_dict_raw hd hm hq), Walks.rawKeys hh _ d (Nat.ne_of_lt (Heap.DictRaw.lt_size hm)) es ep, ⟨⟨_, Heap.get?_push_size _ rfl, rfl, rfl⟩, hm.at fun o q => Heap.get?_push_of_some _ q⟩⟩
end
end PySem.W

namespace PH
open L2 PySem PySem.Spec PyProof.Rows
def Bf.nm : Bf → Str
  | .len => "len" | .int => "int" | .ord => "ord" | .str => "str" | .tuple => "tuple" | .list => "list" | .sorted => "sorted" | .all => "all" | .any => "any" | .sum => "sum" | .max => "max" | .min => "min" | .abs => "abs"
def Bf.val : Bf → Value
  | .len => .builtin "len" | .int => .type "int" | .ord => .builtin "ord" | .str => .type "str" | .tuple => .type "tuple" | .list => .type "list" | .sorted => .builtin "sorted" | .all => .builtin "all" | .any => .builtin "any" | .sum => .builtin "sum"
  | .max => .builtin "max" | .min => .builtin "min" | .abs => .builtin "abs"
theorem Bf.boot : ∀ b : Bf, bootBuiltins b.nm = some b.val := fun b => by cases b <;> decide +kernel
theorem Bf.ne : ∀ b : Bf, b.nm ≠ "__name__" ∧ (b.nm == ("__debug__" : Str)) = false := fun b => by cases b <;> decide +kernel
section
variable {cA : Ca} {X : Cx} {pins : List (Addr × Obj)} {σ : L2.St} {H : Hp} {s : Shared} {m : List Addr} {S : Sto} {W : WX} {Q : VK} {x y z : V} {u v t : Value} {d e : D} {k : Nat}
theorem RelDs.one {K : Fg} {d : D} {vs : List V} (r : RelDs K H m [d] vs) : ∃ v, vs = [v] ∧ RelD K H m d v := by
  cases r with | cons h r => cases r; exact ⟨_, rfl, h⟩
theorem RelDs.two {K : Fg} {d e : D} {vs : List V} (r : RelDs K H m [d, e] vs) : ∃ v w, vs = [v, w] ∧ RelD K H m d v ∧ RelD K H m e w := by
  cases r with | cons h r => cases r with | cons h' r => cases r; exact ⟨_, _, rfl, h, h'⟩
theorem pl_of {n : Nat} {xs : List PD} {v : V} (rs : RelS X.F H m S) (hn : S[n]? = some (.pl xs)) (rd : RelD X.F H m (.ref n) v) : ∃ a vs, v = .ref a ∧ H a = some (.lst vs) ∧ RelPs X.F H xs vs ∧ m[n]? = some a := by
  cases rd with
  | ref ha =>
    obtain ⟨a, ea, ro⟩ := rs.ob _ _ hn
    rw [ha] at ea; cases ea
    cases ro with | pl h r => exact ⟨_, _, rfl, h, r, ha⟩
theorem data_of {xs : List PD} {v : V} (rs : RelS X.F H m S) (h : dataOf d S = some xs) (rd : RelD X.F H m d v) : ∃ a vs, v = .ref a ∧ RelPs X.F H xs vs ∧ (SqL X.K H a vs ∨ (SqT X.K H a vs ∧ RelP X.F H (.tup xs) v)) := by
  unfold dataOf at h
  split at h
  · cases h
    cases rd with | p q => cases q with | tup hq r => exact ⟨_, _, rfl, r, .inr ⟨hq, .tup hq r⟩⟩
  · split at h
    · rename_i hn
      cases h
      obtain ⟨a, vs, rfl, h1, r, _⟩ := pl_of rs hn rd
      exact ⟨_, _, rfl, r, .inl (SqL.of h1)⟩
    · rename_i hn
      cases h
      cases rd with
      | ref ha =>
        obtain ⟨a, ea, ro⟩ := rs.ob _ _ hn
        rw [ha] at ea; cases ea
        cases ro with | fz h r => exact ⟨_, _, rfl, r, .inl h.seq⟩
    · cases h
  · cases h
theorem bools_of {K : Fg} : ∀ {xs : List PD} {bs : List Bool} {vs : List V}, RelPs K H xs vs → boolsOf xs = some bs → vs = bs.map V.bl
  | [], _, _, .nil, e => by simp only [boolsOf, Option.some.injEq] at e; subst e; rfl
  | .bl b :: xs, bs, _, .cons h r, e => by
    simp only [boolsOf] at e
    obtain ⟨cs, h1, rfl⟩ := Option.map_eq_some_iff.mp e
    cases h
    rw [bools_of r h1]; rfl
  | .non :: _, _, _, .cons _ _, e => by simp [boolsOf] at e
  | .int _ :: _, _, _, .cons _ _, e => by simp [boolsOf] at e
  | .str _ :: _, _, _, .cons _ _, e => by simp [boolsOf] at e
  | .tup _ :: _, _, _, .cons _ _, e => by simp [boolsOf] at e
theorem ints_of {K : Fg} : ∀ {xs : List PD} {bs : List Int} {vs : List V}, RelPs K H xs vs → intsOf xs = some bs → vs = bs.map V.int
  | [], _, _, .nil, e => by simp only [intsOf, Option.some.injEq] at e; subst e; rfl
  | .int b :: xs, bs, _, .cons h r, e => by
    simp only [intsOf] at e
    obtain ⟨cs, h1, rfl⟩ := Option.map_eq_some_iff.mp e
    cases h
    rw [ints_of r h1]; rfl
  | .non :: _, _, _, .cons _ _, e => by simp [intsOf] at e
  | .bl _ :: _, _, _, .cons _ _, e => by simp [intsOf] at e
  | .str _ :: _, _, _, .cons _ _, e => by simp [intsOf] at e
  | .tup _ :: _, _, _, .cons _ _, e => by simp [intsOf] at e
theorem strs_of {K : Fg} : ∀ {xs : List PD} {ss : List Cs} {vs : List V}, RelPs K H xs vs → strsOf xs = some ss → vs = (ss.map mkS).map V.str ∧ ∀ s ∈ ss, okS s
  | [], _, _, .nil, e => by simp only [strsOf, Option.some.injEq] at e; subst e; exact ⟨rfl, fun _ h => nomatch h⟩
  | .str b :: xs, ss, _, .cons h r, e => by
    simp only [strsOf] at e
    obtain ⟨cs, h1, rfl⟩ := Option.map_eq_some_iff.mp e
    cases h with
    | str _ hs =>
      obtain ⟨e2, h2⟩ := strs_of r h1
      rw [e2]
      exact ⟨rfl, fun s hm => (List.mem_cons.mp hm).elim (fun q => q ▸ hs) (h2 s)⟩
  | .non :: _, _, _, .cons _ _, e => by simp [strsOf] at e
  | .bl _ :: _, _, _, .cons _ _, e => by simp [strsOf] at e
  | .int _ :: _, _, _, .cons _ _, e => by simp [strsOf] at e
  | .tup _ :: _, _, _, .cons _ _, e => by simp [strsOf] at e

/-! ### sorted -/
theorem each_of {K : Fg} {R : Value → PD → Prop} : ∀ {xs : List PD} {vs : List V} {us : List Value}, RelPs K H xs vs → Vals vs us → (∀ u v x, RelV v u → RelP K H x v → R u x) → PySem.W.EachIs R us xs
  | _, _, _, .nil, .nil, _ => .nil
  | _, _, _, .cons h r, .cons q t, f => .cons (f _ _ _ q h) (each_of r t f)
theorem of_each {K : Fg} : ∀ {us : List Value} {xs : List PD}, PySem.W.EachIs (fun u x => ∃ v, RelV v u ∧ RelP K H x v) us xs → ∃ vs, Vals vs us ∧ RelPs K H xs vs
  | _, _, .nil => ⟨[], .nil, .nil⟩
  | _, _, .cons ⟨v, q, h⟩ r => let ⟨vs, q', h'⟩ := of_each r; ⟨v :: vs, .cons q q', .cons h h'⟩
theorem isTup1_py {x : PD} (h : isTup1 x = true) : ∃ y r, x.py = .tuple (y :: r) := by
  cases x with
  | tup xs =>
    cases xs with
    | nil => simp [isTup1] at h
    | cons y r => exact ⟨y.py, PD.pys r, by simp only [PD.py, PD.pys]⟩
  | _ => simp [isTup1] at h
theorem isFlat_py {x : PD} (h : isFlat x = true) : x.py ≠ .none ∧ ∀ xs, x.py ≠ .tuple xs := by
  cases x <;> simp [isFlat, PD.py] at h ⊢
theorem sv_sorted {xs ys : List PD} {a : Addr} {vs : List V} (hu : X.A.units + 100 < cLine) (I : Inv X pins σ H s) (r : RelPs X.F H xs vs) (hq : SqL X.K H a vs ∨ SqT X.K H a vs) (hs : srtI xs = some ys)
    (hQ : ∀ p ws, H p = none → RelPs X.F H ys ws → Q (.ref p) (upd H p (.lst ws))) : wpAny (model X.prog X.w) X.A (call (.builtin "sorted") [.ref a]) (EP X pins σ Q) X.xe s := by
  unfold srtI at hs
  split at hs
  · rename_i hc
    obtain ⟨h1, h2, h3⟩ := hc
    cases hs
    obtain ⟨its, T, o, n, rv, hT, ho, hcl, hd, hz⟩ : ∃ (its : List Value) (T : String) (o : Obj) (n : Nat), Vals vs its ∧ (T = "list" ∨ T = "tuple") ∧ s.heap.get? a = some o ∧ o.cls = .type T ∧ o.data = .seq its.toArray n ∧ vs.length ≤ sizeLine := by
      rcases hq with hq | hq
      · obtain ⟨its, r, ⟨o, n, ho, hc, _, hd⟩, hz⟩ := I.list hq
        exact ⟨its, _, o, n, r, .inl rfl, ho, hc, hd, hz⟩
      · obtain ⟨its, r, ⟨o, ho, hc, n, hd⟩, hz⟩ := I.tuple hq
        exact ⟨its, _, o, n, r, .inr rfl, ho, hc, hd, hz⟩
    have hl : xs.length ≤ sizeLine := by rw [r.length]; exact hz
    refine PySem.W.sorted_seq (R := fun u x => ∃ v, RelV v u ∧ RelP X.F H x v) (enc := PD.py) (bs := xs) hT ho hcl hd (each_of r rv fun u v x q h => ⟨v, q, h⟩) (each_of r rv fun u v x q h => Dp.reads I _ v u h.dp.1 q) (fun p hp q hq' => ?_) ?_ hl (fun b hb => ?_) fun h' p out q k hp hat hlen he => ?_
    · obtain ⟨x, hx, rfl⟩ := List.mem_map.mp hp
      obtain ⟨y, hy, rfl⟩ := List.mem_map.mp hq'
      exact h1 x hx y hy
    · rcases h2 with h2 | h2
      · refine .inl fun p hp => ?_
        obtain ⟨x, hx, rfl⟩ := List.mem_map.mp hp
        exact isTup1_py (h2 x hx)
      · refine .inr fun p hp => ?_
        obtain ⟨x, hx, rfl⟩ := List.mem_map.mp hp
        exact isFlat_py (h2 x hx)
    · have := h3 b hb
      have : b.py.depth ≤ 64 := this
      omega
    · obtain ⟨ws, q1, q2⟩ := of_each he
      exact ⟨.ref p, _, I.laid (t' := s.toks) (o := .lst ws) k hp ⟨by rw [q1.length, hlen]; exact hl, out, q, q1, hat⟩, rfl, hQ p ws (I.hok.fresh hp) q2⟩
  · cases hs

theorem Keyed.raw {a : Addr} {o : Obj} {es : Array DictEntry} {ep : Nat} {ks : List PD} {ws : List V} (k : Keyed X H s a o es ep ks ws) : s.heap.DictRaw a es ep := ⟨o, k.get, k.ex, k.dat⟩
/-- list(d) -/
theorem sv_listD {a : Addr} {o : Obj} {es : Array DictEntry} {ep : Nat} {ks : List PD} {ws : List V} (hc : X.calm = true) (I : Inv X pins σ H s) (k : Keyed X H s a o es ep ks ws) (hQ : ∀ p, H p = none → Q (.ref p) (upd H p (.lst ws))) :
    wpAny (model X.prog X.w) X.A (call (.type "list") [.ref a]) (EP X pins σ Q) X.xe s := by
  obtain ⟨z1, z2⟩ := k.size
  refine PySem.W.kdl_call (PySem.W.kdl_raw k.sys) (I.ok.hd hc) k.raw (by rw [z1]; exact k.line) fun h' tk acc c' hk hD hacc => ?_
  have hv : acc.toList = es.toList.map (·.key) := by
    apply List.ext_getElem?
    intro j
    by_cases hj : j < es.size
    · have hs : j < acc.size := by rw [hacc.1]; exact hj
      obtain ⟨hi, e⟩ := hacc.2 j acc[j] (Array.getElem?_eq_getElem hs)
      rw [Array.getElem?_toList, Array.getElem?_eq_getElem hs, e]
      simp [hi]
    · rw [List.getElem?_eq_none (by rw [Array.length_toList, hacc.1]; omega), List.getElem?_eq_none (by simp; omega)]
  exact ⟨.ref s.heap.objs.size, _, I.laid (t' := tk) (o := .lst ws) hk (Nat.le_refl _) ⟨by rw [← z2, z1]; exact k.line, acc.toList, c', by rw [hv]; exact k.vals, by rw [Array.toArray_toList]; exact hD⟩, rfl, hQ _ (I.hok.fresh (Nat.le_refl _))⟩
/-- sorted(d) -/
theorem sv_sortedD {a : Addr} {o : Obj} {es : Array DictEntry} {ep : Nat} {ks ys : List PD} {ws : List V} (hc : X.calm = true) (hu : X.A.units + 100 < cLine) (I : Inv X pins σ H s) (k : Keyed X H s a o es ep ks ws) (hs : srtI ks = some ys)
    (hQ : ∀ p ws, H p = none → RelPs X.F H ys ws → Q (.ref p) (upd H p (.lst ws))) : wpAny (model X.prog X.w) X.A (call (.builtin "sorted") [.ref a]) (EP X pins σ Q) X.xe s := by
  unfold srtI at hs
  split at hs
  · rename_i hcc
    obtain ⟨h1, h2, h3⟩ := hcc
    cases hs
    have K1 : PySem.W.KdlSrc X.prog X.w "dict" a a (es.toList.map (·.key)).length (fun i v => ∃ hi : i < es.size, v = es[i].key) (fun h => h.DictRaw a es ep) := by
      have e : (es.toList.map (·.key)).length = es.size := by simp
      rw [e]; exact PySem.W.kdl_raw k.sys
    refine PySem.W.sorted_src (R := fun u x => ∃ v, RelV v u ∧ RelP X.F H x v) (enc := PD.py) (bs := ks) (vs := es.toList.map (·.key)) K1 (I.ok.hd hc) k.raw (fun j v ⟨hi, e⟩ => by simp [e, hi]) (each_of k.rel k.vals fun u v x q h => ⟨v, q, h⟩)
      (each_of k.rel k.vals fun u v x q h => Dp.reads I _ v u h.dp.1 q) (fun p hp q hq' => ?_) ?_ k.line (fun b hb => ?_) fun h1' h' out q tk k1 kk hat hlen he => ?_
    · obtain ⟨x, hx, rfl⟩ := List.mem_map.mp hp
      obtain ⟨y, hy, rfl⟩ := List.mem_map.mp hq'
      exact h1 x hx y hy
    · rcases h2 with h2 | h2
      · refine .inl fun p hp => ?_
        obtain ⟨x, hx, rfl⟩ := List.mem_map.mp hp
        exact isTup1_py (h2 x hx)
      · refine .inr fun p hp => ?_
        obtain ⟨x, hx, rfl⟩ := List.mem_map.mp hp
        exact isFlat_py (h2 x hx)
    · have := h3 b hb
      have : b.py.depth ≤ 64 := this
      omega
    · obtain ⟨zs, q1, q2⟩ := of_each he
      have I1 : Inv X pins σ H { s with heap := h1', toks := tk } := I.kept k1
      exact ⟨.ref h1'.objs.size, _, I1.laid (t' := tk) (o := .lst zs) kk (Nat.le_refl _) ⟨by rw [q1.length, hlen]; exact k.line, out, q, q1, hat⟩, rfl, hQ _ zs (I1.hok.fresh (Nat.le_refl _)) q2⟩
  · cases hs

/-! ### built-in functions -/
theorem numS_eq (i : Int) : (Str.ofString (toString i) : Str) = mkS (numS i) := by rw [Str.ofString_eq_toList]; rfl
theorem okS_num {i : Int} (h : i.natAbs.log2 < 1920) : okS (numS i) := by
  have dg : ∀ c ∈ Nat.toDigits 10 i.natAbs, c.toNat < 1114112 := fun c hc => by
    have := c.valid
    simp only [UInt32.isValidChar, Nat.isValidChar] at this
    show c.val.toNat < _
    omega
  have len : (Nat.toDigits 10 i.natAbs).length ≤ 2000 := by
    have h2 : i.natAbs < 2 ^ 1920 := by
      rcases Nat.eq_zero_or_pos i.natAbs with z | z
      · rw [z]; exact Nat.pow_pos (by decide)
      · exact (Nat.log2_lt (by omega)).mp h
    have h3 : i.natAbs < 10 ^ 2000 := Nat.lt_of_lt_of_le h2 (by decide +kernel)
    have := TL.numL_len (n := i.natAbs) (k := 2000) (by decide) h3
    simpa [TL.numL] using this
  unfold okS numS
  cases i with
  | ofNat n =>
    have e : toString (Int.ofNat n) = toString n := rfl
    rw [e, Nat.toString_eq_repr, Nat.repr]
    simp only [String.toList_ofList, List.length_map]
    refine ⟨Nat.le_trans len (by decide), fun c hc => ?_⟩
    obtain ⟨b, hb, rfl⟩ := List.mem_map.mp hc
    exact dg b hb
  | negSucc n =>
    have e : toString (Int.negSucc n) = "-" ++ toString (n + 1) := rfl
    rw [e, Nat.toString_eq_repr, Nat.repr]
    simp only [String.toList_append, String.toList_ofList, List.map_append, List.length_append, List.length_map]
    refine ⟨?_, fun c hc => ?_⟩
    · have l2 : (Nat.toDigits 10 (n + 1)).length ≤ 2000 := len
      have : "-".toList.length = 1 := rfl
      unfold LINE
      omega
    · rcases List.mem_append.mp hc with hc | hc
      · have : "-".toList.map Char.toNat = [45] := rfl
        rw [this] at hc
        rw [List.mem_singleton.mp hc]; decide
      · obtain ⟨b, hb, rfl⟩ := List.mem_map.mp hc
        exact dg b hb
theorem ints_pd : ∀ {xs : List PD} {bs : List Int}, intsOf xs = some bs → xs = bs.map .int
  | [], _, e => by simp only [intsOf, Option.some.injEq] at e; subst e; rfl
  | .int b :: xs, bs, e => by
    simp only [intsOf] at e
    obtain ⟨cs, h1, rfl⟩ := Option.map_eq_some_iff.mp e
    rw [ints_pd h1]; rfl
  | .non :: _, _, e => by simp [intsOf] at e
  | .bl _ :: _, _, e => by simp [intsOf] at e
  | .str _ :: _, _, e => by simp [intsOf] at e
  | .tup _ :: _, _, e => by simp [intsOf] at e
theorem pys_ints : ∀ bs : List Int, PD.pys (bs.map .int) = bs.map PyData.int
  | [] => rfl
  | b :: bs => by
    have ih := pys_ints bs
    show PyData.int b :: PD.pys (bs.map .int) = PyData.int b :: bs.map PyData.int
    rw [ih]
theorem depth_ints : ∀ bs : List Int, PyData.depthAll (bs.map PyData.int) ≤ 1
  | [] => by simp [PyData.depthAll]
  | b :: bs => by
    have ih := depth_ints bs
    simp only [List.map_cons, PyData.depthAll, PyData.depth]
    omega
theorem alike_ints1 (bs : List Int) : PySem.W.AlikeAll (bs.map PyData.int) := by
  refine ⟨fun x hx y hy => ?_, fun x hx => ?_⟩
  · obtain ⟨a, _, rfl⟩ := List.mem_map.mp hx
    obtain ⟨b, _, rfl⟩ := List.mem_map.mp hy
    rfl
  · obtain ⟨a, _, rfl⟩ := List.mem_map.mp hx
    exact fun h => nomatch h
theorem sv_max1 {i : Int} {r : List Int} {a : Addr} {vs : List V} (hc : X.calm = true) (hu : X.A.units + 100 < cLine) (I : Inv X pins σ H s) (rr : RelPs X.F H ((i :: r).map .int) vs) (hq : SqL X.K H a vs ∨ SqT X.K H a vs) (h : Q (.int (r.foldl max i)) H) :
    wpAny (model X.prog X.w) X.A (call (.builtin "max") [.ref a]) (EP X pins σ Q) X.xe s := by
  have dp := rr.dp.1
  rw [pys_ints] at dp
  have fin : ∀ (v : Value) (h' : Heap) (tk : Nat) (bs : List Addr), Reads h' v (PySem.W.maxD (.int i) (r.map PyData.int)) bs → (∀ b o, s.heap.get? b = some o → h'.get? b = some o) → EP X pins σ Q v { s with heap := h', toks := tk } := fun v h' tk bs rd hk => by
    rw [PySem.W.maxD_ints] at rd
    cases rd
    exact ⟨.int _, H, I.kept hk, ⟨_, rfl⟩, h⟩
  have dl := depth_ints (i :: r)
  rcases hq with hq | hq
  · obtain ⟨its, rv, hl, _⟩ := I.list hq
    obtain ⟨as, ra⟩ := Dp.readsAll I _ _ _ dp rv
    exact PySem.W.max_list_data (I.ok.hd hc) hl.isList (by simpa using ra) (alike_ints1 (i :: r)) (by simp only [List.map_cons] at dl; omega) fun j v h' tk bs _ rd hk => fin v h' tk bs rd hk
  · obtain ⟨its, rv, hl, _⟩ := I.tuple hq
    obtain ⟨as, ra⟩ := Dp.readsAll I _ _ _ dp rv
    exact PySem.W.max_tuple_data (I.ok.hd hc) (isTuple_of hl) (by simpa using ra) (alike_ints1 (i :: r)) (by simp only [List.map_cons] at dl; omega) fun j v h' tk bs _ rd hk => fin v h' tk bs rd hk
theorem sv_min1 {i : Int} {r : List Int} {a : Addr} {vs : List V} (hc : X.calm = true) (hu : X.A.units + 100 < cLine) (I : Inv X pins σ H s) (rr : RelPs X.F H ((i :: r).map .int) vs) (hq : SqL X.K H a vs ∨ SqT X.K H a vs) (h : Q (.int (r.foldl min i)) H) :
    wpAny (model X.prog X.w) X.A (call (.builtin "min") [.ref a]) (EP X pins σ Q) X.xe s := by
  have dp := rr.dp.1
  rw [pys_ints] at dp
  have fin : ∀ (v : Value) (h' : Heap) (tk : Nat) (bs : List Addr), Reads h' v (PySem.W.minD (.int i) (r.map PyData.int)) bs → (∀ b o, s.heap.get? b = some o → h'.get? b = some o) → EP X pins σ Q v { s with heap := h', toks := tk } := fun v h' tk bs rd hk => by
    rw [PySem.W.minD_ints] at rd
    cases rd
    exact ⟨.int _, H, I.kept hk, ⟨_, rfl⟩, h⟩
  have dl := depth_ints (i :: r)
  rcases hq with hq | hq
  · obtain ⟨its, rv, hl, _⟩ := I.list hq
    obtain ⟨as, ra⟩ := Dp.readsAll I _ _ _ dp rv
    exact PySem.W.min_list_data (I.ok.hd hc) hl.isList (by simpa using ra) (alike_ints1 (i :: r)) (by simp only [List.map_cons] at dl; omega) fun j v h' tk bs _ rd hk => fin v h' tk bs rd hk
  · obtain ⟨its, rv, hl, _⟩ := I.tuple hq
    obtain ⟨as, ra⟩ := Dp.readsAll I _ _ _ dp rv
    exact PySem.W.min_tuple_data (I.ok.hd hc) (isTuple_of hl) (by simpa using ra) (alike_ints1 (i :: r)) (by simp only [List.map_cons] at dl; omega) fun j v h' tk bs _ rd hk => fin v h' tk bs rd hk
theorem sv_blt (b : Bf) {ds : List D} {vs : List V} {us : List Value} (hc : X.calm = true) (hu : X.A.units + 100 < cLine) (I : Inv X pins σ H s) (rv : Vals vs us) (rs : RelS X.F H m S) (rd : RelDs X.F H m ds vs) (h : Post cA X.F m H σ W (bltI b ds S) Q) :
    wpAny (model X.prog X.w) X.A (call b.val us) (EP X pins σ Q) X.xe s := by
  unfold bltI at h
  split at h
  · obtain ⟨v, rfl, r1⟩ := rd.one
    cases r1 with
    | p r1 =>
      cases r1 with
      | str z hs => exact call_len_str pins s σ H _ us Q I rv ⟨_, rfl, by rw [len_mkS, line_eq]; exact hs.1, by rw [len_mkS]; exact h.dat rs (.int _)⟩
  · obtain ⟨v, rfl, r1⟩ := rd.one
    cases r1 with
    | p r1 => cases r1 with | tup hq r => exact call_len_seq pins s σ H _ us Q I rv ⟨_, _, rfl, .inr hq, by rw [← r.length]; exact h.dat rs (.int _)⟩
  · obtain ⟨v, rfl, r1⟩ := rd.one
    cases r1 with
    | mt hq r => exact call_len_seq pins s σ H _ us Q I rv ⟨_, _, rfl, .inr hq, by rw [← r.length]; exact h.dat rs (.int _)⟩
  · split at h
    · rename_i hx
      obtain ⟨v, rfl, r1⟩ := rd.one
      cases r1 with
      | ref ha =>
        obtain ⟨a, ws, ea, hq, r⟩ := rs.lst hx
        rw [ha] at ea; cases ea
        exact call_len_seq pins s σ H _ us Q I rv ⟨_, _, rfl, .inl hq, by rw [← r.length]; exact h.dat rs (.int _)⟩
    · split at h
      · rename_i ks hk
        obtain ⟨v, rfl, r1⟩ := rd.one
        obtain ⟨u, rfl, ru⟩ := vals1 rv
        exact sv_dlen I rs ru r1 hk fun t s' _ I' => ⟨.int _, H, I', ⟨t, rfl⟩, h.dat rs (.int _)⟩
      · exact h.elim
  · obtain ⟨v, rfl, r1⟩ := rd.one
    cases r1 with | p r1 => cases r1; exact call_int1 pins s σ H _ us Q I rv (.inl ⟨_, rfl, h.dat rs (.int _)⟩)
  · obtain ⟨v, rfl, r1⟩ := rd.one
    cases r1 with | p r1 => cases r1; exact call_int1 pins s σ H _ us Q I rv (.inr ⟨_, rfl, h.dat rs (.int _)⟩)
  · rename_i c
    obtain ⟨v, rfl, r1⟩ := rd.one
    cases r1 with
    | p r1 => cases r1 with | str _ hs => exact call_ord pins s σ H _ us Q I rv ⟨_, rfl, rfl, h.dat rs (.int _)⟩
  · split at h
    · rename_i i hi
      obtain ⟨v, rfl, r1⟩ := rd.one
      cases r1 with
      | p r1 => cases r1; exact call_str_int pins s σ H _ us Q I rv ⟨_, rfl, hi, by rw [numS_eq]; exact h.dat rs (.str _ (okS_num hi))⟩
    · exact h.elim
  · split at h
    · rename_i xs hx
      obtain ⟨v, rfl, r1⟩ := rd.one
      obtain ⟨a, ws, e1, r, hq⟩ := data_of rs hx r1; subst e1
      rcases hq with hq | ⟨hq, q2⟩
      · exact call_tuple_of pins s σ H _ us Q I rv ⟨a, ws, rfl, .inl ⟨hq, h.newt rs r⟩⟩
      · exact call_tuple_of pins s σ H _ us Q I rv ⟨a, ws, rfl, .inr ⟨hq, h.dat rs q2⟩⟩
    · exact h.elim
  · split at h
    · rename_i xs hx
      obtain ⟨v, rfl, r1⟩ := rd.one
      obtain ⟨a, ws, e1, r, hq⟩ := data_of rs hx r1; subst e1
      refine call_list_of pins s σ H _ us Q I rv ⟨a, ws, rfl, ?_, h.newl rs rfl (relO_pl r)⟩
      rcases hq with hq | ⟨hq, _⟩
      · exact .inl hq
      · exact .inr hq
    · split at h
      · rename_i ks hk
        obtain ⟨v, rfl, r1⟩ := rd.one
        obtain ⟨a, o, es, ep, ws, e1, k⟩ := keys_of I rs r1 hk
        subst e1
        rw [Vals.ref1 rv]
        exact sv_listD hc I k (h.newl rs rfl (relO_pl k.rel))
      · exact h.elim
  · split at h
    · rename_i xs hx
      split at h
      · rename_i ys hy
        obtain ⟨v, rfl, r1⟩ := rd.one
        obtain ⟨a, ws, e1, r, hq⟩ := data_of rs hx r1; subst e1
        rw [Vals.ref1 rv]
        have hq' : SqL X.K H a ws ∨ SqT X.K H a ws := hq.imp id (·.1)
        exact sv_sorted hu I r hq' hy fun p zs hp rz => h.newl rs rfl (relO_pl rz) p hp
      · exact h.elim
    · split at h
      · rename_i ks hk
        split at h
        · rename_i ys hy
          obtain ⟨v, rfl, r1⟩ := rd.one
          obtain ⟨a, o, es, ep, ws, e1, k⟩ := keys_of I rs r1 hk
          subst e1
          rw [Vals.ref1 rv]
          exact sv_sortedD hc hu I k hy fun p zs hp rz => h.newl rs rfl (relO_pl rz) p hp
        · exact h.elim
      · exact h.elim
  · split at h
    · rename_i hn
      split at h
      · rename_i bs hb
        obtain ⟨v, rfl, r1⟩ := rd.one
        obtain ⟨a, ws, e1, h1, r, _⟩ := pl_of rs hn r1; subst e1
        exact cr_all hc pins s σ H _ us Q I rv ⟨a, bs, rfl, by rw [← bools_of r hb]; exact SqL.of h1, h.dat rs (.bl _)⟩
      · exact h.elim
    · exact h.elim
  · split at h
    · rename_i hn
      split at h
      · rename_i bs hb
        obtain ⟨v, rfl, r1⟩ := rd.one
        obtain ⟨a, ws, e1, h1, r, _⟩ := pl_of rs hn r1; subst e1
        exact cr_any hc pins s σ H _ us Q I rv ⟨a, bs, rfl, by rw [← bools_of r hb]; exact SqL.of h1, h.dat rs (.bl _)⟩
      · exact h.elim
    · exact h.elim
  · split at h
    · rename_i hn
      split at h
      · rename_i bs hb
        obtain ⟨v, rfl, r1⟩ := rd.one
        obtain ⟨a, ws, e1, h1, r, _⟩ := pl_of rs hn r1; subst e1
        exact cr_sum hc pins s σ H _ us Q I rv ⟨a, bs, rfl, by rw [← ints_of r hb]; exact SqL.of h1, h.dat rs (.int _)⟩
      · exact h.elim
    · exact h.elim
  · obtain ⟨v, w, rfl, r1, r2⟩ := rd.two
    cases r1 with | p r1 => cases r1; cases r2 with | p r2 => cases r2; exact call_max2 hc pins s σ H _ us Q I rv ⟨_, _, rfl, h.dat rs (.int _)⟩
  · obtain ⟨v, w, rfl, r1, r2⟩ := rd.two
    cases r1 with | p r1 => cases r1; cases r2 with | p r2 => cases r2; exact call_min2 hc pins s σ H _ us Q I rv ⟨_, _, rfl, h.dat rs (.int _)⟩
  · split at h
    · rename_i xs hx
      split at h
      · rename_i i r hi
        obtain ⟨v, rfl, r1⟩ := rd.one
        obtain ⟨a, ws, e1, rr, hq⟩ := data_of rs hx r1; subst e1
        rw [Vals.ref1 rv]
        obtain rfl := ints_pd hi
        exact sv_max1 hc hu I rr (hq.imp id (·.1)) (h.dat rs (.int _))
      · exact h.elim
    · exact h.elim
  · split at h
    · rename_i xs hx
      split at h
      · rename_i i r hi
        obtain ⟨v, rfl, r1⟩ := rd.one
        obtain ⟨a, ws, e1, rr, hq⟩ := data_of rs hx r1; subst e1
        rw [Vals.ref1 rv]
        obtain rfl := ints_pd hi
        exact sv_min1 hc hu I rr (hq.imp id (·.1)) (h.dat rs (.int _))
      · exact h.elim
    · exact h.elim
  · obtain ⟨v, rfl, r1⟩ := rd.one
    cases r1 with | p r1 => cases r1; exact call_abs pins s σ H _ us Q I rv ⟨_, rfl, h.dat rs (.int _)⟩
  · exact h.elim
end
end PH

set_option maxHeartbeats 4000000
/-! PH, part F: methods, isinstance, stores by values; targets. -/
namespace PySem.AutoSeq1
open PySem AutoSeq1 PySem.Spec PyProof.Rows
theorem PHX.ext_tup (l : Addr) (items : Array Value) (n : Nat) (b : Addr) (items2 : Array Value) (n2 : Nat) (d0 : Option Addr) (sl : Array (Option Value)) (hs0 : ¬(!items.isEmpty && Builtin.List.listTooLong (items.size + items2.size)) = true) (hs1 : items.size ≤ sizeLine) (hs2 : items.size + items2.size ≤ sizeLine + 1) :
    Meets (Builtin.«list.extend» ⟨[.ref l, .ref b], []⟩) (fun _ R s => s.heap.get? l = some { cls := .type "list", dict := none, data := .seq items n, slots := #[] } ∧ s.heap.get? b = some { cls := .type "tuple", dict := d0, data := .seq items2 n2, slots := sl } ∧ R (.ok (.ret Value.none)) { s with heap := s.heap.update l (Obj.mapSeq fun x => x ++ items2), toks := s.toks }) :=
  .of_wp fun prog w A R s h => by
    obtain ⟨hp, g, d, tk, os⟩ := s; obtain ⟨hl, hb, h⟩ := h; have f1 := idx_int; have f2 := sub_tuple_tuple; have f3 := sub_list_list; have f4 := sub_tuple_list; have f5 := sub_list_tuple;
    have hz' : (items ++ items2).size ≤ sizeLine + 1 := by rw [Array.size_append]; exact hs2
    wp_walk using (wpAny_updateSeq hl rfl (hz := hs1) (_hz' := hz')), wpAny_loadPart' hl, wpAny_loadPart' hb; exact ⟨_, rfl, h⟩
end PySem.AutoSeq1
namespace PH
open L2 PySem PySem.Spec PyProof.Rows
def rExtT (K : PySem.W.Frag) : V → List V → Hp → VK → Prop := fun x vs H Q => ∃ l b xs zs, x = .ref l ∧ vs = [.ref b] ∧ H l = some (.lst xs) ∧ SqT K H b zs ∧ xs.length + zs.length ≤ sizeLine ∧ Q .non (upd H l (.lst (xs ++ zs)))
theorem mt_extT {X : Cx} : MtM X "list.extend" (rExtT X.K) := by
  intro pins s σ H x vs v us Q I rx rv h
  obtain ⟨l, b, xs, zs, rfl, rfl, hH, hB, hz, q⟩ := h
  cases rx
  obtain ⟨u, rfl, ru⟩ := rv.one
  cases ru
  obtain ⟨z, its, n, r, hl, e⟩ := I.lstM hH
  obtain ⟨its2, r2, ⟨o, e2, hc, n2, hd⟩, hl2⟩ := I.tuple hB
  have hlen1 : its.length = xs.length := r.length.symm
  have hlen2 : its2.length = zs.length := r2.length.symm
  have hsz : its.toArray.size + its2.toArray.size ≤ sizeLine := by rw [List.size_toArray, List.size_toArray]; omega
  have hlong : ¬ (!its.toArray.isEmpty && Builtin.List.listTooLong (its.toArray.size + its2.toArray.size)) = true := by
    rw [notLongL hsz, Bool.and_false]
    exact Bool.false_ne_true
  obtain ⟨oc, od, odat, osl⟩ := o
  dsimp only at hc hd
  subst hc hd
  refine call_meets F.slot_list_extend ⟨_, e, rfl⟩ F.entry_list_extend (F.args_list_extend_2 _ _)
    (PySem.AutoSeq1.PHX.ext_tup l its.toArray n b its2.toArray n2 od osl hlong (by rw [List.size_toArray]; omega) (by omega)) ⟨e, e2, ?_⟩
  refine ⟨.non, _, I.lset (its' := its ++ its2) hH e (by simp) (r.append r2) ?_, rfl, q⟩
  rw [List.length_append]
  omega
def Mt.nm : Mt → Str
  | .append => "append" | .extend => "extend" | .pop => "pop" | .join => "join" | .split => "split" | .find => "find" | .index => "index"
def Mt.T : Mt → String
  | .append | .extend | .pop => "list"
  | _ => "str"
def Mt.id : Mt → String
  | .append => "list.append" | .extend => "list.extend" | .pop => "list.pop" | .join => "str.join" | .split => "str.split" | .find => "str.find" | .index => "str.index"
theorem Mt.pa : ∀ k : Mt, PlainAttrs k.T := fun k => by cases k <;> first | exact F.plainAttrs_list | exact F.plainAttrs_str
theorem Mt.slot : ∀ k : Mt, Slot k.T k.nm k.id
  | .append => F.slot_list_append | .extend => F.slot_list_extend | .pop => F.slot_list_pop | .join => F.slot_str_join | .split => F.slot_str_split | .find => F.slot_str_find | .index => F.slot_str_index
theorem Mt.ty : ∀ k : Mt, typeOf (.builtin k.id) = pure (.type "method_descriptor")
  | .append => F.type_list_append | .extend => F.type_list_extend | .pop => F.type_list_pop | .join => F.type_str_join | .split => F.type_str_split | .find => F.type_str_find | .index => F.type_str_index
def Ty.nm : Ty → Str
  | .int => "int" | .bool => "bool" | .str => "str" | .tuple => "tuple" | .list => "list" | .dict => "dict"
def Ty.n : Ty → String
  | .int => "int" | .bool => "bool" | .str => "str" | .tuple => "tuple" | .list => "list" | .dict => "dict"
theorem Ty.boot : ∀ b : Ty, bootBuiltins b.nm = some (.type b.n) := fun b => by cases b <;> decide +kernel
theorem Ty.ne : ∀ b : Ty, b.nm ≠ "__name__" ∧ (b.nm == ("__debug__" : Str)) = false := fun b => by cases b <;> decide +kernel
/-- the name of a value's type -/
def tyName (S : Sto) (d : D) : String := match d with
  | .p .non => "NoneType" | .p (.bl _) => "bool" | .p (.int _) => "int" | .p (.str _) => "str" | .p (.tup _) => "tuple" | .mt _ => "tuple" | .xv _ _ _ _ => "tuple" | .ref n => if Sto.isD S n then "dict" else "list"
theorem kit_all : ∀ a ∈ ["NoneType", "bool", "int", "str", "tuple", "list", "dict"], ∀ b ∈ ["int", "bool", "str", "tuple", "list", "dict"], kitB a b = some (decide (a = b) || (decide (a = "bool") && decide (b = "int"))) := by decide +kernel
section
variable {cA : Ca} {X : Cx} {pins : List (Addr × Obj)} {σ : L2.St} {H : Hp} {s : Shared} {m : List Addr} {S : Sto} {W : WX} {Q : VK} {x y z : V} {u v t : Value} {d e : D} {k : Nat}

/-! ### isinstance -/
theorem sqt_ty {a : Addr} {vs : List V} (h : SqT X.K H a vs) : TyX X.K H (.ref a) (.type "tuple") := by
  rcases h with (h | ⟨o, h⟩) | ⟨o, its, n, h1, h2, _⟩
  · exact .base (.tup h)
  · exact .fTuple h
  · exact .kTuple h1 h2
theorem sv_ty (rs : RelS X.F H m S) (rd : RelD X.F H m d x) (hk : known d S = true) : TyX X.K H x (.type (tyName S d)) := by
  cases rd with
  | p r =>
    cases r with
    | non => exact .base .non
    | bl b => exact .base (.bl b)
    | int i => exact .base (.int i)
    | str s h => exact .base (.str _)
    | tup h r => exact sqt_ty h
  | mt h r => exact sqt_ty h
  | xv h r => cases hk
  | @ref n a ha =>
    simp only [known, Bool.and_eq_true] at hk
    obtain ⟨o, ho⟩ := Option.isSome_iff_exists.mp hk.1
    obtain ⟨b, eb, ro⟩ := rs.ob _ _ ho
    rw [ha] at eb; cases eb
    cases ro with
    | pl h r => simp only [tyName, Sto.isD, ho]; exact .base (.lst h)
    | ml h r => simp only [tyName, Sto.isD, ho]; exact .base (.lst h)
    | dc h r => simp only [tyName, Sto.isD, ho]; exact .base (.dK h)
    | ob h cl r => exact absurd hk.2 (by simp [Sto.isO, ho])
    | dt h nd z r => exact absurd hk.2 (by simp [Sto.isO, ho])
    | dft h nd z r => exact absurd hk.2 (by simp [Sto.isO, ho])
    | dfk h r => simp only [tyName, Sto.isD, ho]; exact .fDict h
    | fz h r =>
      simp only [tyName, Sto.isD, ho]
      rcases h with ⟨o, h⟩ | ⟨o, its, n, h1, h2, _⟩
      · exact .base (.frz h)
      · exact .kList h1 h2
theorem isTy_kit (t : Ty) (hk : known d S = true) : PySem.W.kitOne X.K (.type (tyName S d)) (.type t.n) = some (isTy d S t) := by
  refine kit_ty ?_
  have hk' : ∀ n, d = .ref n → (∃ o, S[n]? = some o) ∧ Sto.isO S n = false := fun n e => by subst e; simp only [known, Bool.and_eq_true, Bool.not_eq_true'] at hk; exact ⟨Option.isSome_iff_exists.mp hk.1, hk.2⟩
  have h := kit_all (tyName S d) (by
    cases d with
    | p x => cases x <;> simp [tyName]
    | ref n => cases q : Sto.isD S n <;> simp [tyName, q]
    | xv a d c fs => cases hk
    | mt xs => simp [tyName]) t.n (by cases t <;> simp [Ty.n])
  rw [h]
  congr 1
  cases d with
  | p x => cases x <;> cases t <;> rfl
  | ref n =>
    obtain ⟨⟨o, ho⟩, hno⟩ := hk' n rfl
    cases o <;> first | (exfalso; simp [Sto.isO, ho] at hno; done) | (cases t <;> simp [tyName, Ty.n, isTy, Sto.lst, Sto.isD, ho, O.isL]) | (rename_i b kvs; cases b <;> first | (exfalso; simp [Sto.isO, ho] at hno; done) | (cases t <;> simp [tyName, Ty.n, isTy, Sto.lst, Sto.isD, ho, O.isL]))
  | xv a d c fs => cases hk
  | mt xs => cases t <;> rfl
theorem kitAny_map {K : PySem.W.Frag} {t : Value} {f : Ty → Bool} : ∀ ts : List Ty, (∀ c ∈ ts, PySem.W.kitOne K t (.type c.n) = some (f c)) → PySem.W.kitAny K t (ts.map fun c => Value.type c.n) = some (ts.any f)
  | [], _ => rfl
  | c :: ts, h => by
    rw [List.map_cons, List.any_cons]
    refine kitAny_cons (h c List.mem_cons_self) (fun hb => ?_) fun hb => ?_
    · rw [kitAny_map ts fun c hc => h c (List.mem_cons_of_mem _ hc), hb, Bool.false_or]
    · rw [hb, Bool.true_or]

/-! ### methods -/
theorem sv_recv {mt : Mt} (rs : RelS X.F H m S) (rd : RelD X.F H m d x) (h : recv mt d S = true) : tyV X.K mt.T x H := by
  unfold recv at h
  split at h
  · simp only [Bool.and_eq_true] at h
    obtain ⟨xs, hx⟩ := Option.isSome_iff_exists.mp h.2
    cases rd with
    | ref ha =>
      obtain ⟨a, vs, ea, hq, _⟩ := rs.lst hx
      rw [ha] at ea; cases ea
      exact .inl ⟨by (cases mt <;> first | rfl | (cases h.1)), _, hq⟩
  · cases rd with
    | p r =>
      cases r with
      | str z hs => cases mt <;> first | rfl | (exact absurd h (by decide))
  · cases h
theorem sum_le : ∀ {ys : List Cs}, (ys.map (·.length)).sum = ((ys.map mkS).map (·.length)).sum
  | [] => rfl
  | y :: ys => by simp only [List.map_cons, List.sum_cons, len_mkS, sum_le (ys := ys)]
theorem joinL_len (s : Cs) : ∀ ys : List Cs, (TL.joinL s ys).length ≤ (ys.map (·.length)).sum + ys.length * s.length
  | [] => by simp [TL.joinL]
  | [y] => by simp [TL.joinL]
  | y :: z :: r => by
    have ih := joinL_len s (z :: r)
    simp only [TL.joinL, List.length_append, List.map_cons, List.sum_cons, List.length_cons, Nat.add_mul, Nat.one_mul] at ih ⊢
    omega
theorem joinL_mem (s : Cs) {c : Nat} : ∀ ys : List Cs, c ∈ TL.joinL s ys → c ∈ s ∨ ∃ y ∈ ys, c ∈ y
  | [], h => by simp [TL.joinL] at h
  | [y], h => .inr ⟨y, by simp, by simpa [TL.joinL] using h⟩
  | y :: z :: r, h => by
    simp only [TL.joinL, List.mem_append] at h
    rcases h with h | h | h
    · exact .inr ⟨y, by simp, h⟩
    · exact .inl h
    · rcases joinL_mem s (z :: r) h with q | ⟨w, hw, q⟩
      · exact .inl q
      · exact .inr ⟨w, List.mem_cons_of_mem _ hw, q⟩
theorem spl_mem (t : Cs) {c : Nat} : ∀ (s : Cs) (k : Nat) (acc : Cs) (p : Cs), p ∈ TL.spl t k acc s → c ∈ p → c ∈ acc ∨ c ∈ s
  | [], k, acc, p, h, hc => by
    rw [TL.spl_nil] at h
    rw [List.mem_singleton.mp h] at hc
    exact .inl hc
  | a :: s, 0, acc, p, h, hc => by
    cases q : TL.pre t (a :: s) with
    | true =>
      rw [TL.spl_hit q] at h
      rcases List.mem_cons.mp h with rfl | h
      · exact .inl hc
      · rcases spl_mem t s _ _ p h hc with z | z
        · simp at z
        · exact .inr (List.mem_cons_of_mem _ z)
    | false =>
      rw [TL.spl_miss q] at h
      rcases spl_mem t s _ _ p h hc with z | z
      · rcases List.mem_append.mp z with z | z
        · exact .inl z
        · rw [List.mem_singleton.mp z]; exact .inr List.mem_cons_self
      · exact .inr (List.mem_cons_of_mem _ z)
  | a :: s, k + 1, acc, p, h, hc => by
    rw [TL.spl_pass] at h
    rw [List.drop_succ_cons] at h
    rw [← TL.spl_pass] at h
    rcases spl_mem t s _ _ p h hc with z | z
    · exact .inl z
    · exact .inr (List.mem_cons_of_mem _ z)
theorem spl_len (t : Cs) : ∀ (s : Cs) (k : Nat) (acc p : Cs), p ∈ TL.spl t k acc s → p.length ≤ acc.length + s.length
  | [], k, acc, p, h => by
    rw [TL.spl_nil] at h
    rw [List.mem_singleton.mp h]; simp
  | a :: s, 0, acc, p, h => by
    cases q : TL.pre t (a :: s) with
    | true =>
      rw [TL.spl_hit q] at h
      rcases List.mem_cons.mp h with rfl | h
      · simp
      · have := spl_len t s _ _ p h
        simp only [List.length_nil, List.length_cons] at this ⊢
        omega
    | false =>
      rw [TL.spl_miss q] at h
      have := spl_len t s _ _ p h
      simp only [List.length_append, List.length_cons, List.length_nil] at this ⊢
      omega
  | a :: s, k + 1, acc, p, h => by
    rw [TL.spl_pass, List.drop_succ_cons, ← TL.spl_pass] at h
    have := spl_len t s _ _ p h
    simp only [List.length_cons]
    omega
theorem rel_strs {K : Fg} : ∀ {ys : List Cs}, (∀ y ∈ ys, okS y) → RelPs K H (ys.map .str) ((ys.map mkS).map V.str)
  | [], _ => .nil
  | y :: ys, h => .cons (.str y (h y List.mem_cons_self)) (rel_strs fun z hz => h z (List.mem_cons_of_mem _ hz))
theorem push_rel {o o' : O} {a : Addr} {w : V} (ro : RelO X.F H m a o) (hp : o.push d = some o') (rd : RelD X.F H m d w) : ∃ vs, H a = some (.lst vs) ∧ o.mut = true ∧ o'.mut = true ∧ vs.length = o.ds.length ∧ RelO X.F (upd H a (.lst (vs ++ [w]))) m a o' := by
  cases ro with
  | @pl xs vs h r =>
    have kp : Kp X.F H (upd H a (.lst (vs ++ [w]))) := kp_upd (.inr ⟨_, h⟩)
    cases d with
    | p z =>
      simp only [O.push, Option.some.injEq] at hp
      subst hp
      cases rd with | p rd => exact ⟨vs, h, rfl, rfl, by simp [O.ds, r.length], .pl upd_same ((r.append (.cons rd .nil)).mono kp)⟩
    | ref n =>
      simp only [O.push, Option.some.injEq] at hp
      subst hp
      have := (r.up.append (.cons rd .nil)).mono kp []
      exact ⟨vs, h, rfl, rfl, by simp [O.ds, r.length], .ml upd_same (by simpa using this)⟩
    | mt zs =>
      simp only [O.push, Option.some.injEq] at hp
      subst hp
      have := (r.up.append (.cons rd .nil)).mono kp []
      exact ⟨vs, h, rfl, rfl, by simp [O.ds, r.length], .ml upd_same (by simpa using this)⟩
    | xv z1 z2 z3 z4 =>
      simp only [O.push, Option.some.injEq] at hp
      subst hp
      have := (r.up.append (.cons rd .nil)).mono kp []
      exact ⟨vs, h, rfl, rfl, by simp [O.ds, r.length], .ml upd_same (by simpa using this)⟩
  | @ml xs vs h r =>
    have kp : Kp X.F H (upd H a (.lst (vs ++ [w]))) := kp_upd (.inr ⟨_, h⟩)
    simp only [O.push, Option.some.injEq] at hp
    subst hp
    have := (r.append (.cons rd .nil)).mono kp []
    exact ⟨vs, h, rfl, rfl, by simp [O.ds, r.length], .ml upd_same (by simpa using this)⟩
  | fz h r => simp [O.push] at hp
  | dc h r => simp [O.push] at hp
  | ob h cl r => simp [O.push] at hp
  | dt h nd z r => simp [O.push] at hp
  | dfk h r => simp [O.push] at hp
  | dft h nd z r => simp [O.push] at hp
theorem last_get {α : Type} {xs : List α} {y : α} (h : xs.getLast? = some y) : xs[xs.length - 1]? = some y := by rw [← h, List.getLast?_eq_getElem?]
theorem sv_mth (mt : Mt) {ds : List D} {vs : List V} {us : List Value} (I : Inv X pins σ H s) (rx : RelV x v) (rv : Vals vs us) (rs : RelS X.F H m S) (dx : RelD X.F H m d x) (rd : RelDs X.F H m ds vs) (h : Post cA X.F m H σ W (mthI mt d ds S) Q) :
    wpAny (model X.prog X.w) X.A (call (.builtin mt.id) (v :: us)) (EP X pins σ Q) X.xe s := by
  unfold mthI at h
  split at h
  · split at h
    · rename_i o hn
      split at h
      · rename_i hz
        split at h
        · rename_i o' hp
          obtain ⟨w, rfl, r1⟩ := rd.one
          cases dx with
          | ref ha =>
            obtain ⟨a, ea, ro⟩ := rs.ob _ _ hn
            rw [ha] at ea; cases ea
            obtain ⟨vs, h1, m1, m2, hl, ro'⟩ := push_rel ro hp r1
            refine mt_append pins s σ H _ _ v us Q I rx rv ⟨_, _, _, rfl, rfl, h1, by rw [hl, line_eq]; exact hz, ?_⟩
            exact h m _ .non (Ext.put h1) (rs.put hn m1 ha h1 ro' m2) (.p .non)
        · exact h.elim
      · exact h.elim
    · exact h.elim
  · split at h
    · rename_i xs ys hn hk
      split at h
      · rename_i hz
        obtain ⟨w, rfl, r1⟩ := rd.one
        obtain ⟨b, ws, e1, h2, q2, _⟩ := pl_of rs hk r1
        subst e1
        obtain ⟨a, zs, e1, h1, q1, ha⟩ := pl_of rs hn dx
        subst e1
        have l1 := q1.length
        have l2 := q2.length
        refine mt_extend pins s σ H _ _ v us Q I rx rv ⟨_, _, _, _, rfl, rfl, h1, h2, by rw [line_eq, ← l1, ← l2]; exact hz, ?_⟩
        exact h m _ .non (Ext.put h1) (rs.put hn rfl ha h1 (.pl upd_same ((q1.append q2).mono (kp_upd (.inr ⟨_, h1⟩)))) rfl) (.p .non)
      · exact h.elim
    · exact h.elim
  · split at h
    · rename_i xs hn
      split at h
      · rename_i hz
        obtain ⟨w, rfl, r1⟩ := rd.one
        obtain ⟨a, zs, e1, h1, q1, ha⟩ := pl_of rs hn dx
        subst e1
        cases r1 with
        | p r1 =>
          cases r1 with
          | tup hq q2 =>
            have l1 := q1.length
            have l2 := q2.length
            refine mt_extT pins s σ H _ _ v us Q I rx rv ⟨_, _, _, _, rfl, rfl, h1, hq, by rw [line_eq, ← l1, ← l2]; exact hz, ?_⟩
            exact h m _ .non (Ext.put h1) (rs.put hn rfl ha h1 (.pl upd_same ((q1.append q2).mono (kp_upd (.inr ⟨_, h1⟩)))) rfl) (.p .non)
      · exact h.elim
    · exact h.elim
  · split at h
    · rename_i n xs hn
      split at h
      · rename_i y hy
        cases rd
        obtain ⟨a, zs, e1, h1, q1, ha⟩ := pl_of rs hn dx
        subst e1
        obtain ⟨w, hw, rw⟩ := q1.get (last_get hy)
        have kp : Kp X.F H (upd H a (.lst zs.dropLast)) := kp_upd (.inr ⟨_, h1⟩)
        refine mt_pop pins s σ H _ _ v us Q I rx rv ⟨_, _, w, rfl, rfl, h1, by rw [← q1.length]; exact hw, ?_⟩
        exact h m _ w (Ext.put h1) (rs.put hn rfl ha h1 (.pl upd_same (q1.dropLast.mono kp)) rfl) (.p (rw.mono kp))
      · exact h.elim
    · rename_i n xs hn
      split at h
      · rename_i y hy
        cases rd
        cases dx with
        | @ref _ a ha =>
          obtain ⟨b, ea, ro⟩ := rs.ob _ _ hn
          rw [ha] at ea; cases ea
          cases ro with
          | @ml _ zs h1 q1 =>
            obtain ⟨w, hw, rw⟩ := q1.get (last_get hy)
            have kp : Kp X.F H (upd H a (.lst zs.dropLast)) := kp_upd (.inr ⟨_, h1⟩)
            have e1 := q1.dropLast.mono kp []
            have e2 := rw.mono kp []
            refine mt_pop pins s σ H _ _ v us Q I rx rv ⟨_, _, w, rfl, rfl, h1, by rw [← q1.length]; exact hw, ?_⟩
            exact h m _ w (Ext.put h1) (rs.put hn rfl ha h1 (.ml upd_same (by simpa using e1)) rfl) (by simpa using e2)
      · exact h.elim
    · exact h.elim
  · split at h
    · rename_i ss hs
      split at h
      · rename_i hz
        obtain ⟨w, rfl, r1⟩ := rd.one
        obtain ⟨xs, hx, hs⟩ := Option.bind_eq_some_iff.mp hs
        obtain ⟨a, ws, e1, r, hq⟩ := data_of rs hx r1
        subst e1
        obtain ⟨e2, ok⟩ := strs_of r hs
        subst e2
        cases dx with
        | p dx =>
          cases dx with
          | str z hz0 =>
            have hq' : SqL X.K H a ((ss.map mkS).map V.str) ∨ SqT X.K H a ((ss.map mkS).map V.str) := hq.imp id (·.1)
            refine mt_join pins s σ H _ _ v us Q I rx rv ⟨_, a, ss.map mkS, rfl, rfl, hq', ?_, ?_⟩
            · rw [← sum_le, List.length_map, len_mkS]; exact hz
            · have e3 : ∀ z0, Txt.join (mkS z0) (ss.map mkS) = mkS (TL.joinL z0 ss) := fun z0 => by
                rw [TL.join_eq]
                have := TL.tl_join (mkS z0) (ss.map mkS)
                rw [List.map_map] at this
                have e4 : ss.map (TL.tl ∘ mkS) = ss := by
                  conv => rhs; rw [← List.map_id ss]
                  exact List.map_congr_left fun _ _ => rfl
                rw [e4] at this
                rw [← mkS_of (Str.join (mkS z0) (ss.map mkS))]
                exact congrArg mkS this
              rw [e3]
              refine h.dat rs (.str _ ⟨Nat.le_trans (joinL_len _ _) hz, fun c hc => ?_⟩)
              rcases joinL_mem _ _ hc with q | ⟨y, hy, q⟩
              · exact hz0.2 c q
              · exact (ok y hy).2 c q
      · exact h.elim
    · exact h.elim
  · obtain ⟨w, rfl, r1⟩ := rd.one
    cases dx with
    | p dx =>
      cases dx with
      | str z hz0 =>
        cases r1 with
        | p r1 => cases r1 with | str z2 hz2 => exact mt_find pins s σ H _ _ v us Q I rx rv ⟨_, _, rfl, rfl, h.dat rs (.int _)⟩
  · split at h
    · rename_i i rest ho
      obtain ⟨w, rfl, r1⟩ := rd.one
      cases dx with
      | p dx =>
        cases dx with
        | str z hz0 =>
          cases r1 with
          | p r1 => cases r1 with | str z2 hz2 => exact mt_sindex pins s σ H _ _ v us Q I rx rv ⟨_, _, i, rest, rfl, rfl, by rw [len_mkS]; exact ho, h.dat rs (.int _)⟩
    · exact h.elim
  · split at h
    · rename_i s0 t0 hc
      obtain ⟨c1, c2, c3⟩ := hc
      obtain ⟨w, rfl, r1⟩ := rd.one
      cases dx with
      | p dx =>
        cases dx with
        | str z hz0 =>
          cases r1 with
          | p r1 =>
            cases r1 with
            | str z2 hz2 =>
              have ne : TL.tl (mkS t0) ≠ [] := c1
              have kd := TL.kind_ok (x := mkS s0) (y := mkS t0) (by simpa [mkS] using c2)
              have e := TL.split_spl (mkS s0) (mkS t0) ne kd
              have e2 : Txt.split (mkS s0) (mkS t0) = (TL.spl t0 0 [] s0).map mkS := by
                rw [← show TL.spl (TL.tl (mkS t0)) 0 [] (TL.tl (mkS s0)) = TL.spl t0 0 [] s0 from rfl, ← e, List.map_map]
                conv => lhs; rw [← List.map_id (Txt.split (mkS s0) (mkS t0))]
                exact List.map_congr_left fun q _ => (mkS_of q).symm
              refine mt_split pins s σ H _ _ v us Q I rx rv ⟨_, _, rfl, rfl, ?_, by rw [len_mkS, line_eq]; exact c3, ?_⟩
              · rw [len_mkS]
                cases t0 with
                | nil => exact absurd rfl c1
                | cons a r => simp
              · intro p hp
                rw [e2]
                refine h.newl rs rfl (relO_pl (rel_strs fun y hy => ⟨?_, fun c hc => ?_⟩)) p hp
                · have := spl_len _ _ _ _ _ hy
                  have h0 := hz0.1
                  simp only [List.length_nil] at this
                  omega
                · rcases spl_mem _ _ _ _ _ hy hc with q | q
                  · simp at q
                  · exact hz0.2 c q
    · exact h.elim
  · exact h.elim

/-! ### o[i] = v -/
theorem sv_sub {S' : Sto} {f : D} {w : V} {q : Hp → Prop} (rs : RelS X.F H m S) (dx : RelD X.F H m d x) (dy : RelD X.F H m e y) (dw : RelD X.F H m f w) (h : subI d e f S = some S') (hq : ∀ H', Ext X.F H m H' m → RelS X.F H' m S' → q H') : rSetL x y w H q := by
  unfold subI at h
  split at h
  · split at h
    · rename_i hn
      obtain ⟨j, hj, rfl⟩ := Option.map_eq_some_iff.mp h
      obtain ⟨a, zs, e1, h1, q1, ha⟩ := pl_of rs hn dx
      subst e1
      cases dy with
      | p dy =>
        cases dy
        cases dw with
        | p dw =>
          refine ⟨a, zs, _, j, rfl, rfl, h1, by rw [← q1.length]; exact hj, hq _ (Ext.put h1) (rs.put hn rfl ha h1 (.pl upd_same ((RelPs.set dw j q1).mono (kp_upd (.inr ⟨_, h1⟩)))) rfl)⟩
    · rename_i hn
      obtain ⟨j, hj, rfl⟩ := Option.map_eq_some_iff.mp h
      cases dx with
      | ref ha =>
        obtain ⟨a, ea, ro⟩ := rs.ob _ _ hn
        rw [ha] at ea; cases ea
        cases ro with
        | @ml _ zs h1 q1 =>
          cases dy with
          | p dy =>
            cases dy
            have e1 := (RelDs.set dw j q1).mono (kp_upd (o := .lst (zs.set j w)) (.inr ⟨_, h1⟩)) []
            exact ⟨_, zs, _, j, rfl, rfl, h1, by rw [← q1.length]; exact hj, hq _ (Ext.put h1) (rs.put hn rfl ha h1 (.ml upd_same (by simpa using e1)) rfl)⟩
    · cases h
  · cases h
end
end PH

set_option maxHeartbeats 4000000
/-! PH, part G: an expression computes what its term says, construct by construct. -/
namespace PH
open L2 PySem PySem.Spec PyProof.Rows
theorem _root_.L2.PE.imp {X : Cx} {e : Expr} {t t' : TE} (h : PE X e t) (f : ∀ σ H Q, t' σ H Q → t σ H Q) : PE X e t' := ⟨fun pins s σ H Q I q => h.run pins s σ H Q I (f σ H Q q)⟩
theorem _root_.L2.PT.imp {X : Cx} {e : Expr} {t t' : TT} (h : PT X e t) (f : ∀ σ H Q, t' σ H Q → t σ H Q) : PT X e t' := ⟨fun pins s σ H Q I q => h.run pins s σ H Q I (f σ H Q q)⟩
theorem _root_.L2.PW.imp {X : Cx} {e : Expr} {t t' : TT} (h : PW X e t) (f : ∀ σ H Q, t' σ H Q → t σ H Q) : PW X e t' := ⟨fun wh pins s σ H Q I q => h.run wh pins s σ H Q I (f σ H Q q)⟩
theorem _root_.L2.PA.imp {X : Cx} {e : List Expr} {t t' : TA} (h : PA X e t) (f : ∀ σ H Q, t' σ H Q → t σ H Q) : PA X e t' := ⟨fun pos pins s σ H Q I q => h.run pos pins s σ H Q I (f σ H Q q)⟩
/-- no star in front -/
def plain : Expr → Bool
  | .Starred .. => false
  | _ => true
theorem star_cons {e : Expr} {es : List Expr} {env : Env} (h : plain e = true) : starEach (e :: es) env = (false, eval e env) :: starEach es env := by
  cases e <;> first | rfl | cases h
theorem star_any : ∀ {es : List Expr} {env : Env} {pos : Pos}, es.all plain = true → (backTo pos (starEach es env)).any (·.1) = false
  | [], _, _, _ => rfl
  | e :: es, env, pos, h => by
    simp only [List.all_cons, Bool.and_eq_true] at h
    rw [star_cons h.1]
    show (false || (backTo pos (starEach es env)).any (·.1)) = false
    rw [star_any h.2]; rfl
theorem star_all : ∀ {es : List Expr} {env : Env} {pos : Pos}, es.all plain = true → (backTo pos (starEach es env)).all (fun x => !x.1) = true
  | [], _, _, _ => rfl
  | e :: es, env, pos, h => by
    simp only [List.all_cons, Bool.and_eq_true] at h
    rw [star_cons h.1]
    show (!false && (backTo pos (starEach es env)).all (fun x => !x.1)) = true
    rw [star_all h.2]; rfl
section
variable {cA : Ca} {X : Cx} {σ : L2.St} {H : Hp} {m : List Addr} {S : Sto} {ρ : Nv} {W : WX} {Q : VK} {pos : Pos} {a b c x : Expr} {f g h : Nv → Sto → Res D}
/-- behind two values -/
def Fin2 (cA : Ca) (K : Fg) (σ : L2.St) (W : WX) (h : D → D → Sto → Res D) (x y : V) (H : Hp) (Q : VK) : Prop := ∃ m d e S, RelS K H m S ∧ RelD K H m d x ∧ RelD K H m e y ∧ Post cA K m H σ W (h d e S) Q
def Fin1 (cA : Ca) (K : Fg) (σ : L2.St) (W : WX) (h : D → Sto → Res D) (x : V) (H : Hp) (Q : VK) : Prop := ∃ m d S, RelS K H m S ∧ RelD K H m d x ∧ Post cA K m H σ W (h d S) Q
theorem seq1 {k : D → Sto → Res D} (hN : RelN X.F H m ρ σ) (hS : RelS X.F H m S) (hp : Post cA X.F m H σ W ((f ρ S).bind k) Q) : tR cA X.F W f σ H fun x H1 => Fin1 cA X.F σ W k x H1 Q :=
  ⟨m, ρ, S, hN, hS, (Post.bind hp).imp fun _ _ ⟨m1, d, S1, _, _, rs1, rd1, hp1⟩ => ⟨m1, d, S1, rs1, rd1, hp1⟩⟩
theorem seq2 {k : D → D → Sto → Res D} (hN : RelN X.F H m ρ σ) (hS : RelS X.F H m S) (hp : Post cA X.F m H σ W ((f ρ S).bind fun x S => (g ρ S).bind fun y S => k x y S) Q) :
    tR cA X.F W f σ H fun x H1 => tR cA X.F W g σ H1 fun y H2 => Fin2 cA X.F σ W k x y H2 Q :=
  ⟨m, ρ, S, hN, hS, (Post.bind hp).imp fun _ _ ⟨m1, d, S1, _, e1, rs1, rd1, hp1⟩ => ⟨m1, ρ, S1, hN.ext e1, rs1, (Post.bind hp1).imp fun _ _ ⟨m2, d2, S2, _, e2, rs2, rd2, hp2⟩ => ⟨m2, d, d2, S2, rs2, rd1.ext e2, rd2, hp2⟩⟩⟩
/-- behind values -/
theorem seqA {k : List D → Sto → Res D} {g : Nv → Sto → Res (List D)} (hN : RelN X.F H m ρ σ) (hS : RelS X.F H m S) (hp : Post cA X.F m H σ W ((g ρ S).bind k) Q) :
    tA cA X.F W g σ H fun vs H1 => ∃ m1 ds S1, g ρ S = .ok ds S1 ∧ RelS X.F H1 m1 S1 ∧ RelDs X.F H1 m1 ds vs ∧ Post cA X.F m1 H1 σ W (k ds S1) Q :=
  ⟨m, ρ, S, hN, hS, (Post.bindA hp).imp fun _ _ ⟨m1, d, S1, q, _, rs1, rd1, hp1⟩ => ⟨m1, d, S1, q, rs1, rd1, hp1⟩⟩

/-! ### names, constants -/
theorem se_var {i : Nat} {n : Str} (hN : X.N[i]? = some n) (hv : Vis X.env.scope n) (hd : (n == ("__debug__" : Str)) = false) (hcd : (n == ("__classdict__" : Str)) = false) :
    PE X (.Name n pos) (tR cA X.F W fun ρ S => match ρ[i]? with | some (some d) => .ok d S | _ => .stuck) :=
  (pe_var hN hv hd hcd).imp fun σ H Q ⟨m, ρ, S, rn, rs, hp⟩ => by
    dsimp only at hp
    split at hp
    · rename_i d hd
      obtain ⟨v, e, r⟩ := rn.nv i d hd
      exact ⟨v, e, hp m H v .refl rs r⟩
    · exact hp.elim
theorem se_dat {x : PD} {v : V} (he : PE X c (tC v)) (r : ∀ H, RelP X.F H x v) : PE X c (tR cA X.F W fun _ S => ret1 x S) :=
  he.imp fun σ H Q ⟨m, ρ, S, rn, rs, hp⟩ => hp.dat rs (r H)

/-! ### displays -/
theorem sa_nil : PA X [] (tA cA X.F W fun _ S => .ok [] S) := pa_nil.imp fun σ H Q ⟨m, ρ, S, rn, rs, hp⟩ => hp m H [] .refl rs .nil
theorem sa_cons {es : List Expr} {g : Nv → Sto → Res (List D)} (hp : plain a = true) (ha : PE X a (tR cA X.F W f)) (hr : PA X es (tA cA X.F W g)) :
    PA X (a :: es) (tA cA X.F W fun ρ S => (f ρ S).bind fun d S => (g ρ S).bind fun ds S => .ok (d :: ds) S) :=
  (pa_cons ha hr (star_cons hp)).imp fun σ H Q ⟨m, ρ, S, rn, rs, h⟩ =>
    ⟨m, ρ, S, rn, rs, (PostA.bind h).imp fun v H1 ⟨m1, d, S1, _, e1, rs1, rd1, h1⟩ => ⟨m1, ρ, S1, rn.ext e1, rs1, (PostA.bindA h1).imp fun vs H2 ⟨m2, ds, S2, _, e2, rs2, r2, h2⟩ => h2 m2 H2 (v :: vs) .refl rs2 (.cons (rd1.ext e2) r2)⟩⟩
theorem se_tup {es : List Expr} {k : Nat} {g : Nv → Sto → Res (List D)} (hz : es.length ≤ 1000) (ha : PA X es (tA cA X.F W g)) (hl : ∀ ρ S ds S', g ρ S = .ok ds S' → ds.length = es.length) :
    PE X (.Tuple es k pos) (tR cA X.F W fun ρ S => (g ρ S).bind fun ds S => .ok (mkT ds) S) :=
  (pe_tup ha).imp fun σ H Q ⟨m, ρ, S, rn, rs, h⟩ => by
    obtain ⟨m1, ρ1, S1, a1, a2, a3⟩ := seqA rn rs h
    refine ⟨m1, ρ1, S1, a1, a2, a3.imp fun vs H1 ⟨m3, ds, S3, q, rs3, r3, h3⟩ => ⟨?_, sv_tup rs3 r3 h3⟩⟩
    rw [← r3.length, hl ρ S ds S3 q, line_eq]
    exact Nat.le_trans hz (by decide)
theorem se_lst {es : List Expr} {g : Nv → Sto → Res (List D)} (hz : es.length ≤ 1000) (ha : PA X es (tA cA X.F W g)) (hl : ∀ ρ S ds S', g ρ S = .ok ds S' → ds.length = es.length) :
    PE X (.List es pos) (tR cA X.F W fun ρ S => (g ρ S).bind fun ds S => new (mkL ds) S) :=
  (pe_lst ha).imp fun σ H Q ⟨m, ρ, S, rn, rs, h⟩ => by
    obtain ⟨m1, ρ1, S1, a1, a2, a3⟩ := seqA rn rs h
    refine ⟨m1, ρ1, S1, a1, a2, a3.imp fun vs H1 ⟨m3, ds, S3, q, rs3, r3, h3⟩ => ⟨?_, sv_lst rs3 r3 h3⟩⟩
    rw [← r3.length, hl ρ S ds S3 q, line_eq]
    exact Nat.le_trans hz (by decide)

/-! ### operators -/
theorem se_bin {op : Operator} (ha : PE X a (tR cA X.F W f)) (hb : PE X b (tR cA X.F W g)) : PE X (.BinOp a op b pos) (tR cA X.F W fun ρ S => (f ρ S).bind fun x S => (g ρ S).bind fun y S => binI op x y S) :=
  ⟨fun pins s σ H Q I ⟨m, ρ, S, rn, rs, hp⟩ => wpAny_BinOp (bin ha hb I (seq2 rn rs hp) fun v u s2 x y H2 I2 rx ry ⟨m2, d, e, S2, rs2, dx, dy, hp2⟩ => sv_bin I2 rx ry rs2 dx dy hp2)⟩
theorem se_neg (ha : PE X a (tR cA X.F W f)) : PE X (.UnaryOp .USub a pos) (tR cA X.F W fun ρ S => (f ρ S).bind negI) :=
  ⟨fun pins s σ H Q I ⟨m, ρ, S, rn, rs, hp⟩ => UnaryOp_ (thn (ha.run pins s σ H _ I (seq1 rn rs hp)) fun v s1 ⟨x, H1, I1, r1, m1, d, S1, rs1, dx, hp1⟩ => sv_neg I1 r1 rs1 dx hp1)⟩
theorem pc_any {op : CmpOp} (hu : X.A.units + 65 < cLine) (ha : PE X a (tR cA X.F W f)) (hb : PE X b (tR cA X.F W g)) : PC X op a b (tR cA X.F W fun ρ S => (f ρ S).bind fun x S => (g ρ S).bind fun y S => cmpI op x y S) :=
  ⟨fun pins s σ H Q I ⟨m, ρ, S, rn, rs, hp⟩ => bin ha hb I (seq2 rn rs hp) fun v u s2 x y H2 I2 rx ry ⟨m2, d, e, S2, rs2, dx, dy, hp2⟩ => sv_cmp op hu I2 rx ry rs2 dx dy hp2⟩
theorem se_cmp {op : CmpOp} (hu : X.A.units + 65 < cLine) (hm : behindInMarks op b = false) (ha : PE X a (tR cA X.F W f)) (hb : PE X b (tR cA X.F W g)) :
    PE X (.Compare a [op] [b] pos) (tR cA X.F W fun ρ S => (f ρ S).bind fun x S => (g ρ S).bind fun y S => cmpI op x y S) := pe_cmp (pc_any hu ha hb) hm
theorem cmpI_bl {op : CmpOp} {d e r : D} {S S' : Sto} (h : cmpI op d e S = .ok r S') : (∃ k, r = .p (.bl k)) ∧ S' = S := by
  have l : ∀ {o : Option Bool}, lift o S = .ok r S' → (∃ k, r = .p (.bl k)) ∧ S' = S := fun {o} h => by
    cases o with
    | none => cases h
    | some k => cases h; exact ⟨⟨_, rfl⟩, rfl⟩
  cases op <;> simp only [cmpI] at h <;> first
    | exact l h
    | (split at h <;> first | exact l h | (cases h; exact ⟨⟨_, rfl⟩, rfl⟩) | cases h)
theorem cmpI_nx {op : CmpOp} {d e : D} {S S' : Sto} {x : Ex} : cmpI op d e S ≠ .exc x S' := fun h => by
  have l : ∀ {o : Option Bool}, lift o S ≠ .exc x S' := fun {o} h => by cases o <;> cases h
  cases op <;> simp only [cmpI] at h <;> first
    | exact l h
    | (split at h <;> first | exact l h | cases h)
theorem truI_bl {k : Bool} {S : Sto} : truI (.p (.bl k)) S = .ok k S := rfl
theorem truI_nx {d : D} {S S' : Sto} {x : Ex} : truI d S ≠ .exc x S' := fun h => by
  unfold truI at h
  repeat' (first | cases h | split at h)
/-- what a test's reading is made of: the value's reading, then its truth -/
theorem test_of {Q : Bool → Hp → Prop} (hN : RelN X.F H m ρ σ) (hS : RelS X.F H m S) (hp : PostB cA X.F m H σ W ((f ρ S).bind truI) Q) : tR cA X.F W f σ H fun x H' => ∃ k, TruV X.K x H' k ∧ Q k H' :=
  ⟨m, ρ, S, hN, hS, (PostB.bind hp).imp fun v H1 ⟨m1, d, S1, _, e1, rs1, rd1, h1⟩ => by
    cases q : truI d S1 with
    | ok k S2 =>
      rw [q] at h1
      obtain ⟨t, rfl⟩ := sv_tru rs1 rd1 q
      exact ⟨k, t, h1 m1 H1 .refl rs1⟩
    | exc x S2 => exact absurd q truI_nx
    | stuck => rw [q] at h1; exact h1.elim⟩
theorem st_plain (ha : PE X a (tR cA X.F W f)) (he : ∀ whole, isTrue a X.env whole = (do let v ← whole; standAt a.pos; holding [v] (truthy v))) : PT X a (tB cA X.F W fun ρ S => (f ρ S).bind truI) :=
  (pt_truth ha he).imp fun σ H Q ⟨m, ρ, S, rn, rs, hp⟩ => test_of rn rs hp
/-- a value that is True or False, as a test -/
theorem test_bl {Q : Bool → Hp → Prop} (hN : RelN X.F H m ρ σ) (hS : RelS X.F H m S) (hb : ∀ d S', f ρ S = .ok d S' → ∃ k, d = .p (.bl k)) (hp : PostB cA X.F m H σ W ((f ρ S).bind truI) Q) : tR cA X.F W f σ H fun x H' => ∃ k, x = .bl k ∧ Q k H' :=
  ⟨m, ρ, S, hN, hS, (PostB.bind hp).imp fun v H1 ⟨m1, d, S1, q, e1, rs1, rd1, h1⟩ => by
    obtain ⟨k, rfl⟩ := hb _ _ q
    cases rd1 with | p r => cases r; exact ⟨k, rfl, h1 m1 H1 .refl rs1⟩⟩
theorem Res.bind_ok {α β : Type} {r : Res α} {k : α → Sto → Res β} {y : β} {S : Sto} (h : r.bind k = .ok y S) : ∃ x S1, r = .ok x S1 ∧ k x S1 = .ok y S := by
  cases r with
  | ok x S1 => exact ⟨x, S1, rfl, h⟩
  | exc x S1 => cases h
  | stuck => cases h
theorem st_cmp {op : CmpOp} (hu : X.A.units + 65 < cLine) (hm : behindInMarks op b = false) (ha : PE X a (tR cA X.F W f)) (hb : PE X b (tR cA X.F W g)) :
    PT X (.Compare a [op] [b] pos) (tB cA X.F W fun ρ S => ((f ρ S).bind fun x S => (g ρ S).bind fun y S => cmpI op x y S).bind truI) :=
  (pt_cmp (pc_any hu ha hb) hm).imp fun σ H Q ⟨m, ρ, S, rn, rs, hp⟩ => test_bl rn rs (fun d S' h => by
    obtain ⟨x, S1, _, h⟩ := Res.bind_ok h
    obtain ⟨y, S2, _, h⟩ := Res.bind_ok h
    exact (cmpI_bl h).1) hp
/-- a comparison by values, for chains -/
def rC (cA : Ca) (K : Fg) (op : CmpOp) : R2 := fun x y H Q => ∃ m d e S, RelS K H m S ∧ RelD K H m d x ∧ RelD K H m e y ∧ Post cA K m H [] (fun _ _ _ _ => False) (cmpI op d e S) Q
theorem op_any {op : CmpOp} (hu : X.A.units + 65 < cLine) : OpR X (compareOp op) (rC cA X.F op) := fun pins s σ H x y v u Q I rx ry ⟨m, d, e, S, rs, dx, dy, hp⟩ => by
  refine sv_cmp (cA := cA) (W := fun _ _ _ _ => False) op hu I rx ry rs dx dy ?_
  cases q : cmpI op d e S with
  | ok r S1 => rw [q] at hp; exact hp
  | exc x S1 => exact absurd q cmpI_nx
  | stuck => rw [q] at hp; exact hp
theorem Post.swap {r : Res D} {σ' : L2.St} {W' : WX} (hx : ∀ x S, r ≠ .exc x S) (h : Post cA X.F m H σ W r Q) : Post cA X.F m H σ' W' r Q := by
  cases r with
  | ok d S => exact h
  | exc x S => exact absurd rfl (hx x S)
  | stuck => exact h
def chnF (o1 o2 : CmpOp) (f g h : Nv → Sto → Res D) : Nv → Sto → Res D := fun ρ S => (f ρ S).bind fun x S => (g ρ S).bind fun y S => (cmpI o1 x y S).bind fun t S => (truI t S).bind fun k S =>
  if k then (h ρ S).bind fun z S => cmpI o2 y z S else ret1 (.bl false) S
theorem chain_of {o1 o2 : CmpOp} (rn : RelN X.F H m ρ σ) (rs : RelS X.F H m S) (hp : Post cA X.F m H σ W (chnF o1 o2 f g h ρ S) Q) :
    tChain (rC cA X.F o1) (rC cA X.F o2) (tR cA X.F W f) (tR cA X.F W g) (tR cA X.F W h) σ H Q := by
  refine ⟨m, ρ, S, rn, rs, (Post.bind hp).imp fun x H1 ⟨m1, d, S1, _, e1, rs1, rd1, h1⟩ => ⟨m1, ρ, S1, rn.ext e1, rs1, (Post.bind h1).imp fun y H2 ⟨m2, e, S2, _, e2, rs2, rd2, h2⟩ => ?_⟩⟩
  refine ⟨m2, d, e, S2, rs2, rd1.ext e2, rd2, Post.swap (fun _ _ => cmpI_nx) ((Post.bind h2).imp fun t H3 ⟨m3, r, S3, q, e3, rs3, rd3, h3⟩ => ?_)⟩
  obtain ⟨⟨k, rfl⟩, rfl⟩ := cmpI_bl q
  cases rd3 with
  | p rd3 =>
    cases rd3
    refine ⟨k, rfl, ?_⟩
    have h3' : Post cA X.F m3 H3 σ W (if k then (h ρ S3).bind fun z S => cmpI o2 e z S else ret1 (.bl false) S3) Q := h3
    cases k with
    | false =>
      have := (show Post cA X.F m3 H3 σ W (ret1 (.bl false) S3) Q from h3').dat rs3 (.bl false)
      simpa using this
    | true =>
      have h4 : Post cA X.F m3 H3 σ W ((h ρ S3).bind fun z S => cmpI o2 e z S) Q := h3'
      have : tR cA X.F W h σ H3 fun z H4 => rC cA X.F o2 y z H4 Q := ⟨m3, ρ, S3, ((rn.ext e1).ext e2).ext e3, rs3, (Post.bind h4).imp fun z H4 ⟨m4, w, S4, _, e4, rs4, rd4, h5⟩ => ⟨m4, e, w, S4, rs4, (rd2.ext e3).ext e4, rd4, Post.swap (fun _ _ => cmpI_nx) h5⟩⟩
      simpa using this
theorem se_chn {o1 o2 : CmpOp} (hu : X.A.units + 65 < cLine) (hm : lastMarks [o1, o2] [b, c] = false) (ha : PE X a (tR cA X.F W f)) (hb : PE X b (tR cA X.F W g)) (hc : PE X c (tR cA X.F W h)) : PE X (.Compare a [o1, o2] [b, c] pos) (tR cA X.F W (chnF o1 o2 f g h)) :=
  (pe_chain (op_any (cA := cA) hu) (op_any (cA := cA) hu) ha hb hc hm).imp fun σ H Q ⟨m, ρ, S, rn, rs, hp⟩ => chain_of rn rs hp
theorem st_chn {o1 o2 : CmpOp} (hu : X.A.units + 65 < cLine) (hm : lastMarks [o1, o2] [b, c] = false) (ha : PE X a (tR cA X.F W f)) (hb : PE X b (tR cA X.F W g)) (hc : PE X c (tR cA X.F W h)) :
    PT X (.Compare a [o1, o2] [b, c] pos) (tB cA X.F W fun ρ S => (chnF o1 o2 f g h ρ S).bind truI) :=
  (pt_chain (op_any (cA := cA) hu) (op_any (cA := cA) hu) ha hb hc hm).imp fun σ H Q ⟨m, ρ, S, rn, rs, hp⟩ => by
    obtain ⟨m1, ρ1, S1, a1, a2, a3⟩ := test_bl (f := chnF o1 o2 f g h) rn rs (fun d S' q => by
      obtain ⟨x, S1, _, q⟩ := Res.bind_ok q
      obtain ⟨y, S2, _, q⟩ := Res.bind_ok q
      obtain ⟨t, S3, _, q⟩ := Res.bind_ok q
      obtain ⟨k, S4, _, q⟩ := Res.bind_ok q
      cases k with
      | true => obtain ⟨z, S5, _, q⟩ := Res.bind_ok (show (h ρ S4).bind _ = _ from q); exact (cmpI_bl q).1
      | false => cases q; exact ⟨_, rfl⟩) hp
    exact chain_of a1 a2 a3

/-! ### not, and, or, if else -/
theorem se_not (ha : PE X a (tR cA X.F W f)) : PE X (.UnaryOp .Not a pos) (tR cA X.F W fun ρ S => (f ρ S).bind fun x S => (truI x S).bind fun k S => ret1 (.bl (!k)) S) :=
  (pe_notT ha).imp fun σ H Q ⟨m, ρ, S, rn, rs, hp⟩ => ⟨m, ρ, S, rn, rs, (Post.bind hp).imp fun v H1 ⟨m1, d, S1, _, e1, rs1, rd1, h1⟩ => by
    cases q : truI d S1 with
    | ok k S2 =>
      rw [q] at h1
      obtain ⟨t, rfl⟩ := sv_tru rs1 rd1 q
      exact ⟨k, t, Post.dat rs1 h1 (.bl _)⟩
    | exc x S2 => exact absurd q truI_nx
    | stuck => rw [q] at h1; exact h1.elim⟩
/-- a test computes k -/
def tK (f : Nv → Sto → Res D) : Nv → Sto → Res Bool := fun ρ S => (f ρ S).bind truI
theorem bind_assoc {α β γ : Type} (r : Res α) (k : α → Sto → Res β) (l : β → Sto → Res γ) : (r.bind k).bind l = r.bind fun x S => (k x S).bind l := by cases r <;> rfl
theorem truI_self {d : D} {S S' : Sto} {k : Bool} (h : truI d S = .ok k S') : S' = S := by
  unfold truI at h
  repeat' (first | (cases h; rfl) | cases h | split at h)
theorem st_not (ha : PT X a (tB cA X.F W (tK f))) : PT X (.UnaryOp .Not a pos) (tB cA X.F W (tK fun ρ S => (f ρ S).bind fun x S => (truI x S).bind fun k S => ret1 (.bl (!k)) S)) :=
  (pt_not ha).imp fun σ H Q ⟨m, ρ, S, rn, rs, hp⟩ => ⟨m, ρ, S, rn, rs, by
    have e : tK (fun ρ S => (f ρ S).bind fun x S => (truI x S).bind fun k S => ret1 (.bl (!k)) S) ρ S = (tK f ρ S).bind fun k S => .ok (!k) S := by
      unfold tK
      rw [bind_assoc, bind_assoc]
      congr 1
      funext x S1
      rw [bind_assoc]
      congr 1
    rw [e] at hp
    exact (PostB.bindB hp).imp fun k H1 ⟨m1, S1, _, e1, rs1, h1⟩ => h1 m1 H1 .refl rs1⟩
end
end PH

set_option maxHeartbeats 4000000
/-! PH, part H: and, or, if else, places, parts, calls. -/
namespace PH
open L2 PySem PySem.Spec PyProof.Rows
section
variable {cA : Ca} {X : Cx} {σ : L2.St} {H : Hp} {m : List Addr} {S : Sto} {ρ : Nv} {W : WX} {Q : VK} {pos : Pos} {a b c x : Expr} {f g h : Nv → Sto → Res D} {rest : List Expr} {o : BoolOp}
def boF (o : BoolOp) (f g : Nv → Sto → Res D) : Nv → Sto → Res D := fun ρ S => (f ρ S).bind fun d S => (truI d S).bind fun k S => match o, k with
  | .And, true => g ρ S
  | .Or, false => g ρ S
  | _, _ => .ok d S
theorem se_bo_one (ha : PE X a (tR cA X.F W f)) : PE X (.BoolOp o [a] pos) (tR cA X.F W f) := pe_one ha
theorem se_bo_cons (ha : PE X a (tR cA X.F W f)) (hb : PE X (.BoolOp o (b :: rest) pos) (tR cA X.F W g)) : PE X (.BoolOp o (a :: b :: rest) pos) (tR cA X.F W (boF o f g)) := by
  cases o with
  | And =>
    refine (pe_andT ha hb).imp fun σ H Q ⟨m, ρ, S, rn, rs, hp⟩ => ⟨m, ρ, S, rn, rs, (Post.bind hp).imp fun v H1 ⟨m1, d, S1, _, e1, rs1, rd1, h1⟩ => ?_⟩
    cases q : truI d S1 with
    | ok k S2 =>
      rw [q] at h1
      obtain ⟨t, rfl⟩ := sv_tru rs1 rd1 q
      refine ⟨k, t, ?_⟩
      cases k with
      | true => simpa using (show tR cA X.F W g σ H1 Q from ⟨m1, ρ, S2, rn.ext e1, rs1, h1⟩)
      | false => simpa using (show Q v H1 from h1 m1 H1 v .refl rs1 rd1)
    | exc x S2 => exact absurd q truI_nx
    | stuck => rw [q] at h1; exact h1.elim
  | Or =>
    refine (pe_orT ha hb).imp fun σ H Q ⟨m, ρ, S, rn, rs, hp⟩ => ⟨m, ρ, S, rn, rs, (Post.bind hp).imp fun v H1 ⟨m1, d, S1, _, e1, rs1, rd1, h1⟩ => ?_⟩
    cases q : truI d S1 with
    | ok k S2 =>
      rw [q] at h1
      obtain ⟨t, rfl⟩ := sv_tru rs1 rd1 q
      refine ⟨k, t, ?_⟩
      cases k with
      | false => simpa using (show tR cA X.F W g σ H1 Q from ⟨m1, ρ, S2, rn.ext e1, rs1, h1⟩)
      | true => simpa using (show Q v H1 from h1 m1 H1 v .refl rs1 rd1)
    | exc x S2 => exact absurd q truI_nx
    | stuck => rw [q] at h1; exact h1.elim
theorem tK_bo (ρ : Nv) (S : Sto) : tK (boF o f g) ρ S = (tK f ρ S).bind fun k S => match o, k with
    | .And, true => tK g ρ S
    | .Or, false => tK g ρ S
    | .And, false => .ok false S
    | .Or, true => .ok true S := by
  unfold tK boF
  cases f ρ S with
  | ok d S1 =>
    simp only [Res.bind]
    cases q : truI d S1 with
    | ok k S2 =>
      obtain rfl := truI_self q
      cases o <;> cases k <;> simp [q]
    | exc x S2 => exact absurd q truI_nx
    | stuck => rfl
  | exc x S1 => rfl
  | stuck => rfl
theorem sw_bo_one (ha : PT X a (tB cA X.F W (tK f))) : PW X (.BoolOp o [a] pos) (tB cA X.F W (tK f)) := by
  cases o with
  | And => exact pw_and1 ha
  | Or => exact pw_or1 ha
theorem sw_bo_cons (ha : PT X a (tB cA X.F W (tK f))) (hb : PW X (.BoolOp o (b :: rest) pos) (tB cA X.F W (tK g))) : PW X (.BoolOp o (a :: b :: rest) pos) (tB cA X.F W (tK (boF o f g))) := by
  cases o with
  | And =>
    refine (pw_and ha hb).imp fun σ H Q ⟨m, ρ, S, rn, rs, hp⟩ => ⟨m, ρ, S, rn, rs, ?_⟩
    rw [tK_bo] at hp
    refine (PostB.bindB hp).imp fun k H1 ⟨m1, S1, _, e1, rs1, h1⟩ => ?_
    cases k with
    | true => simpa using (show tB cA X.F W (tK g) σ H1 Q from ⟨m1, ρ, S1, rn.ext e1, rs1, h1⟩)
    | false => simpa using (show Q false H1 from h1 m1 H1 .refl rs1)
  | Or =>
    refine (pw_or ha hb).imp fun σ H Q ⟨m, ρ, S, rn, rs, hp⟩ => ⟨m, ρ, S, rn, rs, ?_⟩
    rw [tK_bo] at hp
    refine (PostB.bindB hp).imp fun k H1 ⟨m1, S1, _, e1, rs1, h1⟩ => ?_
    cases k with
    | false => simpa using (show tB cA X.F W (tK g) σ H1 Q from ⟨m1, ρ, S1, rn.ext e1, rs1, h1⟩)
    | true => simpa using (show Q true H1 from h1 m1 H1 .refl rs1)
def ifeF (h f g : Nv → Sto → Res D) : Nv → Sto → Res D := fun ρ S => (h ρ S).bind fun x S => (truI x S).bind fun k S => if k then f ρ S else g ρ S
theorem ifeF_eq (ρ : Nv) (S : Sto) : ifeF h f g ρ S = (tK h ρ S).bind fun k S => if k then f ρ S else g ρ S := by unfold ifeF tK; rw [bind_assoc]
theorem se_ife (hc : PT X c (tB cA X.F W (tK h))) (ha : PE X a (tR cA X.F W f)) (hb : PE X b (tR cA X.F W g)) : PE X (.IfExp c a b pos) (tR cA X.F W (ifeF h f g)) :=
  (pe_ifExp hc ha hb).imp fun σ H Q ⟨m, ρ, S, rn, rs, hp⟩ => ⟨m, ρ, S, rn, rs, by
    rw [ifeF_eq] at hp
    refine (Post.bindB hp).imp fun k H1 ⟨m1, S1, _, e1, rs1, h1⟩ => ?_
    cases k with
    | true => simpa using (show tR cA X.F W f σ H1 Q from ⟨m1, ρ, S1, rn.ext e1, rs1, h1⟩)
    | false => simpa using (show tR cA X.F W g σ H1 Q from ⟨m1, ρ, S1, rn.ext e1, rs1, h1⟩)⟩
theorem tK_ife (ρ : Nv) (S : Sto) : tK (ifeF h f g) ρ S = (tK h ρ S).bind fun k S => if k then tK f ρ S else tK g ρ S := by
  show ((ifeF h f g ρ S).bind truI) = _
  rw [ifeF_eq, bind_assoc]
  congr 1
  funext k S1
  cases k <;> rfl
theorem st_ife (hc : PT X c (tB cA X.F W (tK h))) (ha : PT X a (tB cA X.F W (tK f))) (hb : PT X b (tB cA X.F W (tK g))) : PT X (.IfExp c a b pos) (tB cA X.F W (tK (ifeF h f g))) :=
  ⟨fun pins s σ H Q I ⟨m, ρ, S, rn, rs, hp⟩ => by
    rw [tK_ife] at hp
    refine wpAny_bind (thn (hc.run pins s σ H _ I ⟨m, ρ, S, rn, rs, PostB.bindB hp⟩) fun k s1 ⟨H1, I1, m1, S1, _, e1, rs1, h1⟩ => ?_)
    cases k with
    | true => exact ha.run pins s1 σ H1 Q I1 ⟨m1, ρ, S1, rn.ext e1, rs1, h1⟩
    | false => exact hb.run pins s1 σ H1 Q I1 ⟨m1, ρ, S1, rn.ext e1, rs1, h1⟩⟩

/-! ### a[i], a[lo:hi] -/
def noSlice : Expr → Bool
  | .Slice .. => false
  | _ => true
theorem plainIx_of (h : noSlice b = true) : PlainIx b := fun o i => by cases b <;> first | rfl | cases h
theorem se_ix (hs : noSlice b = true) (ha : PE X a (tR cA X.F W f)) (hb : PE X b (tR cA X.F W g)) : PE X (.Subscript a b pos) (tR cA X.F W fun ρ S => (f ρ S).bind fun x S => (g ρ S).bind fun y S => ixI x y S) :=
  (pe_ix ix_seq ha hb (plainIx_of hs)).imp fun σ H Q ⟨m, ρ, S, rn, rs, hp⟩ => by
    obtain ⟨m1, ρ1, S1, a1, a2, a3⟩ := seq2 rn rs hp
    exact ⟨m1, ρ1, S1, a1, a2, a3.imp fun x H1 ⟨m2, ρ2, S2, b1, b2, b3⟩ => ⟨m2, ρ2, S2, b1, b2, b3.imp fun y H2 ⟨m3, d, e, S3, rs3, dx, dy, h3⟩ => sv_ix rs3 dx dy h3⟩⟩
/-- a text looked up in a dict of the top -/
theorem se_gd {t : List (Cs × PD)} {p : Addr} (hs : noSlice b = true) (ha : PE X a (tC (.ref p))) (hT : ∀ z x, t.lookup z = some x → ∃ v, KDct X.K X.w p (mkS z) v ∧ ∀ H, RelP X.F H x v) (hb : PE X b (tR cA X.F W g)) :
    PE X (.Subscript a b pos) (tR cA X.F W fun ρ S => (g ρ S).bind fun d S => match d with
      | .p (.str z) => (match t.lookup z with
        | some x => ret1 x S
        | none => .stuck)
      | _ => .stuck) :=
  (pe_ix ix_kdict ha hb (plainIx_of hs)).imp fun σ H Q ⟨m, ρ, S, rn, rs, hp⟩ => ⟨m, ρ, S, rn, rs, (Post.bind hp).imp fun v H1 ⟨m1, d, S1, _, e1, rs1, rd1, h1⟩ => by
    split at h1
    · rename_i z
      split at h1
      · rename_i x hx
        obtain ⟨v0, k0, r0⟩ := hT _ _ hx
        cases rd1 with
        | p r =>
          cases r with
          | str _ hs => exact ⟨p, _, v0, rfl, rfl, k0, h1.dat rs1 (r0 H1)⟩
      · exact h1.elim
    · exact h1.elim⟩
/-- a part of a slice, behind the value -/
theorem part_of {k : Int → Sto → Res D} {R : Option Int → Hp → Prop} (rn : RelN X.F H m ρ σ) (rs : RelS X.F H m S) (hp : Post cA X.F m H σ W ((g ρ S).bind fun l S => asInt l S fun i => k i S) Q)
    (hR : ∀ i H1 m1 S1, Ext X.F H m H1 m1 → RelS X.F H1 m1 S1 → Post cA X.F m1 H1 σ W (k i S1) Q → R (some i) H1) : tPart (tR cA X.F W g) σ H R :=
  ⟨m, ρ, S, rn, rs, (Post.bind hp).imp fun v H1 ⟨m1, d, S1, _, e1, rs1, rd1, h1⟩ => by
    unfold asInt at h1
    split at h1
    · cases rd1 with | p r => cases r; exact ⟨_, rfl, hR _ H1 m1 S1 e1 rs1 h1⟩
    · exact h1.elim⟩
theorem se_slN {p2 : Pos} (ha : PE X a (tR cA X.F W f)) : PE X (.Subscript a (.Slice none none none p2) pos) (tR cA X.F W fun ρ S => (f ρ S).bind fun x S => slI x none none S) :=
  (pe_slice sl_any ha po_none po_none).imp fun σ H Q ⟨m, ρ, S, rn, rs, hp⟩ => ⟨m, ρ, S, rn, rs, (Post.bind hp).imp fun v H1 ⟨m1, d, S1, _, e1, rs1, rd1, h1⟩ => sv_sl rs1 rd1 h1⟩
theorem se_slL {p2 : Pos} (ha : PE X a (tR cA X.F W f)) (hb : PE X b (tR cA X.F W g)) : PE X (.Subscript a (.Slice (some b) none none p2) pos) (tR cA X.F W fun ρ S => (f ρ S).bind fun x S => (g ρ S).bind fun l S => asInt l S fun i => slI x (some i) none S) :=
  (pe_slice sl_any ha (po_some hb) po_none).imp fun σ H Q ⟨m, ρ, S, rn, rs, hp⟩ => ⟨m, ρ, S, rn, rs, (Post.bind hp).imp fun v H1 ⟨m1, d, S1, _, e1, rs1, rd1, h1⟩ =>
    part_of (rn.ext e1) rs1 h1 fun i H2 m2 S2 e2 rs2 h2 => sv_sl rs2 (rd1.ext e2) h2⟩
theorem se_slH {p2 : Pos} (ha : PE X a (tR cA X.F W f)) (hb : PE X b (tR cA X.F W g)) : PE X (.Subscript a (.Slice none (some b) none p2) pos) (tR cA X.F W fun ρ S => (f ρ S).bind fun x S => (g ρ S).bind fun l S => asInt l S fun i => slI x none (some i) S) :=
  (pe_slice sl_any ha po_none (po_some hb)).imp fun σ H Q ⟨m, ρ, S, rn, rs, hp⟩ => ⟨m, ρ, S, rn, rs, (Post.bind hp).imp fun v H1 ⟨m1, d, S1, _, e1, rs1, rd1, h1⟩ =>
    (show tPart (tR cA X.F W g) σ H1 fun u H3 => rSlX X.K v none u H3 Q from part_of (rn.ext e1) rs1 h1 fun i H2 m2 S2 e2 rs2 h2 => sv_sl rs2 (rd1.ext e2) h2)⟩
theorem se_sl {p2 : Pos} (ha : PE X a (tR cA X.F W f)) (hb : PE X b (tR cA X.F W g)) (hc : PE X c (tR cA X.F W h)) :
    PE X (.Subscript a (.Slice (some b) (some c) none p2) pos) (tR cA X.F W fun ρ S => (f ρ S).bind fun x S => (g ρ S).bind fun l S => asInt l S fun i => (h ρ S).bind fun l S => asInt l S fun j => slI x (some i) (some j) S) :=
  (pe_slice sl_any ha (po_some hb) (po_some hc)).imp fun σ H Q ⟨m, ρ, S, rn, rs, hp⟩ => ⟨m, ρ, S, rn, rs, (Post.bind hp).imp fun v H1 ⟨m1, d, S1, _, e1, rs1, rd1, h1⟩ =>
    part_of (k := fun i S => (h ρ S).bind fun l S => asInt l S fun j => slI d (some i) (some j) S) (rn.ext e1) rs1 h1 fun i H2 m2 S2 e2 rs2 h2 =>
      part_of (k := fun j S => slI d (some i) (some j) S) ((rn.ext e1).ext e2) rs2 h2 fun j H3 m3 S3 e3 rs3 h3 => sv_sl rs3 ((rd1.ext e2).ext e3) h3⟩

/-! ### calls -/
theorem bltI_nx {b : Bf} {ds : List D} {S S' : Sto} {x : Ex} : bltI b ds S ≠ .exc x S' := fun h => by
  unfold bltI at h
  repeat' (first | cases h | split at h)
def rB (cA : Ca) (K : Fg) (b : Bf) : List V → Hp → VK → Prop := fun vs H Q => ∃ m ds S, RelS K H m S ∧ RelDs K H m ds vs ∧ Post cA K m H [] (fun _ _ _ _ => False) (bltI b ds S) Q
theorem cr_blt (b : Bf) (hc : X.calm = true) (hu : X.A.units + 100 < cLine) : CallR X b.val (rB cA X.F b) := fun pins s σ H xs us Q I r ⟨m, ds, S, rs, rd, hp⟩ =>
  sv_blt (cA := cA) (W := fun _ _ _ _ => False) b hc hu I r rs rd (Post.swap (fun _ _ => bltI_nx) hp)
theorem se_blt {bf : Bf} {es : List Expr} {g : Nv → Sto → Res (List D)} {p : Pos} (hc : X.calm = true) (hu : X.A.units + 100 < cLine) (hg : Gl X bf.nm) (hm : X.mg bf.nm = none) (hpl : (a :: es).all plain = true) (ha : PA X (a :: es) (tA cA X.F W g)) :
    PE X (.Call (.Name bf.nm p) (a :: es) [] pos) (tR cA X.F W fun ρ S => (g ρ S).bind fun ds S => bltI bf ds S) := by
  have hpl' := hpl
  simp only [List.all_cons, Bool.and_eq_true] at hpl'
  have fin : ∀ σ H Q, tR cA X.F W (fun ρ S => (g ρ S).bind fun ds S => bltI bf ds S) σ H Q → tCB (rB cA X.F bf) (tA cA X.F W g) σ H Q := fun σ H Q ⟨m, ρ, S, rn, rs, hp⟩ => by
    obtain ⟨m1, ρ1, S1, a1, a2, a3⟩ := seqA rn rs hp
    exact ⟨m1, ρ1, S1, a1, a2, a3.imp fun vs H1 ⟨m2, ds, S2, _, rs2, rd2, h2⟩ => ⟨m2, ds, S2, rs2, rd2, Post.swap (fun _ _ => bltI_nx) h2⟩⟩
  have ty : ∀ T, bf.val = .type T → PE X (.Call (.Name bf.nm p) (a :: es) [] pos) (tR cA X.F W fun ρ S => (g ρ S).bind fun ds S => bltI bf ds S) := fun T e =>
    (pe_callTy (T := T) (r := rB cA X.F bf) (by rw [← e]; exact cr_blt bf hc hu) hg hm (by rw [← e]; exact bf.boot) ha bf.ne.1 bf.ne.2 (star_cons hpl'.1) (star_any hpl'.2)).imp fin
  have bu : ∀ T, bf.val = .builtin T → PE X (.Call (.Name bf.nm p) (a :: es) [] pos) (tR cA X.F W fun ρ S => (g ρ S).bind fun ds S => bltI bf ds S) := fun T e =>
    (pe_callB (id := T) (r := rB cA X.F bf) (by rw [← e]; exact cr_blt bf hc hu) hg hm (by rw [← e]; exact bf.boot) ha bf.ne.1 bf.ne.2 (star_cons hpl'.1) (star_any hpl'.2)).imp fin
  cases bf <;> first | exact ty _ rfl | exact bu _ rfl
theorem isI_nx {d : D} {S S' : Sto} {x : Ex} {t : Bool} : (if known d S then ret1 (.bl t) S else .stuck : Res D) ≠ .exc x S' := fun h => by split at h <;> cases h
theorem se_isi {t : Ty} {p p' : Pos} (hpl : plain a = true) (hg : Gl X "isinstance") (hm : X.mg "isinstance" = none) (hg' : Gl X t.nm) (hm' : X.mg t.nm = none) (ha : PE X a (tR cA X.F W f)) :
    PE X (.Call (.Name "isinstance" p) [a, .Name t.nm p'] [] pos) (tR cA X.F W fun ρ S => (f ρ S).bind fun x S => if known x S then ret1 (.bl (isTy x S t)) S else .stuck) :=
  (pe_callB call_isi hg hm PyProof.Rows.boot_isinstance (pa_cons ha (pa_cons (pe_bltn (v := .ty t.n) hg' hm' t.boot rfl t.ne.1 t.ne.2) pa_nil rfl) (star_cons hpl)) (he := star_cons hpl) (hpl := rfl)).imp fun σ H Q ⟨m, ρ, S, rn, rs, hp⟩ =>
    ⟨m, ρ, S, rn, rs, (Post.bind hp).imp fun v H1 ⟨m1, d, S1, _, e1, rs1, rd1, h1⟩ => by
      split at h1
      · rename_i hk
        exact ⟨v, .ty t.n, _, _, _, rfl, .ty _, sv_ty rs1 rd1 hk, isTy_kit t hk, h1.dat rs1 (.bl _)⟩
      · exact h1.elim⟩
theorem pa_tys : ∀ (ts : List (Ty × Pos)), (∀ t ∈ ts, Gl X t.1.nm ∧ X.mg t.1.nm = none) → ∃ t, PA X (ts.map fun t => Expr.Name t.1.nm t.2) t ∧ ∀ σ H Q, Q (ts.map fun t => V.ty t.1.n) H → t σ H Q
  | [], _ => ⟨_, pa_nil, fun _ _ _ q => q⟩
  | t :: ts, h => by
    obtain ⟨u, h1, h2⟩ := pa_tys ts fun t ht => h t (List.mem_cons_of_mem _ ht)
    obtain ⟨g1, g2⟩ := h t List.mem_cons_self
    exact ⟨_, pa_cons (pe_bltn (v := .ty t.1.n) g1 g2 t.1.boot rfl t.1.ne.1 t.1.ne.2) h1 rfl, fun σ H Q q => h2 σ H _ q⟩
theorem paired_tys : ∀ ts : List (Ty × Pos), Paired ClsV (ts.map fun t => V.ty t.1.n) ((ts.map (·.1)).map fun c => Value.type c.n)
  | [] => .nil
  | t :: ts => .cons (.ty _) (paired_tys ts)
theorem se_isT {ts : List (Ty × Pos)} {k : Nat} {p p' : Pos} (hz : ts.length ≤ 1000) (hpl : plain a = true) (hg : Gl X "isinstance") (hm : X.mg "isinstance" = none) (ht : ∀ t ∈ ts, Gl X t.1.nm ∧ X.mg t.1.nm = none) (ha : PE X a (tR cA X.F W f)) :
    PE X (.Call (.Name "isinstance" p) [a, .Tuple (ts.map fun t => Expr.Name t.1.nm t.2) k p'] [] pos) (tR cA X.F W fun ρ S => (f ρ S).bind fun x S => if known x S then ret1 (.bl ((ts.map (·.1)).any (isTy x S))) S else .stuck) := by
  obtain ⟨u, h1, h2⟩ := pa_tys ts ht
  refine (pe_callB call_isiT hg hm PyProof.Rows.boot_isinstance (pa_cons ha (pa_cons (pe_tup h1) pa_nil rfl) (star_cons hpl)) (he := star_cons hpl) (hpl := rfl)).imp fun σ H Q ⟨m, ρ, S, rn, rs, hp⟩ =>
    ⟨m, ρ, S, rn, rs, (Post.bind hp).imp fun v H1 ⟨m1, d, S1, _, e1, rs1, rd1, q1⟩ => h2 _ _ _ ⟨by rw [List.length_map, line_eq]; exact Nat.le_trans hz (by decide), fun q hq => ?_⟩⟩
  split at q1
  · rename_i hk
    have ex := Ext.more (K := X.F) (m := m1) hq (u := .tup (ts.map fun t => V.ty t.1.n))
    exact ⟨v, q, _, _, _, _, rfl, upd_same, paired_tys ts, sv_ty (rs1.more hq) (rd1.ext ex) hk, kitAny_map _ fun c _ => isTy_kit c hk, q1 m1 _ _ ex (rs1.more hq) (.p (.bl _))⟩
  · exact q1.elim
theorem mthI_nx {b : Mt} {d : D} {ds : List D} {S S' : Sto} {x : Ex} : mthI b d ds S ≠ .exc x S' := fun h => by
  unfold mthI at h
  repeat' (first | cases h | split at h)
def rM (cA : Ca) (K : Fg) (b : Mt) : V → List V → Hp → VK → Prop := fun x vs H Q => ∃ m d ds S, RelS K H m S ∧ RelD K H m d x ∧ RelDs K H m ds vs ∧ Post cA K m H [] (fun _ _ _ _ => False) (mthI b d ds S) Q
theorem mt_any (b : Mt) : MtR X b.id (rM cA X.F b) := fun pins s σ H x xs v us Q I rx r ⟨m, d, ds, S, rs, dx, rd, hp⟩ =>
  sv_mth (cA := cA) (W := fun _ _ _ _ => False) b I rx r rs dx rd (Post.swap (fun _ _ => mthI_nx) hp)
def mthF (b : Mt) (f : Nv → Sto → Res D) (g : Nv → Sto → Res (List D)) : Nv → Sto → Res D := fun ρ S => (f ρ S).bind fun x S => if recv b x S then (g ρ S).bind fun ds S => mthI b x ds S else .stuck
theorem mth_of {b : Mt} {g : Nv → Sto → Res (List D)} (rn : RelN X.F H m ρ σ) (rs : RelS X.F H m S) (hp : Post cA X.F m H σ W (mthF b f g ρ S) Q) :
    tR cA X.F W f σ H fun x H1 => tyV X.K b.T x H1 ∧ tA cA X.F W g σ H1 fun xs H2 => rM cA X.F b x xs H2 Q :=
  ⟨m, ρ, S, rn, rs, (Post.bind hp).imp fun v H1 ⟨m1, d, S1, _, e1, rs1, rd1, h1⟩ => by
    split at h1
    · rename_i hk
      exact ⟨sv_recv rs1 rd1 hk, m1, ρ, S1, rn.ext e1, rs1, (Post.bindA h1).imp fun vs H2 ⟨m2, ds, S2, _, e2, rs2, r2, h2⟩ => ⟨m2, d, ds, S2, rs2, rd1.ext e2, r2, Post.swap (fun _ _ => mthI_nx) h2⟩⟩
    · exact h1.elim⟩
theorem se_mth {b : Mt} {es : List Expr} {g : Nv → Sto → Res (List D)} {o e : Expr} {apos : Pos} (hbase : attributeBase o b.nm X.env (eval o X.env) = eval o X.env) (hline : (apos.endLine == pos.line) = true) (hpl : (e :: es).all plain = true) (hfew : (e :: es).length < 30)
    (ho : PE X o (tR cA X.F W f)) (ha : PA X (e :: es) (tA cA X.F W g)) : PE X (.Call (.Attribute o b.nm apos) (e :: es) [] pos) (tR cA X.F W (mthF b f g)) := by
  have hpl' := hpl
  simp only [List.all_cons, Bool.and_eq_true] at hpl'
  exact (pe_bm b.pa b.slot b.ty (mt_any (cA := cA) b) ho ha hbase (by rw [star_all hpl]; simp [keywordEach, backToKw]; simpa using hfew) hline (star_cons hpl'.1) (star_any hpl'.2)).imp fun σ H Q ⟨m, ρ, S, rn, rs, hp⟩ => mth_of rn rs hp
theorem se_mth0 {b : Mt} {o : Expr} {apos : Pos} (hbase : attributeBase o b.nm X.env (eval o X.env) = eval o X.env) (hline : (apos.endLine == pos.line) = true)
    (ho : PE X o (tR cA X.F W f)) : PE X (.Call (.Attribute o b.nm apos) [] [] pos) (tR cA X.F W (mthF b f fun _ S => .ok [] S)) :=
  (pe_bm0 b.pa b.slot b.ty (mt_any (cA := cA) b) ho hbase hline).imp fun σ H Q ⟨m, ρ, S, rn, rs, hp⟩ => by
    obtain ⟨m1, ρ1, S1, a1, a2, a3⟩ := mth_of rn rs hp
    refine ⟨m1, ρ1, S1, a1, a2, a3.imp fun x H1 ⟨t, m2, ρ2, S2, b1, b2, b3⟩ => ⟨t, b3 m2 H1 [] .refl b2 .nil⟩⟩
end
end PH

set_option maxHeartbeats 4000000
/-! PH, part I: targets, walks, comprehensions, calls of the text's own defs. -/
namespace PH
open L2 PySem PySem.Spec PyProof.Rows
/-! ### targets -/
mutual
def Tg.sl : Tg → List Nat
  | .nm i => [i]
  | .tp ts => Tg.sls ts
def Tg.sls : List Tg → List Nat
  | [] => []
  | t :: ts => Tg.sl t ++ Tg.sls ts
end
/-- the slots beside vs are as they were -/
def Agr (vs : List Nat) (σ σ' : L2.St) : Prop := σ'.length = σ.length ∧ ∀ j, j ∉ vs → σ'[j]? = σ[j]?
theorem Agr.refl {vs : List Nat} {σ : L2.St} : Agr vs σ σ := ⟨rfl, fun _ _ => rfl⟩
theorem Agr.trans {vs ws : List Nat} {σ σ1 σ2 : L2.St} (a : Agr vs σ σ1) (b : Agr ws σ1 σ2) : Agr (vs ++ ws) σ σ2 :=
  ⟨b.1.trans a.1, fun j h => (b.2 j fun z => h (List.mem_append_right _ z)).trans (a.2 j fun z => h (List.mem_append_left _ z))⟩
theorem wipe_get (σ : L2.St) : ∀ (vs : List Nat) (j : Nat), (L2.wipe σ vs)[j]? = if j ∈ vs then (if j < σ.length then some none else none) else σ[j]?
  | [], j => by simp [L2.wipe]
  | v :: vs, j => by
    unfold L2.wipe
    by_cases hj : v = j
    · subst hj
      by_cases hl : v < σ.length
      · rw [List.getElem?_set_self (by rw [wipe_length]; exact hl)]; simp [hl]
      · rw [List.getElem?_eq_none (by simp [wipe_length]; omega)]; simp [hl]
    · rw [List.getElem?_set_ne hj, wipe_get σ vs j]
      have : (j ∈ v :: vs) ↔ j ∈ vs := by simp [Ne.symm hj]
      simp only [this]
theorem wipe_agr {σ σ' : L2.St} {vs ws : List Nat} (h : ∀ j ∈ ws, j ∈ vs) (a : Agr ws (L2.wipe σ vs) σ') : L2.wipe σ' vs = L2.wipe σ vs := by
  apply List.ext_getElem?
  intro j
  have hl : σ'.length = σ.length := by rw [a.1, wipe_length]
  rw [wipe_get, wipe_get]
  by_cases hj : j ∈ vs
  · simp [hj, hl]
  · simp only [hj, if_false]
    rw [a.2 j fun z => hj (h j z), wipe_get]
    simp [hj]
section
variable (K : Fg)
def tG (tg : Tg) : TG := fun v σ H Q => ∃ m ρ S d, RelN K H m ρ σ ∧ RelS K H m S ∧ RelD K H m d v ∧ match asgT tg d ρ with
  | some ρ' => ∀ σ', RelN K H m ρ' σ' → Agr tg.sl σ σ' → Q σ' H
  | none => False
def tGs (ts : List Tg) : TGs := fun vs σ H Q => ∃ m ρ S ds, RelN K H m ρ σ ∧ RelS K H m S ∧ RelDs K H m ds vs ∧ match asgTs ts ds ρ with
  | some ρ' => ∀ σ', RelN K H m ρ' σ' → Agr (Tg.sls ts) σ σ' → Q σ' H
  | none => False
end
section
variable {cA : Ca} {X : Cx} {σ : L2.St} {H : Hp} {m : List Addr} {S : Sto} {ρ : Nv} {W : WX} {Q : VK} {pos : Pos} {a b c x : Expr} {f g h : Nv → Sto → Res D}
theorem _root_.L2.PG.imp {X : Cx} {e : Expr} {t t' : TG} (h : PG X e t) (f : ∀ v σ H Q, t' v σ H Q → t v σ H Q) : PG X e t' := ⟨fun pins s σ H v u Q I r q => h.run pins s σ H v u Q I r (f v σ H Q q)⟩
theorem _root_.L2.PGs.imp {X : Cx} {e : List Expr} {t t' : TGs} (h : PGs X e t) (f : ∀ v σ H Q, t' v σ H Q → t v σ H Q) : PGs X e t' := ⟨fun pins s σ H v u Q I r q => h.run pins s σ H v u Q I r (f v σ H Q q)⟩
theorem sg_nm {i : Nat} {n : Str} (hN : X.N.Nodup) (hi : X.N[i]? = some n) (hx : Loc X.env.scope n) (hf : X.fn n = true ∨ X.env.scope.names.lookup n = some .local) : PG X (.Name n pos) (tG X.F (.nm i)) :=
  (pg_name hN hi hx hf).imp fun v σ H Q ⟨m, ρ, S, d, rn, rs, rd, h⟩ => h _ (rn.set rd i) ⟨by simp, fun j hj => List.getElem?_set_ne (fun z => hj (by simp [Tg.sl, z]))⟩
theorem assign_cons {e : Expr} {es : List Expr} {env : Env} (h : plain e = true) : assignEach (e :: es) env = (false, assign e env) :: assignEach es env := by
  cases e <;> first | rfl | cases h
theorem assign_len : ∀ {es : List Expr} {env : Env}, es.all plain = true → (assignEach es env).length = es.length ∧ (assignEach es env).findIdx? (·.1) = none
  | [], _, _ => ⟨rfl, rfl⟩
  | e :: es, env, h => by
    simp only [List.all_cons, Bool.and_eq_true] at h
    obtain ⟨h1, h2⟩ := assign_len (env := env) h.2
    rw [assign_cons h.1]
    exact ⟨by simp [h1], by simp [List.findIdx?_cons, h2]⟩
theorem sg_nil : PGs X [] (tGs X.F []) := pgs_nil.imp fun vs σ H Q ⟨m, ρ, S, ds, rn, rs, rd, h⟩ => by
  cases rd with
  | nil => exact ⟨rfl, h σ rn .refl⟩
  | cons _ _ => exact h.elim
theorem sg_cons {e : Expr} {es : List Expr} {t : Tg} {ts : List Tg} (hp : plain e = true) (h1 : PG X e (tG X.F t)) (h2 : PGs X es (tGs X.F ts)) : PGs X (e :: es) (tGs X.F (t :: ts)) :=
  (pgs_cons h1 h2 (by rw [assign_cons hp]; rfl)).imp fun vs σ H Q ⟨m, ρ, S, ds, rn, rs, rd, h⟩ => by
    cases rd with
    | nil => exact h.elim
    | @cons d ds v vs r1 r2 =>
      refine ⟨v, vs, rfl, m, ρ, S, d, rn, rs, r1, ?_⟩
      simp only [asgTs] at h
      cases q : asgT t d ρ with
      | none => simp [q] at h
      | some ρ1 =>
        simp only [q, Option.bind_some] at h
        intro σ1 rn1 ag
        refine ⟨m, ρ1, S, ds, rn1, rs, r2, ?_⟩
        cases q2 : asgTs ts ds ρ1 with
        | none => simp [q2] at h
        | some ρ2 =>
          simp only [q2] at h ⊢
          exact fun σ2 rn2 ag2 => h σ2 rn2 (ag.trans ag2)
theorem sg_tp {es : List Expr} {k : Nat} {ts : List Tg} (hc : X.calm = true) (hp : es.all plain = true) (hl : es.length = ts.length) (h : PGs X es (tGs X.F ts)) : PG X (.Tuple es k pos) (tG X.F (.tp ts)) :=
  (pg_tup hc h (assign_len hp).1 (assign_len hp).2).imp fun v σ H Q ⟨m, ρ, S, d, rn, rs, rd, h⟩ => by
    have len : ∀ (ts : List Tg) (ds : List D) (ρ ρ' : Nv), asgTs ts ds ρ = some ρ' → ts.length = ds.length := by
      intro ts
      induction ts with
      | nil => intro ds ρ ρ' e; cases ds <;> simp_all [asgTs]
      | cons t ts ih =>
        intro ds ρ ρ' e
        cases ds with
        | nil => simp [asgTs] at e
        | cons d ds =>
          simp only [asgTs] at e
          obtain ⟨ρ1, _, e2⟩ := Option.bind_eq_some_iff.mp e
          simp [ih ds ρ1 ρ' e2]
    cases d with
    | ref n => exact h.elim
    | xv _ _ _ _ => exact h.elim
    | p x =>
      cases x with
      | tup xs =>
        cases rd with
        | p r =>
          cases r with
          | tup hq r =>
            simp only [asgT] at h
            refine ⟨_, _, rfl, hq, ?_, m, ρ, S, _, rn, rs, r.up, ?_⟩
            · cases q : asgTs ts (xs.map .p) ρ with
              | none => simp [q] at h
              | some ρ' =>
                have := len _ _ _ _ q
                rw [hl, this, List.length_map, r.length]
            · cases q : asgTs ts (xs.map .p) ρ with
              | none => simp [q] at h
              | some ρ' => simpa [q, Tg.sl] using h
      | non => exact h.elim
      | bl _ => exact h.elim
      | int _ => exact h.elim
      | str _ => exact h.elim
    | mt xs =>
      cases rd with
      | mt hq r =>
        simp only [asgT] at h
        refine ⟨_, _, rfl, hq, ?_, m, ρ, S, _, rn, rs, r, ?_⟩
        · cases q : asgTs ts xs ρ with
          | none => simp [q] at h
          | some ρ' =>
            have := len _ _ _ _ q
            rw [hl, this, r.length]
        · cases q : asgTs ts xs ρ with
          | none => simp [q] at h
          | some ρ' => simpa [q, Tg.sl] using h

/-! ### walks -/
/-- the iterator yields the items while the list walked stands still -/
def ItOk (K : Fg) (m : List Addr) (H : Hp) (J : It) (w : Wk) : Prop :=
  ∀ m' H' S', Ext K H m H' m' → RelS K H' m' S' → w.still S' = true → ∀ i, (w.ds.length ≤ i → J.stop i H') ∧ ∀ d, w.ds[i]? = some d → J.go i H' ∧ ∀ x H'', J.yld i H' x H'' → H'' = H' ∧ RelD K H' m' d x
def tW (cA : Ca) (K : Fg) (W : WX) (w : Nv → Sto → Res Wk) : TI := fun σ H R => ∃ m ρ S, RelN K H m ρ σ ∧ RelS K H m S ∧ match w ρ S with
  | .ok wk S1 => ∀ m1 H1 J, Ext K H m H1 m1 → RelS K H1 m1 S1 → ItOk K m1 H1 J wk → R J H1
  | .exc x S1 => ∀ m' H' c dx, Ext K H m H' m' → RelS K H' m' S1 → RelX cA K H' m' x c dx → W c dx σ H'
  | .stuck => False
theorem sq_uniq_go {K : PySem.W.Frag} {H : Hp} {a : Addr} {vs : List V} {i : Nat} {v : V} (h : SqL K H a vs) (hv : vs[i]? = some v) : (Itl K a).go i H := ⟨vs, v, h, hv⟩
theorem itok_ref {n : Nat} {o : O} {a : Addr} (hl : o.isL = true) (ha : m[n]? = some a) : ItOk X.F m H (Itl X.K a) ⟨o.ds, some (n, o)⟩ := fun m' H' S' e rs hs i => by
  have hn : S'[n]? = some o := by simpa [Wk.still] using hs
  obtain ⟨b, eb, ro⟩ := rs.ob _ _ hn
  obtain ⟨t, rfl⟩ := e.pre
  rw [pre_get ha] at eb; cases eb
  obtain ⟨vs, hq, r⟩ := ro.lst hl
  refine ⟨fun hi => ⟨vs, hq, by rw [← r.length]; exact hi⟩, fun d hd => ?_⟩
  obtain ⟨v, hv, rv⟩ := r.get hd
  refine ⟨⟨vs, v, hq, hv⟩, fun x H'' hy => ⟨hy.1, ?_⟩⟩
  have := hy.2 vs hq
  rw [hv] at this; cases this
  exact rv
theorem itok_tup {w : Wk} {a : Addr} {vs : List V} (hw : w.src = none) (hq : SqT X.K H a vs) (r : RelDs X.F H m w.ds vs) : ItOk X.F m H (Itt X.K a) w := fun m' H' S' e rs hs i => by
  have hq' := e.kp.1 _ _ hq
  have r' := r.ext e
  refine ⟨fun hi => ⟨vs, hq', by rw [← r.length]; exact hi⟩, fun d hd => ?_⟩
  obtain ⟨v, hv, rv⟩ := r'.get hd
  refine ⟨⟨vs, v, hq', hv⟩, fun x H'' hy => ⟨hy.1, ?_⟩⟩
  have := hy.2 vs hq'
  rw [hv] at this; cases this
  exact rv
theorem itok_str {z : Cs} (hz : okS z) : ItOk X.F m H (Its (mkS z)) ⟨z.map fun c => .p (.str [c]), none⟩ := fun m' H' S' e rs hs i => by
  have hl : (mkS z).cps.size = z.length := by simp [mkS]
  refine ⟨fun hi => by show (mkS z).cps.size ≤ i; rw [hl]; simpa using hi, fun d hd => ?_⟩
  simp only [List.getElem?_map] at hd
  obtain ⟨c, hc, rfl⟩ := Option.map_eq_some_iff.mp hd
  have hi : i < z.length := (List.getElem?_eq_some_iff.mp hc).1
  refine ⟨by show i < (mkS z).cps.size; rw [hl]; exact hi, fun x H'' hy => ⟨hy.1, ?_⟩⟩
  obtain ⟨c', h1, rfl⟩ := hy.2
  have : (mkS z).cps[i]? = z[i]? := by simp [mkS]
  rw [this, hc] at h1; cases h1
  exact .p (.str [c] ⟨by simp [LINE], fun q hq => by rw [List.mem_singleton.mp hq]; exact hz.2 c (List.mem_of_getElem? hc)⟩)
theorem itok_rg {lo : Int} {n : Nat} : ItOk X.F m H (Itr lo n) ⟨rgS lo 1 n, none⟩ := fun m' H' S' e rs hs i => by
  have hl : (rgS lo 1 n).length = n := by simp [rgS]
  refine ⟨fun hi => by show n ≤ i; simpa [hl] using hi, fun d hd => ?_⟩
  have hi : i < n := by have := (List.getElem?_eq_some_iff.mp hd).1; simpa [hl] using this
  refine ⟨hi, fun x H'' hy => ⟨hy.1, ?_⟩⟩
  rw [hy.2]
  simp only [rgS, List.getElem?_map, List.getElem?_range hi, Option.map_some, Option.some.injEq, Int.mul_one] at hd
  subst hd
  exact .p (.int _)
theorem itok_x {a : Addr} {od : Obj} {u : HO} {ks : List PD} {ws : List V} (ha : H a = some (.frz od u)) (r : RelPs X.F H ks ws) : ItOk X.F m H (Itx a od u ws) ⟨ks.map .p, none⟩ := fun m' H' S' e rs hs i => by
  have ha' := e.kp.2.2 _ _ _ ha
  have r' := r.mono e.kp
  refine ⟨fun hi => ⟨ha', by rw [← r.length]; simpa using hi⟩, fun d hd => ?_⟩
  rw [List.getElem?_map] at hd
  obtain ⟨k, hk, rfl⟩ := Option.map_eq_some_iff.mp hd
  obtain ⟨v, hv, rv⟩ := r'.get hk
  refine ⟨⟨ha', (List.getElem?_eq_some_iff.mp hv).1⟩, fun x H'' hy => ⟨hy.1, ?_⟩⟩
  have := hy.2
  rw [hv] at this; cases this
  exact .p rv
theorem sw_of {tg l : Expr} (hl : PE X l (tR cA X.F W f)) : PI X tg l (tW cA X.F W fun ρ S => (f ρ S).bind wkOf) := ⟨fun pins s σ H R I ⟨m, ρ, S, rn, rs, h⟩ => by
  cases q : f ρ S with
  | stuck => simp only [q, Res.bind] at h
  | exc x S1 =>
    simp only [q, Res.bind] at h
    refine (pi_list hl).run pins s σ H R I ⟨m, ρ, S, rn, rs, ?_⟩
    rw [q]; exact h
  | ok d S1 =>
    simp only [q, Res.bind] at h
    cases q2 : wkOf d S1 with
    | stuck => simp only [q2] at h
    | exc x S2 =>
      exfalso
      unfold wkOf at q2
      repeat' (first | cases q2 | split at q2)
    | ok wk S2 =>
      simp only [q2] at h
      unfold wkOf at q2
      split at q2
      · cases q2
        refine (pi_str hl).run pins s σ H R I ⟨m, ρ, S, rn, rs, ?_⟩
        rw [q]
        intro m1 H1 v e1 rs1 rd1
        cases rd1 with | p r => cases r with | str z hz => exact ⟨_, rfl, h m1 H1 _ e1 rs1 (itok_str hz)⟩
      · cases q2
        refine (pi_tup hl).run pins s σ H R I ⟨m, ρ, S, rn, rs, ?_⟩
        rw [q]
        intro m1 H1 v e1 rs1 rd1
        cases rd1 with | p r => cases r with | tup hq r => exact ⟨_, rfl, ⟨_, hq⟩, h m1 H1 _ e1 rs1 (itok_tup rfl hq r.up)⟩
      · cases q2
        refine (pi_tup hl).run pins s σ H R I ⟨m, ρ, S, rn, rs, ?_⟩
        rw [q]
        intro m1 H1 v e1 rs1 rd1
        cases rd1 with | mt hq r => exact ⟨_, rfl, ⟨_, hq⟩, h m1 H1 _ e1 rs1 (itok_tup rfl hq r)⟩
      · rename_i n
        split at q2
        · rename_i o ho
          split at q2
          · rename_i hil
            cases q2
            refine (pi_list hl).run pins s σ H R I ⟨m, ρ, S, rn, rs, ?_⟩
            rw [q]
            intro m1 H1 v e1 rs1 rd1
            cases rd1 with
            | @ref _ a ha =>
              obtain ⟨b, eb, ro⟩ := rs1.ob _ _ ho
              rw [ha] at eb; cases eb
              obtain ⟨vs, hq, _⟩ := ro.lst hil
              exact ⟨_, rfl, ⟨vs, hq⟩, h m1 H1 _ e1 rs1 (itok_ref hil ha)⟩
          · split at q2
            · rename_i ks o' hfr
              cases q2
              refine thn (hl.run pins s σ H (fun v H1 => ∃ m1, Ext X.F H m H1 m1 ∧ RelS X.F H1 m1 S1 ∧ RelD X.F H1 m1 (.ref n) v) I ⟨m, ρ, S, rn, rs, by rw [q]; exact fun m1 H1 v e1 rs1 rd1 => ⟨m1, e1, rs1, rd1⟩⟩) fun u s1 ⟨x, H1, I1, rx, m1, e1, rs1, rd1⟩ => ?_
              cases rd1 with
              | @ref _ a ha =>
              obtain rfl : u = Value.ref a := rx
              obtain ⟨H2, ho2, od, es, ep, ws, I2, e2, rs2, hz, k⟩ := freeze I1 rs1 ha ho hfr
              refine iter_keys k.sys k.get k.ex k.dat (pi_one (tk := s1.toks) I2 _ (turn_x _ k.dat k.vals) ⟨_, Heap.get?_push_size _ rfl, rfl, ?_⟩ (h m1 H2 _ (e1.trans e2) rs2 (itok_x hz k.rel)))
              rw [k.size.2] <;> rfl
            · cases q2
        · cases q2
      · cases q2⟩
theorem small_of {i : Int} (h : small i = true) : -(2 ^ 62) ≤ i ∧ i < 2 ^ 62 := by simpa [small] using h
def rg1F (f : Nv → Sto → Res D) : Nv → Sto → Res Wk := fun ρ S => (f ρ S).bind fun x S => match x with
  | .p (.int n) => if small n then .ok ⟨rgS 0 1 n.toNat, none⟩ S else .stuck
  | _ => .stuck
def rg2F (f g : Nv → Sto → Res D) : Nv → Sto → Res Wk := fun ρ S => (f ρ S).bind fun x S => (g ρ S).bind fun y S => match x, y with
  | .p (.int i), .p (.int j) => if small i && small j then .ok ⟨rgS i 1 (j - i).toNat, none⟩ S else .stuck
  | _, _ => .stuck
/-- behind a value, for a walk -/
theorem wk_bind {k : D → Sto → Res Wk} {R : It → Hp → Prop} (h : match (f ρ S).bind k with
  | .ok wk S1 => ∀ m1 H1 J, Ext X.F H m H1 m1 → RelS X.F H1 m1 S1 → ItOk X.F m1 H1 J wk → R J H1
  | .exc x S1 => ∀ m' H' c dx, Ext X.F H m H' m' → RelS X.F H' m' S1 → RelX cA X.F H' m' x c dx → W c dx σ H'
  | .stuck => False) : Post cA X.F m H σ W (f ρ S) fun v H1 => ∃ m1 d S1, f ρ S = .ok d S1 ∧ Ext X.F H m H1 m1 ∧ RelS X.F H1 m1 S1 ∧ RelD X.F H1 m1 d v ∧ match k d S1 with
  | .ok wk S2 => ∀ m2 H2 J, Ext X.F H1 m1 H2 m2 → RelS X.F H2 m2 S2 → ItOk X.F m2 H2 J wk → R J H2
  | .exc x S2 => ∀ m' H' c dx, Ext X.F H1 m1 H' m' → RelS X.F H' m' S2 → RelX cA X.F H' m' x c dx → W c dx σ H'
  | .stuck => False := by
  cases q : f ρ S with
  | stuck => simp only [q, Res.bind] at h
  | exc x S1 => simp only [q, Res.bind] at h; exact h
  | ok d S1 =>
    intro m1 H1 v e1 rs1 rd1
    refine ⟨m1, d, S1, rfl, e1, rs1, rd1, ?_⟩
    simp only [q, Res.bind] at h
    cases q2 : k d S1 with
    | ok wk S2 => simp only [q2] at h ⊢; exact fun m2 H2 J e2 => h m2 H2 J (e1.trans e2)
    | exc x S2 => simp only [q2] at h ⊢; exact fun m2 H2 c dx e2 => h m2 H2 c dx (e1.trans e2)
    | stuck => simp only [q2] at h
theorem sw_rg1 {tg : Expr} {p : Pos} (hpl : plain a = true) (hg : Gl X "range") (hm : X.mg "range" = none) (ha : PE X a (tR cA X.F W f)) : PI X tg (.Call (.Name "range" p) [a] [] pos) (tW cA X.F W (rg1F f)) := ⟨fun pins s σ H R I ⟨m, ρ, S, rn, rs, h⟩ => by
  refine (pi_range1 hg hm (pa_cons ha pa_nil (star_cons hpl)) (star_cons hpl)).run pins s σ H R I ⟨m, ρ, S, rn, rs, (wk_bind h).imp fun v H1 ⟨m1, d, S1, _, e1, rs1, rd1, h1⟩ => ?_⟩
  split at h1
  · rename_i wk S2 q2
    split at q2
    · rename_i n
      split at q2
      · rename_i hs
        cases q2
        cases rd1 with
        | p r =>
          cases r
          have hb := small_of hs
          exact ⟨_, rfl, hb.1, hb.2, h1 m1 H1 _ .refl rs1 itok_rg⟩
      · cases q2
    · cases q2
  · rename_i x S2 q2
    split at q2
    · split at q2 <;> cases q2
    · cases q2
  · exact h1.elim⟩
theorem sw_rg2 {tg : Expr} {p : Pos} (hpl : plain a = true) (hpl' : plain b = true) (hg : Gl X "range") (hm : X.mg "range" = none) (ha : PE X a (tR cA X.F W f)) (hb : PE X b (tR cA X.F W g)) : PI X tg (.Call (.Name "range" p) [a, b] [] pos) (tW cA X.F W (rg2F f g)) := ⟨fun pins s σ H R I ⟨m, ρ, S, rn, rs, h⟩ => by
  refine (pi_range2 hg hm (pa_cons ha (pa_cons hb pa_nil (star_cons hpl')) (star_cons hpl)) (by rw [star_cons hpl, star_cons hpl']; rfl) (star_cons hpl')).run pins s σ H R I ⟨m, ρ, S, rn, rs, (wk_bind h).imp fun v H1 ⟨m1, d, S1, _, e1, rs1, rd1, h1⟩ =>
    ⟨m1, ρ, S1, rn.ext e1, rs1, (wk_bind h1).imp fun w H2 ⟨m2, e, S2, _, e2, rs2, rd2, h2⟩ => ?_⟩⟩
  have rd1' := rd1.ext e2
  split at h2
  · rename_i wk S3 q2
    split at q2
    · rename_i i j
      split at q2
      · rename_i hs
        simp only [Bool.and_eq_true] at hs
        cases q2
        cases rd1' with
        | p r =>
          cases r
          cases rd2 with
          | p r =>
            cases r
            have b1 := small_of hs.1
            have b2 := small_of hs.2
            exact ⟨_, _, rfl, ⟨b1.1, b1.2, b2.1, b2.2⟩, h2 m2 H2 _ .refl rs2 itok_rg⟩
      · cases q2
    · cases q2
  · rename_i x S3 q2
    split at q2
    · split at q2 <;> cases q2
    · cases q2
  · exact h2.elim⟩
def rgLF (f : Nv → Sto → Res D) : Nv → Sto → Res Wk := fun ρ S => (f ρ S).bind fun x S => (bltI .len [x] S).bind fun n S => match n with
  | .p (.int n) => .ok ⟨rgS 0 1 n.toNat, none⟩ S
  | _ => .stuck
/-- len(e) of what lies in the heap is small -/
theorem len_small {pins : List (Addr × Obj)} {s : Shared} {d : D} {v : V} {S1 : Sto} {r : D} (I : Inv X pins σ H s) (rs : RelS X.F H m S) (rd : RelD X.F H m d v) (h : bltI .len [d] S = .ok r S1) : ∃ n : Nat, r = .p (.int n) ∧ n ≤ LINE ∧ S1 = S := by
  cases d with
  | p x =>
    cases x with
    | str z => cases h; cases rd with | p r => cases r with | str z hz => exact ⟨_, rfl, hz.1, rfl⟩
    | tup xs => cases h; cases rd with | p r => cases r with | tup hq r => exact ⟨_, rfl, by obtain ⟨_, _, _, hz⟩ := I.tuple hq; rw [r.length, ← line_eq]; exact hz, rfl⟩
    | non => cases h
    | bl _ => cases h
    | int _ => cases h
  | mt xs => cases h; cases rd with | mt hq r => exact ⟨_, rfl, by obtain ⟨_, _, _, hz⟩ := I.tuple hq; rw [r.length, ← line_eq]; exact hz, rfl⟩
  | xv _ _ _ _ => cases h
  | ref n =>
    simp only [bltI] at h
    split at h
    · rename_i xs hx
      cases h
      obtain ⟨a, vs, ea, hq, r⟩ := rs.lst hx
      exact ⟨_, rfl, by obtain ⟨_, _, _, hz⟩ := I.list hq; rw [r.length, ← line_eq]; exact hz, rfl⟩
    · split at h
      · rename_i ks hk
        cases h
        obtain ⟨a, o, es, ep, ws, _, k⟩ := keys_of I rs rd hk
        exact ⟨_, rfl, by rw [← line_eq]; exact k.line, rfl⟩
      · cases h
def rLen (K : Fg) : List V → Hp → VK → Prop := fun vs H Q => ∃ m d S r S1, RelS K H m S ∧ RelDs K H m [d] vs ∧ bltI .len [d] S = .ok r S1 ∧ ∀ n : Nat, r = .p (.int n) → n ≤ LINE → ∀ m' H', Ext K H m H' m' → RelS K H' m' S1 → Q (.int n) H'
theorem cr_len (hc : X.calm = true) (hu : X.A.units + 100 < cLine) : CallR X (.builtin "len") (rLen X.F) := fun pins s σ H xs us Q I r ⟨m, d, S, q, S1, rs, rd, e, hq⟩ => by
  obtain ⟨v, rfl, r1⟩ := rd.one
  obtain ⟨n, rfl, hn, rfl⟩ := len_small I rs r1 e
  refine sv_blt (cA := fun _ => 0) (W := fun _ _ _ _ => False) .len hc hu I r rs rd ?_
  rw [e]
  intro m' H' v' e' rs' rd'
  cases rd' with
  | p r => cases r; exact hq n rfl hn m' H' e' rs'
theorem sw_rgL {tg : Expr} {p p' pos' : Pos} (hc : X.calm = true) (hu : X.A.units + 100 < cLine) (hpl : plain a = true) (hg : Gl X "range") (hm : X.mg "range" = none) (hg' : Gl X "len") (hm' : X.mg "len" = none) (ha : PE X a (tR cA X.F W f)) :
    PI X tg (.Call (.Name "range" p) [.Call (.Name "len" p') [a] [] pos'] [] pos) (tW cA X.F W (rgLF f)) := ⟨fun pins s σ H R I ⟨m, ρ, S, rn, rs, h⟩ => by
  refine (pi_range1 hg hm (pa_cons (pe_callB (cr_len hc hu) hg' hm' PySem.boot_len (pa_cons ha pa_nil (star_cons hpl)) (he := star_cons hpl) (hpl := rfl)) pa_nil rfl) rfl).run pins s σ H R I ⟨m, ρ, S, rn, rs, (wk_bind h).imp fun v H1 ⟨m1, d, S1, _, e1, rs1, rd1, h1⟩ => ?_⟩
  cases q : bltI .len [d] S1 with
  | ok r S2 =>
    refine ⟨m1, d, S1, r, S2, rs1, .cons rd1 .nil, q, fun n hn hz m2 H2 e2 rs2 => ?_⟩
    subst hn
    simp only [q, Res.bind] at h1
    refine ⟨_, rfl, by have := hz; omega, by have := hz; unfold LINE at this; omega, h1 m2 H2 _ e2 rs2 itok_rg⟩
  | exc x S2 => exact absurd q bltI_nx
  | stuck => simp only [q, Res.bind] at h1⟩

/-! ### comprehensions -/
/-- no exception is wished for -/
abbrev W0 : WX := fun _ _ _ _ => False
theorem takes_blk {s0 : Shared} {H0 : Hp} {scope : Scope} {cenv : Env} {fp : List Addr} : Takes (X.blk s0 H0 scope cenv fp) W0 := fun u s' ⟨_, _, _, _, _, _, _, _, _, _, _, _, _, _, _, _, z⟩ => z
def lcF (own : List Nat) (tg : Tg) (w : Nv → Sto → Res Wk) (c : Nv → Sto → Res Bool) (elt : Nv → Sto → Res D) : Nv → Sto → Res D := fun ρ S => (w ρ S).bind fun w S => if w.ds.length ≤ LINE then lcI w tg c elt (wipeN ρ own) S.length (.pl []) w.ds (S ++ [.pl []]) else .stuck
theorem push_len {o o' : O} {d : D} (h : o.push d = some o') : o'.ds.length = o.ds.length + 1 ∧ o.mut = true ∧ o'.mut = true := by
  cases o with
  | pl xs =>
    cases d <;> (simp only [O.push, Option.some.injEq] at h; subst h; simp [O.ds, O.mut])
  | ml xs => simp only [O.push, Option.some.injEq] at h; subst h; simp [O.ds, O.mut]
  | fz xs => simp [O.push] at h
  | dc xs => simp [O.push] at h
  | ob c fs => simp [O.push] at h
  | dt xs => simp [O.push] at h
  | df t xs => simp [O.push] at h
theorem lc_of {own : List Nat} {tg : Tg} {w : Nv → Sto → Res Wk} {c : Nv → Sto → Res Bool} {elt : Nv → Sto → Res D} {Q : VK} (ht : ∀ j ∈ tg.sl, j ∈ own) (rn : RelN X.F H m ρ σ) (rs : RelS X.F H m S) (hp : Post cA X.F m H σ W (lcF own tg w c elt ρ S) Q) :
    tLc (tW cA X.F W w) (tG X.F tg) (tB cA X.F W0 c) (tR cA X.F W0 elt) own σ H Q := by
  refine ⟨m, ρ, S, rn, rs, ?_⟩
  unfold lcF at hp
  cases q : w ρ S with
  | stuck => simp only [q, Res.bind] at hp; exact hp.elim
  | exc x S1 => simp only [q, Res.bind] at hp; exact hp
  | ok wk S1 =>
    simp only [q, Res.bind] at hp
    intro m1 H1 J e1 rs1 ok D0 hD0
    split at hp
    · rename_i hz
      have hn1 : (m1 ++ [D0])[S1.length]? = some D0 := by rw [← rs1.len]; simp
      have ex0 : Ext X.F H1 m1 (upd H1 D0 (.lst [])) (m1 ++ [D0]) := Ext.new hD0
      refine ⟨fun i mm H => ∃ m2 S2 o, Ext X.F H1 m1 H m2 ∧ RelS X.F H m2 S2 ∧ m2[S1.length]? = some D0 ∧ S2[S1.length]? = some o ∧ o.mut = true ∧ o.ds.length ≤ i ∧ mm = (wk.ds.drop i).length ∧
        Post cA X.F m2 H σ W (lcI wk tg c elt (wipeN ρ own) S1.length o (wk.ds.drop i) S2) Q, ⟨_, m1 ++ [D0], S1 ++ [.pl []], .pl [], ex0, rs1.new hD0 (.pl upd_same .nil) rfl, hn1, by simp, rfl, by simp [O.ds], rfl, ?_⟩, ?_⟩
      · rw [List.drop_zero]
        exact Post.mono (e1.trans ex0) hp
      · rintro i mm Hc ⟨m2, S2, o, e2, rs2, hm2, ho, mo, hlen, rfl, h2⟩
        have rn2 : RelN X.F Hc m2 (wipeN ρ own) (L2.wipe σ own) := ((rn.ext e1).ext e2).wipe own
        cases hd : wk.ds.drop i with
        | nil =>
          rw [hd] at h2
          unfold lcI at h2
          split at h2
          · rename_i hst
            have hi : wk.ds.length ≤ i := by simpa using hd
            exact .inl ⟨((ok m2 Hc S2 e2 rs2 hst) i).1 hi, h2 m2 Hc _ .refl rs2 (.ref hm2)⟩
          · exact h2.elim
        | cons d ds =>
          rw [hd] at h2
          have hi : i < wk.ds.length := by
            rcases Nat.lt_or_ge i wk.ds.length with z | z
            · exact z
            · rw [List.drop_eq_nil_of_le z] at hd; cases hd
          have hget : wk.ds[i]? = some d := by
            have := congrArg List.head? hd
            simpa [List.head?_drop] using this
          have hds : ds = wk.ds.drop (i + 1) := by
            have := congrArg List.tail hd
            simpa using this.symm
          unfold lcI at h2
          split at h2
          · rename_i hst
            obtain ⟨go, yl⟩ := ((ok m2 Hc S2 e2 rs2 hst) i).2 d hget
            refine .inr ⟨go, fun H' => ∃ m', m' < (d :: ds).length ∧ ∃ m2 S2 o, Ext X.F H1 m1 H' m2 ∧ RelS X.F H' m2 S2 ∧ m2[S1.length]? = some D0 ∧ S2[S1.length]? = some o ∧ o.mut = true ∧ o.ds.length ≤ i + 1 ∧ m' = (wk.ds.drop (i + 1)).length ∧
              Post cA X.F m2 H' σ W (lcI wk tg c elt (wipeN ρ own) S1.length o (wk.ds.drop (i + 1)) S2) Q, fun H' h => h, fun x H' hy => ?_⟩
            obtain ⟨rfl, rdx⟩ := yl x H' hy
            refine ⟨m2, wipeN ρ own, S2, d, rn2, rs2, rdx, ?_⟩
            cases qa : asgT tg d (wipeN ρ own) with
            | none => simp only [qa] at h2; exact h2.elim
            | some ρ1 =>
              simp only [qa] at h2 ⊢
              intro σ2 rn3 ag
              refine ⟨wipe_agr ht ag, m2, ρ1, S2, rn3, rs2, ?_⟩
              have again : ∀ m3 H3 S3 o3, Ext X.F H' m2 H3 m3 → RelS X.F H3 m3 S3 → S3[S1.length]? = some o3 → o3.mut = true → o3.ds.length ≤ i + 1 → Post cA X.F m3 H3 σ W (lcI wk tg c elt (wipeN ρ own) S1.length o3 ds S3) Q →
                  ∃ m', m' < (d :: ds).length ∧ ∃ m2 S2 o, Ext X.F H1 m1 H3 m2 ∧ RelS X.F H3 m2 S2 ∧ m2[S1.length]? = some D0 ∧ S2[S1.length]? = some o ∧ o.mut = true ∧ o.ds.length ≤ i + 1 ∧ m' = (wk.ds.drop (i + 1)).length ∧
                    Post cA X.F m2 H3 σ W (lcI wk tg c elt (wipeN ρ own) S1.length o (wk.ds.drop (i + 1)) S2) Q := fun m3 H3 S3 o3 e3 rs3 ho3 mo3 hl3 h3 => by
                obtain ⟨t, rfl⟩ := e3.pre
                exact ⟨_, by rw [← hds]; simp, _, S3, o3, e2.trans e3, rs3, pre_get hm2, ho3, mo3, hl3, rfl, by rw [← hds]; exact h3⟩
              cases qc : c ρ1 S2 with
              | stuck => simp only [qc] at h2; exact h2.elim
              | exc x S3 => simp only [qc] at h2; exact h2.elim
              | ok b S3 =>
                simp only [qc] at h2
                intro m3 H3 e3 rs3
                cases b with
                | false =>
                  simp only at h2
                  split at h2
                  · rename_i ho3
                    simpa using again m3 H3 S3 o e3 rs3 ho3 mo (by omega) (Post.mono e3 h2)
                  · exact h2.elim
                | true =>
                  simp only at h2
                  simp only [if_true]
                  refine ⟨m3, ρ1, S3, rn3.ext e3, rs3, ?_⟩
                  cases qe : elt ρ1 S3 with
                  | stuck => simp only [qe] at h2; exact h2.elim
                  | exc x S4 => simp only [qe] at h2; exact h2.elim
                  | ok y S4 =>
                    simp only [qe] at h2
                    intro m4 H4 v e4 rs4 rd4
                    split at h2
                    · rename_i ho4
                      split at h2
                      · rename_i o' hpu
                        obtain ⟨a, ea, ro⟩ := rs4.ob _ _ ho4
                        have ex := e3.trans e4
                        obtain ⟨t, rfl⟩ := ex.pre
                        rw [pre_get hm2] at ea; cases ea
                        obtain ⟨vs, h1, _, mo', hl, ro'⟩ := push_rel (X := X) ro hpu rd4
                        obtain ⟨pl1, _, _⟩ := push_len hpu
                        have hlt : S1.length < S4.length := (List.getElem?_eq_some_iff.mp ho4).1
                        refine ⟨vs, h1, by rw [hl, line_eq]; omega, ?_⟩
                        have ex2 : Ext X.F H4 (m2 ++ t) (upd H4 D0 (.lst (vs ++ [v]))) (m2 ++ t) := Ext.put h1
                        exact again (m2 ++ t) _ (S4.set S1.length o') o' (ex.trans ex2) (rs4.put ho4 mo (pre_get hm2) h1 ro' mo') (List.getElem?_set_self hlt) mo' (by omega) (Post.mono (ex.trans ex2) h2)
                      · exact h2.elim
                    · exact h2.elim
          · exact h2.elim
    · exact hp.elim
end
end PH

set_option maxHeartbeats 4000000
/-! PH, part J: calls of the text's own defs; statements. -/
namespace PH
open L2 PySem PySem.Spec PyProof.Rows
/-- a def's promise: called with such values it does what F says -/
def spI (cA : Ca) (K : Fg) (np : Nat) (F : List D → Sto → Res D) : Sp := fun vs H Q E => vs.length = np ∧ ∃ m S ds, RelS K H m S ∧ RelDs K H m ds vs ∧ Post cA K m H [] (fun c d _ H => E c d H) (F ds S) Q
section
variable (cA : Ca) (K : Fg)
def PostC (m : List Addr) (H : Hp) (W : WX) (r : Out) (T : Ends) : Prop := match r with
  | .nx ρ S => ∀ m' H' σ', Ext K H m H' m' → RelN K H' m' ρ σ' → RelS K H' m' S → T.nx σ' H'
  | .bk ρ S => ∀ m' H' σ', Ext K H m H' m' → RelN K H' m' ρ σ' → RelS K H' m' S → T.bk σ' H'
  | .ct ρ S => ∀ m' H' σ', Ext K H m H' m' → RelN K H' m' ρ σ' → RelS K H' m' S → T.ct σ' H'
  | .rt d S => ∀ m' H' v, Ext K H m H' m' → RelS K H' m' S → RelD K H' m' d v → T.rt v H'
  | .exc x ρ S => ∀ m' H' σ' c dx, Ext K H m H' m' → RelN K H' m' ρ σ' → RelS K H' m' S → RelX cA K H' m' x c dx → W c dx σ' H'
  | .stuck => False
/-- a statement's reading: it does f -/
def tC (W : WX) (f : Nv → Sto → Out) : TS := fun T σ H => ∃ m ρ S, RelN K H m ρ σ ∧ RelS K H m S ∧ PostC cA K m H W (f ρ S) T
end
section
variable {cA : Ca} {K : Fg} {H H' : Hp} {m m' : List Addr} {σ : L2.St} {W : WX} {T T' : Ends} {ρ : Nv} {S : Sto}
theorem PostC.mono {r : Out} (e : Ext K H m H' m') (h : PostC cA K m H W r T) : PostC cA K m' H' W r T := by
  cases r with
  | nx ρ S => exact fun m2 H2 s e2 => h m2 H2 s (e.trans e2)
  | bk ρ S => exact fun m2 H2 s e2 => h m2 H2 s (e.trans e2)
  | ct ρ S => exact fun m2 H2 s e2 => h m2 H2 s (e.trans e2)
  | rt ρ S => exact fun m2 H2 s e2 => h m2 H2 s (e.trans e2)
  | exc x ρ S => exact fun m2 H2 s c dx e2 => h m2 H2 s c dx (e.trans e2)
  | stuck => exact h
theorem PostC.out {r : Res D} {f : D → Sto → Out} (rn : RelN K H m ρ σ) (h : PostC cA K m H W (r.out ρ f) T) :
    Post cA K m H σ W r fun v H1 => ∃ m1 d S1, r = .ok d S1 ∧ Ext K H m H1 m1 ∧ RelS K H1 m1 S1 ∧ RelD K H1 m1 d v ∧ PostC cA K m1 H1 W (f d S1) T := by
  cases r with
  | ok d S => exact fun m1 H1 v e rs rd => ⟨m1, d, S, rfl, e, rs, rd, PostC.mono e h⟩
  | exc x S => exact fun m1 H1 c dx e rs rx => h m1 H1 σ c dx e (rn.ext e) rs rx
  | stuck => exact h
theorem PostC.outB {r : Res Bool} {f : Bool → Sto → Out} (rn : RelN K H m ρ σ) (h : PostC cA K m H W (r.out ρ f) T) :
    PostB cA K m H σ W r fun b H1 => ∃ m1 S1, r = .ok b S1 ∧ Ext K H m H1 m1 ∧ RelS K H1 m1 S1 ∧ PostC cA K m1 H1 W (f b S1) T := by
  cases r with
  | ok d S => exact fun m1 H1 e rs => ⟨m1, S, rfl, e, rs, PostC.mono e h⟩
  | exc x S => exact fun m1 H1 c dx e rs rx => h m1 H1 σ c dx e (rn.ext e) rs rx
  | stuck => exact h
end
theorem _root_.L2.PS.imp {X : Cx} {e : Stmt} {t t' : TS} (h : PS X e t) (f : ∀ T σ H, t' T σ H → t T σ H) : PS X e t' := ⟨fun pins s σ H T I q => h.run pins s σ H T I (f T σ H q)⟩
theorem _root_.L2.PSs.imp {X : Cx} {e : List Stmt} {t t' : TS} (h : PSs X e t) (f : ∀ T σ H, t' T σ H → t T σ H) : PSs X e t' := ⟨fun pins s σ H T I q => h.run pins s σ H T I (f T σ H q)⟩
section
variable {cA : Ca} {X : Cx} {σ : L2.St} {H : Hp} {m : List Addr} {S : Sto} {ρ : Nv} {W : WX} {Q : VK} {T : Ends} {pos : Pos} {a b c x : Expr} {f g h : Nv → Sto → Res D} {F G : Nv → Sto → Out} {k : Nat}

/-! ### f(..) -/
theorem se_call {fa : Addr} {fd : FuncData} {ps : List Str} {Fn : List D → Sto → Res D} {n : Str} {p : Pos} {e : Expr} {es : List Expr} {g : Nv → Sto → Res (List D)} (F : FnOk X.prog X.w X.K X.mg X.base (L2.CX X.prog X.w) k fa fd ps (spI cA X.F ps.length Fn)) (hr : Room k X.A) (hg : Gl X n)
    (hm : X.mg n = some (.ref fa)) (hk : PySem.W.keepIn X.K (.ref fa) = true) (hb : Binds X.K fd ps []) (tk : Takes X W) (hlen : ∀ ds S, ds.length ≠ ps.length → Fn ds S = .stuck) (hd : (n == ("__debug__" : Str)) = false) (hpl : (e :: es).all plain = true)
    (ha : PA X (e :: es) (tA cA X.F W g)) : PE X (.Call (.Name n p) (e :: es) [] pos) (tR cA X.F W fun ρ S => (g ρ S).bind fun ds S => Fn ds S) := by
  have hpl' := hpl
  simp only [List.all_cons, Bool.and_eq_true] at hpl'
  refine (pe_callSD F hr hg hm hk hb .nil (fun σ => passAt tk σ) ha hd (star_cons hpl'.1) (star_any hpl'.2)).imp fun σ H Q ⟨m, ρ, S, rn, rs, hp⟩ => ?_
  obtain ⟨m1, ρ1, S1, a1, a2, a3⟩ := seqA rn rs hp
  refine ⟨m1, ρ1, S1, a1, a2, a3.imp fun vs H1 ⟨m2, ds, S2, _, rs2, rd2, h2⟩ => ?_⟩
  rw [List.append_nil]
  refine ⟨?_, m2, S2, ds, rs2, rd2, ?_⟩
  · rw [← rd2.length]
    by_cases z : ds.length = ps.length
    · exact z
    · rw [hlen ds S2 z] at h2; exact h2.elim
  · cases q : Fn ds S2 with
    | ok d S3 => rw [q] at h2; exact h2
    | exc x S3 => rw [q] at h2; exact h2
    | stuck => rw [q] at h2; exact h2
theorem se_call0 {fa : Addr} {fd : FuncData} {ps : List Str} {Fn : List D → Sto → Res D} {n : Str} {p : Pos} (F : FnOk X.prog X.w X.K X.mg X.base (L2.CX X.prog X.w) k fa fd ps (spI cA X.F ps.length Fn)) (hr : Room k X.A) (hg : Gl X n)
    (hm : X.mg n = some (.ref fa)) (hk : PySem.W.keepIn X.K (.ref fa) = true) (hb : Binds X.K fd ps []) (tk : Takes X W) (hlen : ∀ ds S, ds.length ≠ ps.length → Fn ds S = .stuck) (hd : (n == ("__debug__" : Str)) = false) :
    PE X (.Call (.Name n p) [] [] pos) (tR cA X.F W fun ρ S => Fn [] S) := ⟨fun pins s σ H Q I ⟨m, ρ, S, rn, rs, hp⟩ => by
  dsimp only at hp
  refine wpAny_Call_Name_kw (ld_glob I hg hm ?_ hd)
  refine PySem.W.callWith_K0 I.kIn hk (run_fnSD (E := WE W) (us := []) (vs := []) F hr hb .nil (passAt tk σ) I .nil ⟨?_, m, S, [], rs, .nil, ?_⟩)
  · show 0 = ps.length
    by_cases z : ([] : List D).length = ps.length
    · exact z
    · rw [hlen [] S z] at hp; exact hp.elim
  · cases q : Fn [] S with
    | ok d S3 => rw [q] at hp; exact hp
    | exc x S3 => rw [q] at hp; exact hp
    | stuck => rw [q] at hp; exact hp⟩

/-! ### statements -/
theorem ss_nil : PSs X [] (tC cA X.F W fun ρ S => .nx ρ S) := pss_nil.imp fun T σ H ⟨m, ρ, S, rn, rs, h⟩ => h m H σ .refl rn rs
theorem ss_cons {st : Stmt} {sts : List Stmt} (h1 : PS X st (tC cA X.F W F)) (h2 : PSs X sts (tC cA X.F W G)) : PSs X (st :: sts) (tC cA X.F W fun ρ S => (F ρ S).seq G) :=
  (pss_cons h1 h2).imp fun T σ H ⟨m, ρ, S, rn, rs, h⟩ => ⟨m, ρ, S, rn, rs, by
    dsimp only at h
    cases q : F ρ S with
    | nx ρ1 S1 => rw [q] at h; exact fun m1 H1 s1 e1 rn1 rs1 => ⟨m1, ρ1, S1, rn1, rs1, PostC.mono e1 h⟩
    | bk ρ1 S1 => rw [q] at h; exact h
    | ct ρ1 S1 => rw [q] at h; exact h
    | rt ρ1 S1 => rw [q] at h; exact h
    | exc x ρ1 S1 => rw [q] at h; exact h
    | stuck => rw [q] at h; exact h⟩
theorem ss_ret (he : PE X a (tR cA X.F W f)) : PS X (.Return (some a) pos) (tC cA X.F W fun ρ S => (f ρ S).out ρ .rt) :=
  (ps_ret he).imp fun T σ H ⟨m, ρ, S, rn, rs, h⟩ => ⟨m, ρ, S, rn, rs, (PostC.out rn h).imp fun v H1 ⟨m1, d, S1, _, e1, rs1, rd1, h1⟩ => h1 m1 H1 v .refl rs1 rd1⟩
theorem ss_retN : PS X (.Return none pos) (tC cA X.F W fun ρ S => .rt (.p .non) S) :=
  ps_retN.imp fun T σ H ⟨m, ρ, S, rn, rs, h⟩ => h m H .non .refl rs (.p .non)
theorem ss_ex (he : PE X a (tR cA X.F W f)) (hs : swapsWith a none pos.line X.env = pure false) : PS X (.Expr a pos) (tC cA X.F W fun ρ S => (f ρ S).out ρ fun _ S => .nx ρ S) :=
  (ps_expr he hs).imp fun T σ H ⟨m, ρ, S, rn, rs, h⟩ => ⟨m, ρ, S, rn, rs, (PostC.out rn h).imp fun v H1 ⟨m1, d, S1, _, e1, rs1, rd1, h1⟩ => h1 m1 H1 σ .refl (rn.ext e1) rs1⟩
def asgF (tg : Tg) (f : Nv → Sto → Res D) : Nv → Sto → Out := fun ρ S => (f ρ S).out ρ fun d S => match asgT tg d ρ with
  | some ρ' => .nx ρ' S
  | none => .stuck
theorem asg_of {tg : Tg} {v : V} {d : D} (rn : RelN X.F H m ρ σ) (rs : RelS X.F H m S) (rd : RelD X.F H m d v) (h : PostC cA X.F m H W (match asgT tg d ρ with | some ρ' => .nx ρ' S | none => .stuck) T) : tG X.F tg v σ H T.nx := by
  refine ⟨m, ρ, S, d, rn, rs, rd, ?_⟩
  cases q : asgT tg d ρ with
  | none => rw [q] at h; exact h.elim
  | some ρ' =>
    rw [q] at h
    exact fun σ' rn' _ => h m H σ' .refl rn' rs
theorem ss_asg {tg : Tg} {t : Expr} (he : PE X a (tR cA X.F W f)) (ht : PG X t (tG X.F tg)) (hp : plain t = true) (hs : swapsWithSole [t] a pos.line X.env = pure false) (hw : swappedStores [t] a X.env = pure none) : PS X (.Assign [t] a pos) (tC cA X.F W (asgF tg f)) :=
  (ps_asg he ht hs hw (by rw [assign_cons hp]; rfl)).imp fun T σ H ⟨m, ρ, S, rn, rs, h⟩ => ⟨m, ρ, S, rn, rs, (PostC.out rn h).imp fun v H1 ⟨m1, d, S1, _, e1, rs1, rd1, h1⟩ => asg_of (rn.ext e1) rs1 rd1 h1⟩
theorem ss_sub {o i : Expr} {spos : Pos} (he : PE X a (tR cA X.F W f)) (ho : PE X o (tR cA X.F W g)) (hi : PE X i (tR cA X.F W h)) (hn : noSlice i = true) (hs : swapsWithSole [.Subscript o i spos] a pos.line X.env = pure false) (hw : swappedStores [.Subscript o i spos] a X.env = pure none) :
    PS X (.Assign [.Subscript o i spos] a pos) (tC cA X.F W fun ρ S => (f ρ S).out ρ fun y S => (g ρ S).out ρ fun x S => (h ρ S).out ρ fun k S => match subI x k y S with
      | some S' => .nx ρ S'
      | none => .stuck) :=
  (ps_asg he (pg_sub ho hi set_list (fun v => by cases i <;> first | rfl | cases hn)) hs hw rfl).imp fun T σ H ⟨m, ρ, S, rn, rs, h0⟩ => ⟨m, ρ, S, rn, rs, (PostC.out rn h0).imp fun v H1 ⟨m1, d, S1, _, e1, rs1, rd1, h1⟩ =>
    ⟨m1, ρ, S1, rn.ext e1, rs1, (PostC.out (rn.ext e1) h1).imp fun v2 H2 ⟨m2, d2, S2, _, e2, rs2, rd2, h2⟩ => ⟨m2, ρ, S2, (rn.ext e1).ext e2, rs2, (PostC.out ((rn.ext e1).ext e2) h2).imp fun v3 H3 ⟨m3, d3, S3, _, e3, rs3, rd3, h3⟩ => by
      cases q : subI d2 d3 d S3 with
      | none => rw [q] at h3; exact h3.elim
      | some S4 =>
        rw [q] at h3
        exact sv_sub rs3 (rd2.ext e3) rd3 ((rd1.ext e2).ext e3) q fun H4 e4 rs4 => h3 m3 H4 σ e4 ((((rn.ext e1).ext e2).ext e3).ext e4) rs4⟩⟩⟩
def iteF (f : Nv → Sto → Res D) (F G : Nv → Sto → Out) : Nv → Sto → Out := fun ρ S => (tK f ρ S).out ρ fun k S => if k then F ρ S else G ρ S
theorem ss_if {s1 s2 : List Stmt} (hc : PT X a (tB cA X.F W (tK f))) (h1 : PSs X s1 (tC cA X.F W F)) (h2 : PSs X s2 (tC cA X.F W G)) : PS X (.If a s1 s2 pos) (tC cA X.F W (iteF f F G)) :=
  (ps_if hc h1 h2).imp fun T σ H ⟨m, ρ, S, rn, rs, h⟩ => ⟨m, ρ, S, rn, rs, (PostC.outB rn h).imp fun b H1 ⟨m1, S1, _, e1, rs1, h1⟩ => by
    cases b with
    | true => simpa using (show tC cA X.F W F T σ H1 from ⟨m1, ρ, S1, rn.ext e1, rs1, h1⟩)
    | false => simpa using (show tC cA X.F W G T σ H1 from ⟨m1, ρ, S1, rn.ext e1, rs1, h1⟩)⟩
theorem ss_pas : PS X (.Pass pos) (tC cA X.F W fun ρ S => .nx ρ S) := ps_pass.imp fun T σ H ⟨m, ρ, S, rn, rs, h⟩ => h m H σ .refl rn rs
theorem ss_brk : PS X (.Break pos) (tC cA X.F W fun ρ S => .bk ρ S) := ps_break.imp fun T σ H ⟨m, ρ, S, rn, rs, h⟩ => h m H σ .refl rn rs
theorem ss_cnt : PS X (.Continue pos) (tC cA X.F W fun ρ S => .ct ρ S) := ps_continue.imp fun T σ H ⟨m, ρ, S, rn, rs, h⟩ => h m H σ .refl rn rs

/-! ### for, while -/
def forF (tg : Tg) (w : Nv → Sto → Res Wk) (F : Nv → Sto → Out) : Nv → Sto → Out := fun ρ S => (w ρ S).out ρ fun w S => forI w tg F w.ds ρ S
theorem ss_for {tg : Tg} {t it : Expr} {body : List Stmt} {w : Nv → Sto → Res Wk} (hp : PassesOwn (model X.prog X.w) X.A X.env X.xe) (hc : X.calm = true) (hi : PI X t it (tW cA X.F W w)) (hg : PG X t (tG X.F tg)) (hb : PSs X body (tC cA X.F W F))
    (hs : ∀ x, foldedSetIterable it X.env x = pure x) : PS X (.For t it body [] pos) (tC cA X.F W (forF tg w F)) :=
  (ps_for hp hc hi hg hb hs).imp fun T σ H ⟨m, ρ, S, rn, rs, h⟩ => ⟨m, ρ, S, rn, rs, by
    unfold forF at h
    cases q : w ρ S with
    | stuck => rw [q] at h; exact h
    | exc x S1 => rw [q] at h; exact fun m1 H1 c dx e rs1 rx => h m1 H1 σ c dx e (rn.ext e) rs1 rx
    | ok wk S1 =>
      rw [q] at h
      intro m1 H1 J e1 rs1 ok
      refine ⟨fun i mm σ2 H2 => ∃ m2 ρ2 S2, Ext X.F H1 m1 H2 m2 ∧ RelN X.F H2 m2 ρ2 σ2 ∧ RelS X.F H2 m2 S2 ∧ mm = (wk.ds.drop i).length ∧ PostC cA X.F m2 H2 W (forI wk tg F (wk.ds.drop i) ρ2 S2) T, ⟨_, m1, ρ, S1, .refl, rn.ext e1, rs1, rfl, ?_⟩, ?_⟩
      · rw [List.drop_zero]; exact PostC.mono e1 h
      · rintro i mm σ2 H2 ⟨m2, ρ2, S2, e2, rn2, rs2, rfl, h2⟩
        cases hd : wk.ds.drop i with
        | nil =>
          rw [hd] at h2
          unfold forI at h2
          split at h2
          · rename_i hst
            have hi : wk.ds.length ≤ i := by simpa using hd
            exact .inl ⟨((ok m2 H2 S2 e2 rs2 hst) i).1 hi, h2 m2 H2 σ2 .refl rn2 rs2⟩
          · exact h2.elim
        | cons d ds =>
          rw [hd] at h2
          have hget : wk.ds[i]? = some d := by
            have := congrArg List.head? hd
            simpa [List.head?_drop] using this
          have hds : ds = wk.ds.drop (i + 1) := by
            have := congrArg List.tail hd
            simpa using this.symm
          unfold forI at h2
          split at h2
          · rename_i hst
            obtain ⟨go, yl⟩ := ((ok m2 H2 S2 e2 rs2 hst) i).2 d hget
            refine .inr ⟨go, fun σ3 H3 => ∃ m', m' < (d :: ds).length ∧ ∃ m2 ρ2 S2, Ext X.F H1 m1 H3 m2 ∧ RelN X.F H3 m2 ρ2 σ3 ∧ RelS X.F H3 m2 S2 ∧ m' = (wk.ds.drop (i + 1)).length ∧ PostC cA X.F m2 H3 W (forI wk tg F (wk.ds.drop (i + 1)) ρ2 S2) T, fun σ' H' h => h, fun x H' hy => ?_⟩
            obtain ⟨rfl, rdx⟩ := yl x H' hy
            refine ⟨m2, ρ2, S2, d, rn2, rs2, rdx, ?_⟩
            cases qa : asgT tg d ρ2 with
            | none => simp only [qa] at h2; exact h2.elim
            | some ρ1 =>
              simp only [qa] at h2 ⊢
              intro σ3 rn3 _
              refine ⟨m2, ρ1, S2, rn3, rs2, ?_⟩
              have again : ∀ ρ4 S4 m4 H4 σ4, PostC cA X.F m2 H' W (forI wk tg F ds ρ4 S4) T → Ext X.F H' m2 H4 m4 → RelN X.F H4 m4 ρ4 σ4 → RelS X.F H4 m4 S4 →
                  ∃ m', m' < (d :: ds).length ∧ ∃ m2 ρ2 S2, Ext X.F H1 m1 H4 m2 ∧ RelN X.F H4 m2 ρ2 σ4 ∧ RelS X.F H4 m2 S2 ∧ m' = (wk.ds.drop (i + 1)).length ∧ PostC cA X.F m2 H4 W (forI wk tg F (wk.ds.drop (i + 1)) ρ2 S2) T :=
                fun ρ4 S4 m4 H4 σ4 h4 e4 rn4 rs4 => ⟨_, by rw [← hds]; simp, m4, ρ4, S4, e2.trans e4, rn4, rs4, rfl, by rw [← hds]; exact PostC.mono e4 h4⟩
              cases qb : F ρ1 S2 with
              | nx ρ4 S4 => simp only [qb] at h2; exact fun m4 H4 σ4 e4 rn4 rs4 => again ρ4 S4 m4 H4 σ4 h2 e4 rn4 rs4
              | ct ρ4 S4 => simp only [qb] at h2; exact fun m4 H4 σ4 e4 rn4 rs4 => again ρ4 S4 m4 H4 σ4 h2 e4 rn4 rs4
              | bk ρ4 S4 => simp only [qb] at h2; exact h2
              | rt d4 S4 => simp only [qb] at h2; exact h2
              | exc x4 ρ4 S4 => simp only [qb] at h2; exact h2
              | stuck => simp only [qb] at h2; exact h2
          · exact h2.elim⟩
theorem whlI_ex {c : Nv → Sto → Res Bool} {body : Nv → Sto → Out} (h : whlI c body ρ S ≠ .stuck) : ∃ n, whlN c body n ρ S = some (whlI c body ρ S) := by
  unfold whlI at h ⊢
  split
  · rename_i q; exact q.choose_spec
  · rename_i q; rw [dif_neg q] at h; exact absurd rfl h
theorem ss_whl {body : List Stmt} (hp : PassesOwn (model X.prog X.w) X.A X.env X.xe) (hc : PT X a (tB cA X.F W (tK f))) (hb : PSs X body (tC cA X.F W F)) : PS X (.While a body [] pos) (tC cA X.F W (whlI (tK f) F)) :=
  (ps_while hp hc hb).imp fun T σ H ⟨m, ρ, S, rn, rs, h⟩ => by
    have hns : whlI (tK f) F ρ S ≠ .stuck := fun z => by rw [z] at h; exact h
    obtain ⟨n, hn⟩ := whlI_ex hns
    revert h hn
    generalize whlI (tK f) F ρ S = r
    intro h hn
    refine ⟨fun k σ1 H1 => ∃ m1 ρ1 S1, RelN X.F H1 m1 ρ1 σ1 ∧ RelS X.F H1 m1 S1 ∧ whlN (tK f) F k ρ1 S1 = some r ∧ PostC cA X.F m1 H1 W r T, ⟨n, m, ρ, S, rn, rs, hn, h⟩, ?_⟩
    rintro k σ1 H1 ⟨m1, ρ1, S1, rn1, rs1, h1, hr⟩
    cases k with
    | zero => cases h1
    | succ k =>
      unfold whlN at h1
      refine ⟨m1, ρ1, S1, rn1, rs1, ?_⟩
      cases q : tK f ρ1 S1 with
      | stuck =>
        simp only [q, Option.some.injEq] at h1
        subst h1; exact hr
      | exc x S2 =>
        simp only [q, Option.some.injEq] at h1
        subst h1; exact fun m2 H2 c dx e2 rs2 rx => hr m2 H2 σ1 c dx e2 (rn1.ext e2) rs2 rx
      | ok b S2 =>
        simp only [q] at h1
        intro m2 H2 e2 rs2
        cases b with
        | false =>
          simp only [Option.some.injEq] at h1
          subst h1
          simpa using (show T.nx σ1 H2 from hr m2 H2 σ1 e2 (rn1.ext e2) rs2)
        | true =>
          simp only at h1
          simp only [if_true]
          refine ⟨fun σ3 H3 => ∃ m1 ρ1 S1, RelN X.F H3 m1 ρ1 σ3 ∧ RelS X.F H3 m1 S1 ∧ whlN (tK f) F k ρ1 S1 = some r ∧ PostC cA X.F m1 H3 W r T, fun σ3 H3 q3 => ⟨k, Nat.lt_succ_self _, q3⟩, m2, ρ1, S2, rn1.ext e2, rs2, ?_⟩
          cases qb : F ρ1 S2 with
          | nx ρ4 S4 => simp only [qb] at h1; exact fun m4 H4 σ4 e4 rn4 rs4 => ⟨m4, ρ4, S4, rn4, rs4, h1, PostC.mono (e2.trans e4) hr⟩
          | ct ρ4 S4 => simp only [qb] at h1; exact fun m4 H4 σ4 e4 rn4 rs4 => ⟨m4, ρ4, S4, rn4, rs4, h1, PostC.mono (e2.trans e4) hr⟩
          | bk ρ4 S4 => simp only [qb, Option.some.injEq] at h1; subst h1; exact fun m4 H4 σ4 e4 => hr m4 H4 σ4 (e2.trans e4)
          | rt d4 S4 => simp only [qb, Option.some.injEq] at h1; subst h1; exact fun m4 H4 v e4 => hr m4 H4 v (e2.trans e4)
          | exc x4 ρ4 S4 => simp only [qb, Option.some.injEq] at h1; subst h1; exact fun m4 H4 σ4 c dx e4 => hr m4 H4 σ4 c dx (e2.trans e4)
          | stuck => simp only [qb, Option.some.injEq] at h1; subst h1; exact hr
end
end PH

set_option maxHeartbeats 4000000
/-! PH, part 2: dict comprehensions. -/
namespace PH
open L2 PySem PySem.Spec PyProof.Rows
/-- one more pair goes into the dict at D; what is wished behind -/
def SetR (P : Program) (w : World) (A : Around) (K : PySem.W.Frag) (D : Addr) (y z : V) (H : Hp) (Nx : Hp → Prop) : Prop :=
  ∀ (Y : Cx) (pn : List (Addr × Obj)) (τ : L2.St) (s : Shared) (u r : Value) (E : Value → Shared → Prop), Y.prog = P → Y.w = w → Y.A = A → Y.K = K → L2.Inv Y pn τ H s → RelV y u → RelV z r →
    wpAny (model P w) A (dictSet D u r) (fun _ s' => ∃ H', L2.Inv Y pn τ H' s' ∧ Nx H') E s
/-- the empty dict of a kind, tracked -/
def newHO (w : World) (D : Addr) (t : Bool) : HO := if t then dtO w D [] else .dK []
theorem newHO_ok {P : Program} {w : World} {H : Hp} {h : Heap} (t : Bool) (hb : sysModules < h.objs.size) : ObjOk P w H (h.push { cls := .type "dict", data := .dict #[] }) h.objs.size (newHO w h.objs.size t) := by
  cases t with
  | false => exact dk_empty h hb
  | true => exact t_ok (Heap.DictOfH.new h)
/-- the turns of a dict comprehension, D the new dict -/
def tDx (P : Program) (w : World) (A : Around) (K : PySem.W.Frag) (t : Bool) (wi : TI) (g : TG) (tt : TT) (tk tv : TE) (vs : List Nat) : TE := fun σ H Q => wi σ H fun J H1 => ∀ D, H1 D = none → (D == sysModules) = false →
  ∃ Wt : Nat → Nat → Hp → Prop, (∃ n, Wt 0 n (upd H1 D (newHO w D t))) ∧ ∀ i n G, Wt i n G → (J.stop i G ∧ Q (.ref D) G) ∨ (J.go i G ∧ ∃ Nx : Hp → Prop, (∀ G', Nx G' → ∃ n', n' < n ∧ Wt (i + 1) n' G') ∧
    ∀ x G', J.yld i G x G' → g x (L2.wipe σ vs) G' fun τ H2 => L2.wipe τ vs = L2.wipe σ vs ∧ tt τ H2 fun b H3 => if b = true then tk τ H3 fun y H4 => tv τ H4 fun z H5 => SetR P w A K D y z H5 Nx else Nx H3)
section
variable {X : Cx}
/-- what holds of a comprehension's block, whatever its environment -/
abbrev InBlk (X : Cx) (scope : Scope) (F : Cx → Prop) : Prop := ∀ (s : Shared) (H : Hp) (C : Addr) (cl : List (Str × Addr)) (fp : List Addr), F (X.blk s H scope (compEnvC scope cl C X.env) fp)
theorem dcm_core {pins : List (Addr × Obj)} {s : Shared} {σ : L2.St} {H : Hp} {Q : VK} {kx vx tg it0 : Expr} {ifs : List Expr} {scope : Scope} {own : List (Str × Nat)} {p p' : Pos} {wi : TI} {g : TG} {tt : TT} {tk tv : TE} {t : Bool} {use : Option (Value → Sem Unit)} {Qf : Value → Shared → Prop}
    (calm : X.calm = true) (nd : X.N.Nodup) (I : L2.Inv X pins σ H s) (hi : PI X tg it0 wi) (bo : BlkOk X.N X.env.scope scope own)
    (hg : InBlk X scope fun Y => PG Y tg g) (ht : InBlk X scope fun Y => PTs Y ifs tt) (hk : InBlk X scope fun Y => PE Y kx tk) (hv : InBlk X scope fun Y => PE Y vx tv)
    (fold : ∀ x, foldedSetIterable it0 X.env x = pure x) (q : tDx X.prog X.w X.A X.K t wi g tt tk tv (own.map (·.2)) σ H Q)
    (fin : ∀ D C s' ns G, L2.Inv X pins σ G s' → Q (.ref D) G → s'.heap.Ns C ns → FpOk X pins G C → compPost (model X.prog X.w) X.A X.xe use Qf (.ref D) C (.ok .next) s') :
    wpAny (model X.prog X.w) X.A (comprehension (.DictComp kx vx [⟨tg, it0, ifs, 0⟩] scope p) scope X.env p' newDict false (eval it0 X.env) use) Qf X.xe s := by
  have cells : ∀ y ∈ scope.names, y.2 = .free → ∃ c, X.env.cells.lookup y.1 = some c := fun y hy e =>
    (bo.free y hy e).elim (fun z => I.ok.has _ (.inl z)) (fun z => I.ok.has _ (.inr z))
  refine wpAny_comprehension_free (use := use) rfl fold (closure_ok cells) bo.kind (fun y hy e => (bo.uniq y hy).trans (congrArg some e)) ?_
  refine thn (hi.run pins s σ H _ I q) fun xv s1 q1 => thn q1 fun itv s2 ⟨it, fp, tn, J, G, eit, I2, T, st2, f2, q2⟩ => ?_
  subst eit
  refine wpAny_newObj_type (newEnv_comp ?_)
  obtain ⟨D, eD⟩ : ∃ D, s2.heap.objs.size = D := ⟨_, rfl⟩
  rw [eD]
  have sysD : (D == sysModules) = false := by have := I2.big; rw [eD] at this; exact beq_eq_false_iff_ne.mpr (Nat.ne_of_gt this)
  have freshD : G D = none := I2.hok.fresh (by omega)
  obtain ⟨Wt, ⟨n0, w0⟩, turn⟩ := q2 D freshD sysD
  obtain ⟨s3, e3⟩ : ∃ s3 : Shared, ({ s2 with heap := s2.heap.push { cls := .type "dict", data := .dict #[] } } : Shared) = s3 := ⟨_, rfl⟩
  have h3 : s3.heap = s2.heap.push { cls := .type "dict", data := .dict #[] } := by rw [← e3]
  obtain ⟨G3, eG⟩ : ∃ G3, upd G D (newHO X.w D t) = G3 := ⟨_, rfl⟩
  have I3 : L2.Inv X pins σ G3 s3 := by
    rw [← e3, ← eG, ← eD]
    exact I2.laid (t' := s2.toks) (fun b o z => Heap.get?_push_of_some _ z) (Nat.le_refl _) (newHO_ok t I2.big)
  rw [eG] at w0
  have low : ∀ b ∈ fp, b < D := fun b hb => by
    obtain ⟨o, z, _⟩ := T.obj _ _ st2 b hb
    rw [← eD]; exact Heap.lt_size z
  have f3 : ∀ b ∈ fp, FpOk X pins G3 b ∧ b < s3.heap.objs.size := fun b hb => by
    refine ⟨⟨?_, (f2 b hb).2⟩, ?_⟩
    · rw [← eG, upd_ne (Nat.ne_of_lt (low b hb))]; exact (f2 b hb).1
    · rw [h3, Heap.size_push, eD]; exact Nat.lt_succ_of_lt (low b hb)
  have st3 : tn 0 s3.heap := T.keep _ _ _ st2 fun b _ o z => by rw [h3]; exact Heap.get?_push_of_some _ z
  have I4 := block_start I3 bo nd f3
  obtain ⟨C, eC⟩ : ∃ C, s3.heap.objs.size = C := ⟨_, rfl⟩
  obtain ⟨cl, ecl⟩ : ∃ cl, cellsFrom (s3.heap.objs.size + 1) scope.names (cloFrom X.env.cells scope.names []) = cl := ⟨_, rfl⟩
  rw [ecl, eC] at I4
  have pg := hg s3 G3 C cl fp
  have pt := ht s3 G3 C cl fp
  have pk := hk s3 G3 C cl fp
  have pv := hv s3 G3 C cl fp
  show codeAny _ _ (.compStart (.DictComp kx vx [⟨tg, it0, ifs, 0⟩] scope p) 0 (.ref it) (.ref D) (compEnvC scope (cellsFrom (({ s2 with heap := s2.heap.push { cls := .type "dict", data := .dict #[] } } : Shared).heap.objs.size + 1) scope.names (cloFrom X.env.cells scope.names [])) ({ s2 with heap := s2.heap.push { cls := .type "dict", data := .dict #[] } } : Shared).heap.objs.size X.env))
    (compPost (model X.prog X.w) X.A X.xe use Qf (.ref D) ({ s2 with heap := s2.heap.push { cls := .type "dict", data := .dict #[] } } : Shared).heap.objs.size) { ({ s2 with heap := s2.heap.push { cls := .type "dict", data := .dict #[] } } : Shared) with heap := pushCells (({ s2 with heap := s2.heap.push { cls := .type "dict", data := .dict #[] } } : Shared).heap.push { cls := .type "dict", data := .dict #[] }) scope.names }
  rw [e3, ecl, eC]
  obtain ⟨env, eenv⟩ : ∃ env, compEnvC scope cl C X.env = env := ⟨_, rfl⟩
  rw [eenv] at I4 pg pt pk pv ⊢
  have eL : env.locals = C := by rw [← eenv]; rfl
  obtain ⟨s4, e4⟩ : ∃ s4 : Shared, ({ s3 with heap := pushCells (s3.heap.push { cls := .type "dict", data := .dict #[] }) scope.names } : Shared) = s4 := ⟨_, rfl⟩
  rw [e4] at I4 ⊢
  have st4 : tn 0 s4.heap := T.keep _ _ _ st3 fun b _ o z => by rw [← e4]; exact pushCells_keeps _ _ _ _ (Heap.get?_push_of_some _ z)
  have free3 : ∀ b ∈ fp, G3 b = none := fun b hb => (f3 b hb).1.1
  -- the iterator's own objects, seen from within the block
  have own' : ∀ {τ : L2.St} {G' : Hp} {s' : Shared}, L2.Inv (X.blk s3 G3 scope env fp) [] τ G' s' → (∀ b ∈ fp, G' b = none) → ∀ b ∈ fp, FpOk (X.blk s3 G3 scope env fp) [] G' b := fun {τ G' s'} J' hn b hb => by
    obtain ⟨z1, z2⟩ := J'.ok.exf b hb
    exact ⟨hn b hb, z1, J'.ok.exfs b hb, .inl hb, fun x c z => z2 x c z, fun pr hp => by cases hp⟩
  have loop : codeAny (model X.prog X.w) X.A (.compLoop (.DictComp kx vx [⟨tg, it0, ifs, 0⟩] scope p) 0 (.ref it) (.ref D) env) (compPost (model X.prog X.w) X.A X.xe use Qf (.ref D) C) s4 := by
    refine compLoop_anyD (fun n s' => ∃ i G', L2.Inv (X.blk s3 G3 scope env fp) [] (L2.wipe σ (own.map (·.2))) G' s' ∧ tn i s'.heap ∧ (∀ b ∈ fp, G' b = none) ∧ Wt i n G') (fun n s5 ⟨i, G5, I5, st5, n5, w5⟩ => ?_) n0 ⟨0, G3, I4, st4, free3, w0⟩
    rcases turn i n G5 w5 with ⟨halt, done⟩ | ⟨go, Nx, hNx, step⟩
    · refine thnF (T.done (X.blk s3 G3 scope env fp) rfl rfl rfl calm i [] s5 _ G5 (fun _ _ => False) I5 (own' I5 n5) st5 halt) fun r s6 ⟨hr, I6⟩ => ?_
      subst hr
      have back : L2.Inv X pins σ G5 s6 := I3.call' (ch := fp) I6.os I6.base I6.hok I6.bare fun b hb => by
        obtain ⟨⟨_, z1, _, z3, z4, z5⟩, _⟩ := f3 b hb
        exact ⟨z3, z1, z4, z5⟩
      have cN : G5 C = none := by have z : G5 env.locals = none := I6.free; rw [eL] at z; exact z
      obtain ⟨ns, hns, _⟩ := I6.loc
      have hns : s6.heap.Ns env.locals ns := hns
      rw [eL] at hns
      exact fin D C s6 ns G5 back done hns (I3.fpOk (Nat.le_of_eq eC) cN)
    · refine thnF (T.item (X.blk s3 G3 scope env fp) rfl rfl rfl calm i [] s5 _ G5 (fun _ _ => False) I5 (own' I5 n5) st5 go) fun r s6 ⟨u, hr, h6⟩ => ?_
      subst hr
      refine thnF h6 fun _ s7 ⟨x, G7, I7, r7, y7, st7, n7⟩ => ?_
      have I7p := I7.pinned (own' I7 n7) (T.obj _ _ st7)
      refine thnF (pg.run _ s7 _ G7 x u _ I7p r7 (step x G7 y7)) fun _ s8 ⟨τ, G8, I8, same, q8⟩ => ?_
      refine thnF (pt.run _ s8 τ G8 _ I8 q8) fun b s9 ⟨G9, I9, q9⟩ => ?_
      -- the turn is over
      have over : ∀ {s' : Shared} {G' : Hp}, L2.Inv (X.blk s3 G3 scope env fp) ([] ++ pinsAt fp s7.heap) τ G' s' → Nx G' → ∃ n', n' < n ∧ ∃ i G', L2.Inv (X.blk s3 G3 scope env fp) [] (L2.wipe σ (own.map (·.2))) G' s' ∧ tn i s'.heap ∧ (∀ b ∈ fp, G' b = none) ∧ Wt i n' G' := fun {s' G'} J' nx => by
        obtain ⟨n', hn', w'⟩ := hNx G' nx
        have held : ∀ b ∈ fp, ∀ o, s7.heap.get? b = some o → s'.heap.get? b = some o ∧ G' b = none := fun b hb o z => by
          obtain ⟨a1, a2, _⟩ := J'.pin (b, o) (List.mem_append_right _ (List.mem_append_right _ (mem_pinsAt hb z)))
          exact ⟨a1, a2⟩
        have wl : (L2.wipe σ (own.map (·.2))).length = τ.length := by rw [← same, wipe_length]
        refine ⟨n', hn', i + 1, G', (J'.unpinned (pins := [])).weak wl (fun j v z => ?_), T.keep _ _ _ st7 fun b hb o z => (held b hb o z).1, fun b hb => ?_, w'⟩
        · rw [← same] at z; exact (wipe_some z).1
        · obtain ⟨o, z, _⟩ := T.obj _ _ st7 b hb
          exact (held b hb o z).2
      cases b with
      | false => simp only [Bool.false_eq_true, if_false] at q9 ⊢; exact over I9 q9
      | true =>
        simp only [if_true] at q9 ⊢
        refine thnF (pk.run _ s9 τ G9 _ I9 q9) fun kv s10 ⟨yk, G10, I10, r10, q10⟩ => ?_
        refine thnF (pv.run _ s10 τ G10 _ I10 q10) fun vv s11 ⟨yv, G11, I11, r11, q11⟩ => ?_
        exact thnF (q11 (X.blk s3 G3 scope env fp) _ τ s11 kv vv (fun _ _ => False) rfl rfl rfl rfl I11 r10 r11) fun _ s12 ⟨G12, I12, q12⟩ => over I12 q12
  exact codeAny_compStart_dict loop (T.self X.A 0 _ _ _ st4 loop)
theorem pe_dcm {kx vx tg it0 : Expr} {ifs : List Expr} {scope : Scope} {own : List (Str × Nat)} {p : Pos} {wi : TI} {g : TG} {tt : TT} {tk tv : TE} {t : Bool} (calm : X.calm = true) (nd : X.N.Nodup) (hi : PI X tg it0 wi) (bo : BlkOk X.N X.env.scope scope own)
    (hg : InBlk X scope fun Y => PG Y tg g) (ht : InBlk X scope fun Y => PTs Y ifs tt) (hk : InBlk X scope fun Y => PE Y kx tk) (hv : InBlk X scope fun Y => PE Y vx tv) (fold : ∀ x, foldedSetIterable it0 X.env x = pure x) :
    PE X (.DictComp kx vx [⟨tg, it0, ifs, 0⟩] scope p) (tDx X.prog X.w X.A X.K t wi g tt tk tv (own.map (·.2))) := ⟨fun pins s σ H Q I q => by
  rw [arm_eval_DictComp]
  refine dcm_core calm nd I hi bo hg ht hk hv fold q fun D C s' ns G I' done hns f => ⟨ns, hns, fun h'' sb => ?_⟩
  obtain ⟨z0, z1, z2, z3, z4, z5⟩ := f
  exact ⟨.ref D, G, I'.turned (t' := s'.toks) (fun b o hb z => (sb.2 b hb).trans z) z0 z1 z3 z4 z5, rfl, done⟩⟩
/-- put into a local on one line -/
theorem ps_setDcm {i : Nat} {y : Str} {py : Pos} {kx vx tg it0 : Expr} {ifs : List Expr} {scope : Scope} {own : List (Str × Nat)} {p sp : Pos} {wi : TI} {g : TG} {tt : TT} {tk tv : TE} {t : Bool} (calm : X.calm = true) (nd : X.N.Nodup) (hy : X.N[i]? = some y) (loc : X.env.scope.names.lookup y = some .local)
    (hsw : swapsWith (.DictComp kx vx [⟨tg, it0, ifs, 0⟩] scope p) (some (.Name y py)) sp.line X.env = pure true) (hi : PI X tg it0 wi) (bo : BlkOk X.N X.env.scope scope own)
    (hg : InBlk X scope fun Y => PG Y tg g) (ht : InBlk X scope fun Y => PTs Y ifs tt) (hk : InBlk X scope fun Y => PE Y kx tk) (hv : InBlk X scope fun Y => PE Y vx tv) (fold : ∀ x, foldedSetIterable it0 X.env x = pure x) :
    PS X (.Assign [.Name y py] (.DictComp kx vx [⟨tg, it0, ifs, 0⟩] scope p) sp) (tAsg (tDx X.prog X.w X.A X.K t wi g tt tk tv (own.map (·.2))) (gName i)) := ⟨fun pins s σ H T I q => by
  rw [exec_Assign_Name_used _ _ _ _ hsw]
  refine wpAny_bind (wpAny_standAt (wpAny_bind ?_))
  show wpAny _ X.A (do let _ ← comprehension (.DictComp kx vx [⟨tg, it0, ifs, 0⟩] scope p) scope X.env (firstIterPos [⟨tg, it0, ifs, 0⟩] p) newDict false (eval it0 X.env) (some (assign (.Name y py) X.env))) _ _ s
  have q' : tDx X.prog X.w X.A X.K t wi g tt tk tv (own.map (·.2)) σ H (fun x H1 => gName i x σ H1 T.nx) := q
  refine wpAny_bind (thn (dcm_core (Qf := fun _ s' => SP X pins T .next s') calm nd I hi bo hg ht hk hv fold q' fun D C s' ns G I' done hns f => ?_) fun _ s' z => wpAny_pure (wpAny_pure z))
  show wpAny _ _ (assign (.Name y py) X.env (.ref D)) _ _ _
  refine wpAny_assign_Name (store_ok2 (v := V.ref D) I' nd hy (.inl loc) rfl (fun s2 I2 ⟨a, sb, ha⟩ => ?_) (.inr loc))
  obtain ⟨z0, z1, z2, z3, z4, z5⟩ := f
  have apart : C ≠ a := by
    rcases ha with z | z
    · rw [z]; exact z1
    · exact fun e => z4 y a z e.symm
  exact ⟨ns, hns.sameBut sb apart, fun h3 sb3 => ⟨_, G, I2.turned (t' := s2.toks) (fun b o hb z => (sb3.2 b hb).trans z) z0 z1 z3 z4 z5, done⟩⟩⟩
end
section
variable {cA : Ca} {X : Cx} {pins : List (Addr × Obj)} {σ : L2.St} {H : Hp} {s : Shared} {m : List Addr} {S : Sto} {ρ : Nv} {W : WX} {Q : VK} {E : Value → Shared → Prop} {y z : V} {u r : Value} {d e f : D}
/-- d[k] = v within a comprehension -/
theorem sv_dset {S' : Sto} {n : Nat} {D : Addr} {R : Unit → Shared → Prop} (hu : X.A.units + 64 < cLine) (I : L2.Inv X pins σ H s) (rs : RelS X.F H m S) (hm : m[n]? = some D) (ry : RelV y u) (rz : RelV z r) (re : RelD X.F H m e y) (rf : RelD X.F H m f z) (h : dPut (.ref n) e f S = some S')
    (q : ∀ H' s', L2.Inv X pins σ H' s' → Ext X.F H m H' m → RelS X.F H' m S' → R () s') : wpAny (model X.prog X.w) X.A (dictSet D u r) R E s := by
  unfold dPut at h
  split at h
  · rename_i k hn
    cases hn
    cases re with
    | p rk =>
    split at h
    · rename_i kvs ho
      split at h
      · rename_i hc
        obtain ⟨hk, hl⟩ := hc
        cases h
        obtain ⟨kq, hkq⟩ := sk_key hk
        cases key_v hkq rk
        obtain ⟨a', ea, ro⟩ := rs.ob _ _ ho
        rw [hm] at ea; cases ea
        cases ro with
        | @dc _ us hH rel =>
        have hl' : us.length < sizeLine := by rw [← rel.length, line_eq]; exact hl
        have wr : Wr H D := .inr (by rw [hH]; trivial)
        refine d_dictSet I hH hl' ry rz fun s' I' => q _ s' I' (.putW wr) (rs.putW ho rfl hm wr (.dc upd_same ?_) rfl)
        have := (rel.put hkq rk rf).mono (kp_updW (o := .dK (putK us kq z)) wr) []
        simpa using this
      · cases h
    · rename_i kvs ho
      split at h
      · rename_i hc
        obtain ⟨hk, hl⟩ := hc
        cases h
        obtain ⟨b, eb⟩ := tk_ref hk rk
        subst eb
        cases (show u = Value.ref b from ry)
        obtain ⟨a', ea, ro⟩ := rs.ob _ _ ho
        rw [hm] at ea; cases ea
        cases ro with
        | @dt _ xs hH nd zl rel =>
        have wr : Wr H D := .inr (by rw [hH]; trivial)
        have dd := t_of I (.inl hH) rel
        refine wpAny_dictSet_heap (hsz := by rw [← rel.length]; exact zl) (by show X.A.units + 8 < cLine; omega) (tk_is I hk rk) dd fun h' dd' hs => ?_
        have he : ∃ o, h'.get? D = some o := let ⟨o, _, _, ho, _⟩ := dd'; ⟨o, ho⟩
        refine q (upd H D (dtO X.w D (storedH xs (nk k) b r))) _ (d_write I (by rw [hH]; trivial) hs he (t_ok dd')) (.putW wr) (rs.putW ho rfl hm wr (.dt upd_same nd ?_ ?_) rfl)
        · have := kput_len kvs k f
          rw [line_eq]; omega
        · have := (rel.put rk hk rz rf).mono (kp_updW (o := dtO X.w D (storedH xs (nk k) b r)) wr) []
          simpa using this
      · cases h
    · cases h
  · cases h
theorem setR_of {S' : Sto} {n : Nat} {D : Addr} {Nx : Hp → Prop} (hu : X.A.units + 64 < cLine) (rs : RelS X.F H m S) (hm : m[n]? = some D) (re : RelD X.F H m e y) (rf : RelD X.F H m f z) (h : dPut (.ref n) e f S = some S') (q : ∀ H', Ext X.F H m H' m → RelS X.F H' m S' → Nx H') :
    SetR X.prog X.w X.A X.K D y z H Nx := fun Y pn τ s u r E e1 e2 e3 e4 I ry rz => by
  have eF : X.F = Y.F := by show (⟨X.K, X.w⟩ : Fg) = ⟨Y.K, Y.w⟩; rw [e2, e4]
  rw [eF] at rs re rf q
  rw [← e1, ← e2, ← e3]
  exact sv_dset (by rw [e3]; exact hu) I rs hm ry rz re rf h fun H' s' I' e5 rs' => ⟨H', I', q H' e5 rs'⟩
def dcmF (t : Bool) (own : List Nat) (tg : Tg) (w : Nv → Sto → Res Wk) (c : Nv → Sto → Res Bool) (kx vx : Nv → Sto → Res D) : Nv → Sto → Res D := fun ρ S => (w ρ S).bind fun w S => dcI w tg c kx vx (wipeN ρ own) S.length w.ds (S ++ [newD t])
theorem newD_rel {K : Fg} {m : List Addr} {D : Addr} {t : Bool} {H : Hp} (h : H D = some (newHO K.wd D t)) (sys : (D == sysModules) = false) : RelO K H m D (newD t) := by
  cases t with
  | false => exact .dc h .nil
  | true => exact .dt h sys (Nat.zero_le _) .nil
theorem dcm_of {t : Bool} {own : List Nat} {tg : Tg} {w : Nv → Sto → Res Wk} {c : Nv → Sto → Res Bool} {kx vx : Nv → Sto → Res D} (hu : X.A.units + 64 < cLine) (ht : ∀ j ∈ tg.sl, j ∈ own) (rn : RelN X.F H m ρ σ) (rs : RelS X.F H m S) (hp : Post cA X.F m H σ W (dcmF t own tg w c kx vx ρ S) Q) :
    tDx X.prog X.w X.A X.K t (tW cA X.F W w) (tG X.F tg) (tB cA X.F W0 c) (tR cA X.F W0 kx) (tR cA X.F W0 vx) own σ H Q := by
  refine ⟨m, ρ, S, rn, rs, ?_⟩
  unfold dcmF at hp
  cases q : w ρ S with
  | stuck => simp only [q, Res.bind] at hp; exact hp.elim
  | exc x S1 => simp only [q, Res.bind] at hp; exact hp
  | ok wk S1 =>
    simp only [q, Res.bind] at hp
    intro m1 H1 J e1 rs1 ok D0 hD0 sys
    have hn1 : (m1 ++ [D0])[S1.length]? = some D0 := by rw [← rs1.len]; simp
    have ex0 : Ext X.F H1 m1 (upd H1 D0 (newHO X.w D0 t)) (m1 ++ [D0]) := Ext.new hD0
    refine ⟨fun i mm H => ∃ m2 S2, Ext X.F H1 m1 H m2 ∧ RelS X.F H m2 S2 ∧ m2[S1.length]? = some D0 ∧ mm = (wk.ds.drop i).length ∧
      Post cA X.F m2 H σ W (dcI wk tg c kx vx (wipeN ρ own) S1.length (wk.ds.drop i) S2) Q, ⟨_, m1 ++ [D0], S1 ++ [newD t], ex0, rs1.new hD0 (newD_rel (K := X.F) upd_same sys) (by cases t <;> rfl), hn1, rfl, ?_⟩, ?_⟩
    · rw [List.drop_zero]
      exact Post.mono (e1.trans ex0) hp
    · rintro i mm Hc ⟨m2, S2, e2, rs2, hm2, rfl, h2⟩
      have rn2 : RelN X.F Hc m2 (wipeN ρ own) (L2.wipe σ own) := ((rn.ext e1).ext e2).wipe own
      cases hd : wk.ds.drop i with
      | nil =>
        rw [hd] at h2
        unfold dcI at h2
        split at h2
        · rename_i hst
          have hi : wk.ds.length ≤ i := by simpa using hd
          exact .inl ⟨((ok m2 Hc S2 e2 rs2 hst) i).1 hi, h2 m2 Hc _ .refl rs2 (.ref hm2)⟩
        · exact h2.elim
      | cons d ds =>
        rw [hd] at h2
        have hget : wk.ds[i]? = some d := by
          have := congrArg List.head? hd
          simpa [List.head?_drop] using this
        have hds : ds = wk.ds.drop (i + 1) := by
          have := congrArg List.tail hd
          simpa using this.symm
        unfold dcI at h2
        split at h2
        · rename_i hst
          obtain ⟨go, yl⟩ := ((ok m2 Hc S2 e2 rs2 hst) i).2 d hget
          refine .inr ⟨go, fun H' => ∃ m', m' < (d :: ds).length ∧ ∃ m2 S2, Ext X.F H1 m1 H' m2 ∧ RelS X.F H' m2 S2 ∧ m2[S1.length]? = some D0 ∧ m' = (wk.ds.drop (i + 1)).length ∧
            Post cA X.F m2 H' σ W (dcI wk tg c kx vx (wipeN ρ own) S1.length (wk.ds.drop (i + 1)) S2) Q, fun H' h => h, fun x H' hy => ?_⟩
          obtain ⟨rfl, rdx⟩ := yl x H' hy
          refine ⟨m2, wipeN ρ own, S2, d, rn2, rs2, rdx, ?_⟩
          cases qa : asgT tg d (wipeN ρ own) with
          | none => simp only [qa] at h2; exact h2.elim
          | some ρ1 =>
            simp only [qa] at h2 ⊢
            intro σ2 rn3 ag
            refine ⟨wipe_agr ht ag, m2, ρ1, S2, rn3, rs2, ?_⟩
            have again : ∀ m3 H3 S3, Ext X.F H' m2 H3 m3 → RelS X.F H3 m3 S3 → Post cA X.F m3 H3 σ W (dcI wk tg c kx vx (wipeN ρ own) S1.length ds S3) Q →
                ∃ m', m' < (d :: ds).length ∧ ∃ m2 S2, Ext X.F H1 m1 H3 m2 ∧ RelS X.F H3 m2 S2 ∧ m2[S1.length]? = some D0 ∧ m' = (wk.ds.drop (i + 1)).length ∧
                  Post cA X.F m2 H3 σ W (dcI wk tg c kx vx (wipeN ρ own) S1.length (wk.ds.drop (i + 1)) S2) Q := fun m3 H3 S3 e3 rs3 h3 => by
              obtain ⟨t, rfl⟩ := e3.pre
              exact ⟨_, by rw [← hds]; simp, _, S3, e2.trans e3, rs3, pre_get hm2, rfl, by rw [← hds]; exact h3⟩
            cases qc : c ρ1 S2 with
            | stuck => simp only [qc] at h2; exact h2.elim
            | exc x S3 => simp only [qc] at h2; exact h2.elim
            | ok b S3 =>
              simp only [qc] at h2
              intro m3 H3 e3 rs3
              cases b with
              | false =>
                simp only at h2
                simpa using again m3 H3 S3 e3 rs3 (Post.mono e3 h2)
              | true =>
                simp only at h2
                simp only [if_true]
                refine ⟨m3, ρ1, S3, rn3.ext e3, rs3, ?_⟩
                cases qk : kx ρ1 S3 with
                | stuck => simp only [qk] at h2; exact h2.elim
                | exc x S4 => simp only [qk] at h2; exact h2.elim
                | ok k S4 =>
                  simp only [qk] at h2
                  intro m4 H4 yk e4 rs4 rd4
                  refine ⟨m4, ρ1, S4, (rn3.ext e3).ext e4, rs4, ?_⟩
                  cases qv : vx ρ1 S4 with
                  | stuck => simp only [qv] at h2; exact h2.elim
                  | exc x S5 => simp only [qv] at h2; exact h2.elim
                  | ok v S5 =>
                    simp only [qv] at h2
                    intro m5 H5 yv e5 rs5 rd5
                    have ex := (e3.trans e4).trans e5
                    have hm5 : m5[S1.length]? = some D0 := by
                      obtain ⟨t, rfl⟩ := ex.pre
                      exact pre_get hm2
                    split at h2
                    · rename_i S6 hpu
                      exact setR_of hu rs5 hm5 (rd4.ext e5) rd5 hpu fun H6 e6 rs6 => again m5 H6 S6 (ex.trans e6) rs6 (Post.mono (ex.trans e6) h2)
                    · exact h2.elim
        · exact h2.elim
end
/-! ### d[k], k in d, d.get, d[k] = v, del d[k] -/
section
variable {cA : Ca} {X : Cx} {σ : L2.St} {H : Hp} {m : List Addr} {S : Sto} {ρ : Nv} {W : WX} {Q : VK} {T : Ends} {pos : Pos} {a b c x : Expr} {f g h : Nv → Sto → Res D}
theorem Post.here {K : Fg} {d : D} {v : V} (hp : Post cA K m H σ W (.ok d S) Q) (rs : RelS K H m S) (rd : RelD K H m d v) : Q v H := hp m H v .refl rs rd
theorem se_d0t : PE X (.Dict [] [] pos) (tR cA X.F W fun _ S => new (.dt []) S) := ⟨fun pins s σ H Q I ⟨m, ρ, S, rn, rs, hp⟩ => wpAny_Dict_empty (by
  have hn : H s.heap.objs.size = none := I.hok.fresh (Nat.le_refl _)
  have sys : (s.heap.objs.size == sysModules) = false := beq_eq_false_iff_ne.mpr (Nat.ne_of_gt I.big)
  exact ⟨.ref s.heap.objs.size, _, I.laid (a := s.heap.objs.size) (o := newHO X.w s.heap.objs.size true) (t' := s.toks) (fun _ _ z => Heap.get?_push_of_some _ z) (Nat.le_refl _) (newHO_ok true I.big), rfl,
    hp _ _ _ (.new hn) (rs.new hn (.dt upd_same sys (Nat.zero_le _) .nil) rfl) (.ref (by rw [← rs.len]; simp))⟩)⟩
theorem dIx_of {d e : D} {K : Fg} (h : Post cA K m H σ W (dIx d e S) Q) : ∃ z, dGet d e S = some (some z) ∧ Post cA K m H σ W (.ok z S) Q := by
  unfold dIx at h
  cases q : dGet d e S with
  | none => rw [q] at h; exact h.elim
  | some o =>
    rw [q] at h
    cases o with
    | none => exact h.elim
    | some z => exact ⟨z, rfl, h⟩
theorem se_dix (hu : X.A.units + 64 < cLine) (hs : noSlice b = true) (ha : PE X a (tR cA X.F W f)) (hb : PE X b (tR cA X.F W g)) : PE X (.Subscript a b pos) (tR cA X.F W fun ρ S => (f ρ S).bind fun x S => (g ρ S).bind fun y S => dIx x y S) :=
  ⟨fun pins s σ H Q I ⟨m, ρ, S, rn, rs, hp⟩ => subD_of PySem.F.slot_dict_getitem.lookup (fun o i => by cases b <;> first | rfl | cases hs) (by
    obtain ⟨m0, ρ0, S0, a1, a2, a3⟩ := seq2 rn rs hp
    refine thn (ha.run pins s σ H _ I ⟨m0, ρ0, S0, a1, a2, a3⟩) fun u s1 ⟨x, H1, I1, rx, q1⟩ => thn (hb.run pins s1 σ H1 _ I1 q1) fun w s2 ⟨y, H2, I2, ry, m2, d, e, S2, rs2, dx, dy, hp2⟩ => ?_
    obtain ⟨z, hz, h3⟩ := dIx_of hp2
    exact sv_dix hu I2 rs2 rx ry dx dy hz fun w' s' vz I' rz rdz => ⟨vz, H2, I', rz, h3.here rs2 rdz⟩)⟩
theorem dIn_of {d e : D} {K : Fg} {neg : Bool} (h : Post cA K m H σ W (dIn neg e d S) Q) : ∃ o, dGet d e S = some o ∧ Post cA K m H σ W (ret1 (.bl (o.isSome != neg)) S) Q := by
  unfold dIn at h
  cases q : dGet d e S with
  | none => rw [q] at h; exact h.elim
  | some o => rw [q] at h; exact ⟨o, rfl, h⟩
def inOp (neg : Bool) : CmpOp := if neg then .NotIn else .In
theorem pc_din {neg : Bool} (hu : X.A.units + 64 < cLine) (hb : PE X b (tR cA X.F W g)) (ha : PE X a (tR cA X.F W f)) : PC X (inOp neg) b a (tR cA X.F W fun ρ S => (g ρ S).bind fun y S => (f ρ S).bind fun x S => dIn neg y x S) :=
  ⟨fun pins s σ H Q I ⟨m, ρ, S, rn, rs, hp⟩ => bin hb ha I (seq2 rn rs hp) fun w u s2 y x H2 I2 ry rx ⟨m2, e, d, S2, rs2, dy, dx, hp2⟩ => by
    obtain ⟨o, ho, h3⟩ := dIn_of hp2
    exact sv_din hu I2 rs2 rx ry dx dy ho fun s' I' => ⟨.bl (o.isSome != neg), H2, I', rfl, h3.dat rs2 (.bl _)⟩⟩
theorem se_din {neg : Bool} (hu : X.A.units + 64 < cLine) (hm : behindInMarks (inOp neg) a = false) (hb : PE X b (tR cA X.F W g)) (ha : PE X a (tR cA X.F W f)) :
    PE X (.Compare b [inOp neg] [a] pos) (tR cA X.F W fun ρ S => (g ρ S).bind fun y S => (f ρ S).bind fun x S => dIn neg y x S) := pe_cmp (pc_din hu hb ha) hm
theorem dIn_bl {neg : Bool} {d e r : D} {S S' : Sto} (h : dIn neg e d S = .ok r S') : ∃ k, r = .p (.bl k) := by
  unfold dIn at h
  split at h
  · cases h; exact ⟨_, rfl⟩
  · cases h
theorem st_din {neg : Bool} (hu : X.A.units + 64 < cLine) (hm : behindInMarks (inOp neg) a = false) (hb : PE X b (tR cA X.F W g)) (ha : PE X a (tR cA X.F W f)) :
    PT X (.Compare b [inOp neg] [a] pos) (tB cA X.F W fun ρ S => ((g ρ S).bind fun y S => (f ρ S).bind fun x S => dIn neg y x S).bind truI) :=
  (pt_cmp (pc_din hu hb ha) hm).imp fun σ H Q ⟨m, ρ, S, rn, rs, hp⟩ => test_bl rn rs (fun d S' q => by
    obtain ⟨y, S1, _, q⟩ := Res.bind_ok q
    obtain ⟨z, S2, _, q⟩ := Res.bind_ok q
    exact dIn_bl q) hp
theorem dGet2_of {d e z : D} {K : Fg} (h : Post cA K m H σ W (dGet2 d e z S) Q) : ∃ o, dGet d e S = some o ∧ Post cA K m H σ W (.ok (o.getD z) S) Q := by
  unfold dGet2 at h
  cases q : dGet d e S with
  | none => rw [q] at h; exact h.elim
  | some o => rw [q] at h; exact ⟨o, rfl, h⟩
theorem recvD_at {pins : List (Addr × Obj)} {s : Shared} {d : D} {v : V} (I : L2.Inv X pins σ H s) (rs : RelS X.F H m S) (rd : RelD X.F H m d v) (h : recvD d S = true) :
    ∃ p, v = .ref p ∧ s.TypeIs (.ref p) "dict" ∧ ∀ q, Value.ref p = .ref q → ∃ o, s.heap.get? q = some o ∧ o.dict = none := by
  have hk : ∃ ks, keysD d S = some ks := by
    unfold recvD at h
    split at h
    · rename_i n
      unfold Sto.isD at h
      split at h <;> first | (rename_i ho; exact ⟨_, by simp only [keysD, ho, O.frzD, Option.map_some] <;> rfl⟩) | cases h
    · cases h
  obtain ⟨ks, hk⟩ := hk
  obtain ⟨p, o, es, ep, ws, rfl, k⟩ := keys_of I rs rd hk
  exact ⟨p, rfl, ⟨o, k.get, k.ex.1⟩, fun q e => by cases e; exact ⟨o, k.get, k.ex.2.1⟩⟩
def dg1F (f g : Nv → Sto → Res D) : Nv → Sto → Res D := fun ρ S => (f ρ S).bind fun x S => if recvD x S then (g ρ S).bind fun y S => dGet2 x y (.p .non) S else .stuck
def dg2F (f g h : Nv → Sto → Res D) : Nv → Sto → Res D := fun ρ S => (f ρ S).bind fun x S => if recvD x S then (g ρ S).bind fun y S => (h ρ S).bind fun z S => dGet2 x y z S else .stuck
theorem se_dg1 {o e : Expr} {apos : Pos} (hu : X.A.units + 64 < cLine) (hbase : attributeBase o "get" X.env (eval o X.env) = eval o X.env) (hline : (apos.endLine == pos.line) = true) (hp : plain e = true)
    (ho : PE X o (tR cA X.F W f)) (he : PE X e (tR cA X.F W g)) : PE X (.Call (.Attribute o "get" apos) [e] [] pos) (tR cA X.F W (dg1F f g)) := ⟨fun pins s σ H Q I ⟨m, ρ, S, rn, rs, hp0⟩ => by
  have few : ((backTo pos (starEach [e] X.env)).all (fun x => !x.1) && (backToKw pos (keywordEach [] X.env)).all (fun x => x.1.isSome) && decide (([e] : List Expr).length + ([] : List Keyword).length + (if ([] : List Keyword).isEmpty then 0 else 1) < 30)) = true := by
    rw [star_all (by simp [hp])]; rfl
  have trees : backTo pos (starEach [e] X.env) = [(false, eval e X.env)] := by rw [star_cons hp]; rfl
  refine wpAny_Call_method hbase few hline PySem.F.plainAttrs_dict PySem.F.slot_dict_get PySem.F.type_dict_get (thn (ho.run pins s σ H _ I ⟨m, ρ, S, rn, rs, Post.bind hp0⟩) fun u s1 ⟨x, H1, I1, rx, m1, d, S1, _, e1, rs1, rd1, h1⟩ => ?_)
  split at h1
  · rename_i hr
    obtain ⟨p, rfl, t1, t2⟩ := recvD_at I1 rs1 rd1 hr
    obtain rfl : u = Value.ref p := rx
    refine ⟨t1, t2, ?_⟩
    rw [trees]
    refine Calls.callWith_builtin rfl (Calls.evalArgs_plain (Calls.spliced_cons (thn (he.run pins s1 σ H1 _ I1 ⟨m1, ρ, S1, rn.ext e1, rs1, Post.bind h1⟩) fun w s2 ⟨y, H2, I2, ry, m2, k, S2, _, e2, rs2, rk, h2⟩ => Calls.spliced_nil ?_)))
    obtain ⟨oo, hoo, h3⟩ := dGet2_of h2
    exact (sv_dget (z := .non) (r := Value.none) hu I2 rs2 (show RelV (.ref p) (Value.ref p) from rfl) ry (rd1.ext e2) rk hoo fun w' s' vz I' rz rdz => ⟨vz, H2, I', rz, h3.here rs2 rdz⟩).1 rfl
  · exact h1.elim⟩
theorem se_dg2 {o e e' : Expr} {apos : Pos} (hu : X.A.units + 64 < cLine) (hbase : attributeBase o "get" X.env (eval o X.env) = eval o X.env) (hline : (apos.endLine == pos.line) = true) (hp : plain e = true) (hp' : plain e' = true)
    (ho : PE X o (tR cA X.F W f)) (he : PE X e (tR cA X.F W g)) (he' : PE X e' (tR cA X.F W h)) : PE X (.Call (.Attribute o "get" apos) [e, e'] [] pos) (tR cA X.F W (dg2F f g h)) := ⟨fun pins s σ H Q I ⟨m, ρ, S, rn, rs, hp0⟩ => by
  have few : ((backTo pos (starEach [e, e'] X.env)).all (fun x => !x.1) && (backToKw pos (keywordEach [] X.env)).all (fun x => x.1.isSome) && decide (([e, e'] : List Expr).length + ([] : List Keyword).length + (if ([] : List Keyword).isEmpty then 0 else 1) < 30)) = true := by
    rw [star_all (by simp [hp, hp'])]; rfl
  have trees : backTo pos (starEach [e, e'] X.env) = [(false, eval e X.env), (false, eval e' X.env)] := by rw [star_cons hp, star_cons hp']; rfl
  refine wpAny_Call_method hbase few hline PySem.F.plainAttrs_dict PySem.F.slot_dict_get PySem.F.type_dict_get (thn (ho.run pins s σ H _ I ⟨m, ρ, S, rn, rs, Post.bind hp0⟩) fun u s1 ⟨x, H1, I1, rx, m1, d, S1, _, e1, rs1, rd1, h1⟩ => ?_)
  split at h1
  · rename_i hr
    obtain ⟨p, rfl, t1, t2⟩ := recvD_at I1 rs1 rd1 hr
    obtain rfl : u = Value.ref p := rx
    refine ⟨t1, t2, ?_⟩
    rw [trees]
    refine Calls.callWith_builtin rfl (Calls.evalArgs_plain (Calls.spliced_cons (thn (he.run pins s1 σ H1 _ I1 ⟨m1, ρ, S1, rn.ext e1, rs1, Post.bind h1⟩) fun w s2 ⟨y, H2, I2, ry, m2, k, S2, _, e2, rs2, rk, h2⟩ =>
      Calls.spliced_cons (thn (he'.run pins s2 σ H2 _ I2 ⟨m2, ρ, S2, (rn.ext e1).ext e2, rs2, Post.bind h2⟩) fun w2 s3 ⟨z, H3, I3, rz, m3, zd, S3, _, e3, rs3, rzd, h3⟩ => Calls.spliced_nil ?_))))
    obtain ⟨oo, hoo, h4⟩ := dGet2_of h3
    exact (sv_dget hu I3 rs3 (show RelV (.ref p) (Value.ref p) from rfl) ry ((rd1.ext e2).ext e3) (rk.ext e3) hoo fun w' s' vz I' rvz rdz => ⟨vz, H3, I', rvz, h4.here rs3 rdz⟩).2 rz rzd
  · exact h1.elim⟩
theorem ss_dsu {o i : Expr} {spos : Pos} (hu : X.A.units + 64 < cLine) (he : PE X a (tR cA X.F W f)) (ho : PE X o (tR cA X.F W g)) (hi : PE X i (tR cA X.F W h)) (hs : swapsWith a (some (.Subscript o i spos)) pos.line X.env = pure false) :
    PS X (.Assign [.Subscript o i spos] a pos) (tC cA X.F W fun ρ S => (f ρ S).out ρ fun y S => (g ρ S).out ρ fun x S => (h ρ S).out ρ fun k S => match dPut x k y S with
      | some S' => .nx ρ S'
      | none => .stuck) := ⟨fun pins s σ H T I ⟨m, ρ, S, rn, rs, hp⟩ => by
  refine wpAny_Assign_Subscript (thn (he.run pins s σ H _ I ⟨m, ρ, S, rn, rs, PostC.out rn hp⟩) fun r s1 ⟨v, H1, I1, rv, m1, d1, S1, _, e1, rs1, rd1, h1⟩ =>
    thn (ho.run pins s1 σ H1 _ I1 ⟨m1, ρ, S1, rn.ext e1, rs1, PostC.out (rn.ext e1) h1⟩) fun u s2 ⟨x, H2, I2, rx, m2, d2, S2, _, e2, rs2, rd2, h2⟩ =>
      thn (hi.run pins s2 σ H2 _ I2 ⟨m2, ρ, S2, (rn.ext e1).ext e2, rs2, PostC.out ((rn.ext e1).ext e2) h2⟩) fun iv s3 ⟨y, H3, I3, ry, m3, d3, S3, _, e3, rs3, rd3, h3⟩ => ?_) hs
  cases q : dPut d2 d3 d1 S3 with
  | none => rw [q] at h3; exact h3.elim
  | some S4 =>
    rw [q] at h3
    exact sv_dput hu I3 rs3 rx ry rv (rd2.ext e3) rd3 ((rd1.ext e2).ext e3) q fun H4 s4 I4 e4 rs4 => ⟨σ, H4, I4, h3 m3 H4 σ e4 ((((rn.ext e1).ext e2).ext e3).ext e4) rs4⟩⟩
theorem ss_ddl {o i : Expr} {spos : Pos} (hu : X.A.units + 64 < cLine) (ho : PE X o (tR cA X.F W g)) (hi : PE X i (tR cA X.F W h)) :
    PS X (.Delete [.Subscript o i spos] pos) (tC cA X.F W fun ρ S => (g ρ S).out ρ fun x S => (h ρ S).out ρ fun k S => match dDel x k S with
      | some S' => .nx ρ S'
      | none => .stuck) := ⟨fun pins s σ H T I ⟨m, ρ, S, rn, rs, hp⟩ => by
  refine wpAny_Delete (wpAny_deleteEach_cons (wpAny_delete_Subscript (thn (ho.run pins s σ H _ I ⟨m, ρ, S, rn, rs, PostC.out rn hp⟩) fun u s1 ⟨x, H1, I1, rx, m1, d1, S1, _, e1, rs1, rd1, h1⟩ =>
    thn (hi.run pins s1 σ H1 _ I1 ⟨m1, ρ, S1, rn.ext e1, rs1, PostC.out (rn.ext e1) h1⟩) fun iv s2 ⟨y, H2, I2, ry, m2, d2, S2, _, e2, rs2, rd2, h2⟩ => ?_)))
  cases q : dDel d1 d2 S2 with
  | none => rw [q] at h2; exact h2.elim
  | some S4 =>
    rw [q] at h2
    exact sv_ddel hu I2 rs2 rx ry (rd1.ext e2) rd2 q fun H4 s4 I4 e4 rs4 => wpAny_deleteEach_nil ⟨σ, H4, I4, h2 m2 H4 σ e4 (((rn.ext e1).ext e2).ext e4) rs4⟩⟩
end
end PH

set_option maxHeartbeats 8000000
/-! PH, part X: the program's own exception classes. -/
namespace PH
open L2 PySem PySem.Spec PyProof.Rows NdefX
section
variable {X : Cx} {pins : List (Addr × Obj)} {σ : L2.St} {H : Hp} {s : Shared} {a C f L cc : Addr} {F : NF}
/-- what is known of a class over ValueError (perhaps with others between) whose __init__ asks super() -/
structure SupK (K : PySem.W.Frag) (C : Addr) : Prop where
  oex : OexC K C
  sup : PySem.W.ks_superIn K C C "__init__" = some (some (.builtin "ValueError.__init__"))
  ve : PySem.W.subIn K (.ref C) (.type "ValueError") = some true
  me : PySem.W.mroIn K C (.ref C) = some true
  nos : PySem.W.nsIn K mainGlobals "super" = some none
  thi : PySem.W.nsIn K cStatics "thirdparty.any" = some none
/-- .. of its __init__ -/
structure SupF (K : PySem.W.Frag) (P : Program) (C f cc : Addr) (F : NF) (slf : Str) : Prop where
  cl : F.cl = [(("__class__" : Str), cc)]
  fn : ∃ oc od sl doc pm ctv, K.lookup f = some ⟨oc, od, .func (F.fd doc pm ctv), sl⟩
  hd : (F.params.posonlyargs ++ F.params.args).head?.map (·.arg) = some slf
  code : ∃ cl cd vs cs file tf, K.lookup F.c = some ⟨cl, cd, .fields vs, cs⟩ ∧ vs[2]? = some (.str file tf) ∧ ((P.main.file : Str) == file) = true
  cell : ∃ cl cd cs, K.lookup cc = some ⟨cl, cd, .cell (some (.ref C)), cs⟩
  kind : F.scope.kind = .function
  ks : F.scope.names.lookup ("super" : Str) = some .globalImplicit
  kc : F.scope.names.lookup ("__class__" : Str) = some .free
  ka : F.scope.names.lookup slf = some .local
  top : (P.main.scope.names.lookup ("super" : Str)).isSome = false
def plO (o : Expr) (env : Env) : Sem Bool := importBound o env >>= fun r => pure (r.getD true)
theorem one_line {o : Expr} {m : Str} {p q : Pos} {env : Env} {ov : Value} {n : Nat} {as : List (Bool × Sem Value)} {ks : List (Option Str × Sem Value)} (hf : methodCallForm n as ks = true) (hl : (p.endLine == q.line) = true) :
    methodCall o m p q env ov n as ks = (holding [ov] (getMethod ov m (plO o env)) >>= fun fx => callWith q fx.1 fx.2 as ks) := by
  have e2 : methodCallPos true o env p q = pure q := by
    unfold methodCallPos
    rw [hl, Bool.or_true, if_pos rfl]
  unfold methodCall calleeOf
  rw [hf, if_pos rfl, e2]
  rfl
theorem super_init {self : Str} {i : Nat} {body : List Stmt} {p0 p1 p2 p3 pos pos' : Pos} {t : Cs} {kd : Nat} (T : SupK X.K C) (G : SupF X.K X.prog C f cc F self) (hE : X.env = envF F f L) (I : Inv X pins σ H s) (hN : X.N[i]? = some self) (hσ : σ[i]? = some (some (.ref a)))
    (e : H a = some (exo a C none)) (hline : (p2.endLine == pos.line) = true) : _root_.PySem.wpAt (model X.prog X.w) X.A (.func body X.env) (exec (.Expr (.Call (.Attribute (.Call (.Name "super" p0) [] [] p1) "__init__" p2) [.Constant (.str (mkS t)) kd p3] [] pos) pos') X.env)
      (fun fl s' => fl = .next ∧ Inv X pins σ H s') X.xe s := by
  obtain ⟨nm, q, N0, bs, bm, sn, sub, ab, col, dd, k0, k1, k2, k3, k5, hC, hbm⟩ := T.oex.cls
  obtain ⟨oc, od, sl, doc, pm, ctv, hfn⟩ := G.fn
  obtain ⟨c1, c2, vs, c3, file, tf, hcode, hvs, hfile⟩ := G.code
  obtain ⟨l1, l2, l3, hcell⟩ := G.cell
  have KX : X.K.In s.heap := I.kIn
  have hcd : PySem.W.clsIn X.K C = some { name := nm, bases := bs, mro := .ref C :: bm, ns := N0, qualname := q, hasDict := true, slotNames := sn, subclasses := sub, abstract := ab, collection := col, hasDel := false } := by unfold PySem.W.clsIn; rw [hC] <;> rfl
  have hCd : s.heap.get? C = some (excClassObj nm q C N0 bs bm true sn sub ab col dd k0 k1 k2 k3 k5 "ValueError.__new__") := KX _ _ hC
  obtain ⟨arg, harg, hself⟩ : ∃ ar : Arg, (F.params.posonlyargs ++ F.params.args).head? = some ar ∧ ar.arg = self := by
    have := G.hd
    cases hh : (F.params.posonlyargs ++ F.params.args).head? with
    | none => rw [hh] at this; cases this
    | some ar => rw [hh] at this; exact ⟨ar, rfl, Option.some.inj this⟩
  obtain ⟨t0, ho⟩ := exo_at I.hok e
  have hks : X.env.scope.names.lookup ("super" : Str) = some .globalImplicit := by rw [hE]; exact G.ks
  have hkc : X.env.scope.names.lookup ("__class__" : Str) = some .free := by rw [hE]; exact G.kc
  have hka : X.env.scope.names.lookup self = some .local := by rw [hE]; exact G.ka
  have hcl : X.env.cells.lookup ("__class__" : Str) = some cc := by
    rw [hE]
    show F.cl.lookup _ = _
    rw [G.cl]; rfl
  have mgs : X.mg "super" = none := PySem.W.mg_none_of I.ok.mod.kin I.mod.glob T.nos
  refine PySem.ks_wpAt_Expr_any ?_ I.quiet (by rfl)
  have he : eval (.Call (.Attribute (.Call (.Name "super" p0) [] [] p1) "__init__" p2) [.Constant (.str (mkS t)) kd p3] [] pos) X.env = (do
      let ov ← attributeBase (.Call (.Name "super" p0) [] [] p1) "__init__" X.env (eval (.Call (.Name "super" p0) [] [] p1) X.env)
      standAt p2.atName
      let (f, first) ← holding [ov] (getMethod ov "__init__" (plO (.Call (.Name "super" p0) [] [] p1) X.env))
      callWith pos f first (backTo pos (starEach [.Constant (.str (mkS t)) kd p3] X.env)) []) := by
    show (do
      let ov ← attributeBase (.Call (.Name "super" p0) [] [] p1) "__init__" X.env (eval (.Call (.Name "super" p0) [] [] p1) X.env)
      standAt p2.atName
      methodCall (.Call (.Name "super" p0) [] [] p1) "__init__" p2 pos X.env ov 1 (backTo pos (starEach [.Constant (.str (mkS t)) kd p3] X.env)) (backToKw pos (keywordEach [] X.env))) = _
    refine congrArg _ (funext fun ov => congrArg _ (funext fun _ => ?_))
    exact one_line rfl hline
  refine PySem.ks_wpAt_MethodCall ?_ he
  refine PySem.ks_wpAt_super_base (env := X.env) hks hkc (by decide) (by rw [hE]) (KX _ _ hfn) rfl harg (by rw [hE]) (KX _ _ hcode) rfl hvs hfile G.top ?_
  obtain ⟨mb, hb1, hb2⟩ := I.mod.blt
  refine PySem.W.ks_loadName_global I.ok.kind hks (Calls.loadGlobal_builtin (by rw [I.ok.glob]; exact I.mod.glob.keeps I.bk) mgs (by rw [I.ok.blt]; exact hb1.keeps I.bk) ((hb2 _ (by decide)).trans (by first | rfl | kernel_rfl)) ⟨rfl, ?_⟩)
  refine wpAny_loadName_free I.ok.kind hkc hcl ⟨_, KX _ _ hcell, rfl⟩ ?_
  obtain ⟨ml, hns, hloc⟩ := I.loc
  obtain ⟨u, ru, lk⟩ := hloc i self (.ref a) hN hσ (.inl hka)
  obtain rfl : u = Value.ref a := ru
  have hml : ml self = some (.ref a) := by
    rcases lk with ⟨_, z⟩ | ⟨z, _⟩
    · exact z
    · have : X.env.scope.names.lookup self = some .cell ∨ X.env.scope.names.lookup self = some .free := z
      rw [hka] at this
      rcases this with z | z <;> cases z
  rw [hself]
  refine wpAny_loadName_local I.ok.kind hka hns hml ?_
  refine PySem.ks_wpAny_isType_cls hCd rfl ⟨rfl, ?_⟩
  obtain ⟨hp, g, d, tk, os⟩ := s
  refine PySem.ks_wpAny_call_super hCd rfl ho rfl (fun c z => by cases z) (PySem.W.looks_mroIn KX T.me) (fun h1 e1 k1 => ?_)
  have I1 : Inv X pins σ H ⟨h1, g, d, tk, os⟩ := I.kept (t' := tk) k1
  have J1 : PySem.W.InstAt h1 a { cls := .ref C, dict := none, data := .fields #[.ref t0, .none, .none, .none, .bool false, .none] } C none := ⟨k1 _ _ ho, rfl, rfl, trivial⟩
  have K1 : X.K.In h1 := I1.kIn
  have hne : a ≠ C := PySem.W.ks_ne K1 J1 hcd
  have hal : PySem.W.alongIn X.K "__init__" (((Value.ref C :: bm).dropWhile (· != .ref C)).drop 1) = some (some (.builtin "ValueError.__init__")) := by
    have := T.sup
    unfold PySem.W.ks_superIn at this
    rw [hcd] at this
    exact this
  refine PySem.W.kxs_getMethod PySem.W.kxs_ValueError e1 (PySem.W.looks_opaque K1 T.thi) (PySem.W.looks_clsIn K1 hcd |>.andThen .now) rfl K1 hal (J1.type.andThen (PySem.W.looks_subIn K1 T.ve)) hne (by decide) ?_
  have k2 : ∀ b o, h1.get? b = some o → (h1.push (PySem.W.kxs_mw "ValueError.__init__" a)).get? b = some o := fun b o z => Heap.get?_push_of_some _ z
  have hu : (h1.push (PySem.W.kxs_mw "ValueError.__init__" a)).get? h1.objs.size = some (PySem.W.kxs_mw "ValueError.__init__" a) := Heap.get?_push_size _ rfl
  have I2 : Inv X pins σ H ⟨h1.push (PySem.W.kxs_mw "ValueError.__init__" a), g, d, tk + 1 + 1, os⟩ := I1.kept (t' := tk + 1 + 1) k2
  obtain ⟨t1, ho2⟩ := exo_at I2.hok e
  have hC2 := I2.kIn _ _ hC
  generalize h1.push (PySem.W.kxs_mw "ValueError.__init__" a) = h2 at hu I2 ho2 hC2
  refine PySem.W.kxs_callWith (i := "ValueError.__init__") (x := a) rfl (Calls.evalArgs_plain (Calls.spliced_cons (wpAny_Constant_str (k := kd) (pos := p3) (Calls.spliced_nil ⟨hu, ?_⟩))))
  refine wpAny_call (codeAny_of_tree ?_)
  show wpAny _ X.A.in1 (callAny (.ref h1.objs.size) ⟨[.str (mkS t) (tk + 1)], []⟩) _ _ _
  simp only [callAny]
  refine wpAny_bind (wpAny_load hu ?_)
  simp only [PySem.W.kxs_mw, show (Value.type "method-wrapper" == Value.type "method" || Value.type "method-wrapper" == Value.type "builtin_function_or_method" || Value.type "method-wrapper" == Value.type "method-wrapper") = true by decide, if_true]
  refine PySem.W.KFB.if_so (by decide) ?_
  show wpAny _ _ (checkBoundCall "ValueError.__init__" ⟨.ref a :: [.str (mkS t) (tk + 1)], []⟩ >>= fun _ => again (.builtin "ValueError.__init__" ⟨.ref a :: [.str (mkS t) (tk + 1)], []⟩)) _ _ _
  refine wpAny_bind (PySem.W.check_bound_init PySem.F.excBase_ValueError.toExcCallFacts hC2 ho2 rfl ?_)
  refine wpAny_pure ?_
  refine ⟨plainId_quiet PySem.F.excBase_ValueError.init.plain _, codeAny_builtin PySem.F.excBase_ValueError.initEntry ?_⟩
  refine PySem.W.exc_init_tree (cls := .ref C) (t0 := t1) (dv := none) (c2 := .none) (c3 := .none) (b4 := .bool false) ho2 (by show 1 ≤ sizeLine; decide) fun h3 k3 x3 _ => ?_
  have J := I2.write (t' := tk + 1 + 1) (x := a) (e := a) (o := exo a C none) (by rw [e]; exact True.intro) (.inl rfl) k3 ⟨_, x3⟩ (exo_ok x3)
  have eu : upd H a (exo a C none) = H := by
    funext b
    by_cases hb : b = a
    · rw [hb, upd_same, e]
    · rw [upd_ne hb]
  rw [eu] at J
  exact ⟨trivial, J⟩

/-- self.f = f, field by field -/
def setB (slf : Str) : List Str → List Stmt → Bool
  | [], [] => true
  | f :: fs, s :: ss => (match s with
    | .Assign [.Attribute (.Name o _) g _] (.Name x _) _ => decide (o = slf) && decide (g = f) && decide (x = f)
    | _ => false) && setB slf fs ss
  | _, _ => false
theorem setB_of {slf fld : Str} {fs : List Str} {ss : List Stmt} (h : setB slf (fld :: fs) ss = true) : ∃ p1 p2 p3 p4 ss', ss = .Assign [.Attribute (.Name slf p1) fld p2] (.Name fld p3) p4 :: ss' ∧ setB slf fs ss' = true := by
  cases ss with
  | nil => cases h
  | cons s ss =>
    simp only [setB, Bool.and_eq_true] at h
    obtain ⟨h1, h2⟩ := h
    split at h1
    · simp only [Bool.and_eq_true, decide_eq_true_eq] at h1
      obtain ⟨⟨rfl, rfl⟩, rfl⟩ := h1
      exact ⟨_, _, _, _, _, rfl, h2⟩
    · cases h1
structure SetH (X : Cx) (C : Addr) (j : Nat) (fs : List Str) : Prop where
  nm : ∀ i fl, fs[i]? = some fl → X.N[j + i]? = some fl ∧ Vis X.env.scope fl ∧ (fl == ("__debug__" : Str)) = false ∧ (fl == ("__classdict__" : Str)) = false ∧ PySem.W.findIn X.K (.ref C) fl = some none
theorem SetH.tl {j : Nat} {fl : Str} {fs : List Str} (h : SetH X C j (fl :: fs)) : SetH X C (j + 1) fs := ⟨fun i g hg => by
  have := h.nm (i + 1) g (by simpa using hg)
  rw [show j + (i + 1) = j + 1 + i by omega] at this
  exact this⟩
theorem upd_keep {H : Hp} {b : Addr} {o : HO} (h : H b = some o) : upd H b o = H := by
  funext c
  by_cases hc : c = b
  · rw [hc, upd_same, h]
  · rw [upd_ne hc]
theorem upd_upd {H : Hp} {b : Addr} {o u : HO} : upd (upd H b o) b u = upd H b u := by
  funext c
  by_cases hc : c = b
  · rw [hc, upd_same, upd_same]
  · rw [upd_ne hc, upd_ne hc, upd_ne hc]
theorem sets_run {slf : Str} {i0 : Nat} {d : Addr} (T : OexC X.K C) (hs0 : X.N[i0]? = some slf) (hv0 : Vis X.env.scope slf) (hd0 : (slf == ("__debug__" : Str)) = false) (hd1 : (slf == ("__classdict__" : Str)) = false) :
    ∀ (fs : List Str) (ss : List Stmt) (ys : List V) (j : Nat) (done : List (Str × V)) (H : Hp) (s : Shared), setB slf fs ss = true → fs.length = ys.length → SetH X C j fs → (∀ i y, ys[i]? = some y → σ[j + i]? = some (some y)) → σ[i0]? = some (some (.ref a)) → done.length + fs.length ≤ 900 →
      Inv X pins σ H s → H a = some (exo a C (some d)) → H d = some (exd d done) → d ≠ a → wpAny (model X.prog X.w) X.A (execs ss X.env) (fun fl s' => fl = .next ∧ Inv X pins σ (upd H d (exd d ((fs.zip ys).reverse ++ done))) s') X.xe s
  | [], ss, ys, j, done, H, s, hb, hl, hn, hy, h0, hz, I, ea, ed, da => by
    cases ss with
    | nil => exact wpAny_execs_nil ⟨rfl, by rw [show ([] : List Str).zip ys = [] from rfl]; rw [show ([] : List (Str × V)).reverse ++ done = done from rfl, upd_keep ed]; exact I⟩
    | cons _ _ => cases hb
  | fl :: fs, ss, [], j, done, H, s, hb, hl, hn, hy, h0, hz, I, ea, ed, da => by simp at hl
  | fl :: fs, ss, y :: ys, j, done, H, s, hb, hl, hn, hy, h0, hz, I, ea, ed, da => by
    obtain ⟨p1, p2, p3, p4, ss', rfl, hb'⟩ := setB_of hb
    obtain ⟨n1, n2, n3, n4, n5⟩ := hn.nm 0 fl rfl
    have st := ps_ost (X := X) (o := .Name slf p1) (e := .Name fl p3) (f := fl) (p' := p2) (pos := p4) (pe_var hs0 hv0 hd0 hd1) (pe_var n1 n2 n3 n4)
    refine wpAny_execs_cons (wpAny_mono (st.run pins s σ H { nx := fun σ' H' => σ' = σ ∧ H' = upd H d (exd d ((fl, y) :: done)), rt := fun _ _ => False } I ?_) (fun f0 s1 h1 => ?_) fun _ _ z => z)
    · exact ⟨y, hy 0 y rfl, .ref a, h0, a, C, rfl, T, n5, .inr ⟨d, done, ea, ed, by simp at hz; omega, rfl, rfl⟩⟩
    · cases f0 with
      | next =>
        obtain ⟨σ', H', I1, e1, e2⟩ := h1
        rw [e1, e2] at I1
        have r := sets_run T hs0 hv0 hd0 hd1 fs ss' ys (j + 1) ((fl, y) :: done) (upd H d (exd d ((fl, y) :: done))) s1 hb' (by simpa using hl) hn.tl (fun i z hz' => by
          have := hy (i + 1) z (by simpa using hz')
          rw [show j + (i + 1) = j + 1 + i by omega] at this
          exact this) h0 (by simp at hz ⊢; omega) I1 (by rw [upd_ne (Ne.symm da)]; exact ea) upd_same da
        rw [upd_upd] at r
        simpa using r
      | ret _ => obtain ⟨_, _, _, _, _, z⟩ := h1; exact z.elim
      | brk => obtain ⟨_, _, _, z⟩ := h1; exact z.elim
      | cont => obtain ⟨_, _, _, z⟩ := h1; exact z.elim
/-- .. from the first on -/
theorem sets_all {slf fl : Str} {i0 : Nat} {fs : List Str} {ss : List Stmt} {y : V} {ys : List V} {j : Nat} (T : OexC X.K C) (hs0 : X.N[i0]? = some slf) (hv0 : Vis X.env.scope slf) (hd0 : (slf == ("__debug__" : Str)) = false) (hd1 : (slf == ("__classdict__" : Str)) = false)
    (hb : setB slf (fl :: fs) ss = true) (hl : fs.length = ys.length) (hn : SetH X C j (fl :: fs)) (hy : ∀ i z, (y :: ys)[i]? = some z → σ[j + i]? = some (some z)) (h0 : σ[i0]? = some (some (.ref a))) (hz : fs.length ≤ 800) (I : Inv X pins σ H s) (ea : H a = some (exo a C none)) :
    wpAny (model X.prog X.w) X.A (execs ss X.env) (fun f0 s' => f0 = .next ∧ ∃ d, H d = none ∧ d ≠ a ∧ Inv X pins σ (upd (upd H d (exd d (((fl :: fs).zip (y :: ys)).reverse))) a (exo a C (some d))) s') X.xe s := by
  obtain ⟨p1, p2, p3, p4, ss', rfl, hb'⟩ := setB_of hb
  obtain ⟨n1, n2, n3, n4, n5⟩ := hn.nm 0 fl rfl
  have st := ps_ost (X := X) (o := .Name slf p1) (e := .Name fl p3) (f := fl) (p' := p2) (pos := p4) (pe_var hs0 hv0 hd0 hd1) (pe_var n1 n2 n3 n4)
  refine wpAny_execs_cons (wpAny_mono (st.run pins s σ H { nx := fun σ' H' => σ' = σ ∧ ∃ d, H d = none ∧ d ≠ a ∧ H' = upd (upd H d (exd d [(fl, y)])) a (exo a C (some d)), rt := fun _ _ => False } I ?_) (fun f0 s1 h1 => ?_) fun _ _ z => z)
  · exact ⟨y, hy 0 y rfl, .ref a, h0, a, C, rfl, T, n5, .inl ⟨ea, fun d hd da => ⟨rfl, d, hd, da, rfl⟩⟩⟩
  · cases f0 with
    | next =>
      obtain ⟨σ', H', I1, e1, d, hd, da, e3⟩ := h1
      rw [e1, e3] at I1
      refine wpAny_mono (sets_run T hs0 hv0 hd0 hd1 fs ss' ys (j + 1) [(fl, y)] (upd (upd H d (exd d [(fl, y)])) a (exo a C (some d))) s1 hb' hl hn.tl (fun i z hz' => by
          have := hy (i + 1) z (by simpa using hz')
          rw [show j + (i + 1) = j + 1 + i by omega] at this
          exact this) h0 (by simp; omega) I1 upd_same (by rw [upd_ne da]; exact upd_same) da) (fun f1 s2 ⟨h2, J⟩ => ⟨h2, d, hd, da, ?_⟩) fun _ _ z => z
      have e2 : upd (upd (upd H d (exd d [(fl, y)])) a (exo a C (some d))) d (exd d ((fs.zip ys).reverse ++ [(fl, y)])) = upd (upd H d (exd d (((fl :: fs).zip (y :: ys)).reverse))) a (exo a C (some d)) := by
        funext c
        by_cases hc : c = d
        · rw [hc, upd_same, upd_ne da, upd_same]; simp
        · by_cases hca : c = a
          · rw [hca, upd_ne (Ne.symm da), upd_same, upd_same]
          · rw [upd_ne hc, upd_ne hca, upd_ne hc, upd_ne hca, upd_ne hc]
      rw [e2] at J
      exact J
    | ret _ => obtain ⟨_, _, _, _, _, z⟩ := h1; exact z.elim
    | brk => obtain ⟨_, _, _, z⟩ := h1; exact z.elim
    | cont => obtain ⟨_, _, _, z⟩ := h1; exact z.elim

/-- what the __init__ of such a class does with the object and the fields' values -/
def spInit (C : Addr) (fs : List Str) : Sp := fun vs H Q _ => ∃ a ys, vs = .ref a :: ys ∧ ys.length = fs.length ∧ H a = some (exo a C none) ∧ ∀ d, H d = none → d ≠ a → Q .non (upd (upd H d (exd d ((fs.zip ys).reverse))) a (exo a C (some d)))
/-- the text of it -/
def initB (slf : Str) (fs : List Str) : List Stmt → Bool
  | .Expr (.Call (.Attribute (.Call (.Name n _) [] [] _) m p2) [.Constant (.str t) _ _] [] pos) _ :: ss => decide (n = ("super" : Str)) && decide (m = ("__init__" : Str)) && (p2.endLine == pos.line) && decide (t = mkS t.cps.toList) && setB slf fs ss
  | _ => false
theorem initB_of {slf : Str} {fs : List Str} {body : List Stmt} (h : initB slf fs body = true) : ∃ p0 p1 p2 p3 pos pos' kd t ss, body = .Expr (.Call (.Attribute (.Call (.Name "super" p0) [] [] p1) "__init__" p2) [.Constant (.str (mkS t)) kd p3] [] pos) pos' :: ss ∧ (p2.endLine == pos.line) = true ∧ setB slf fs ss = true := by
  unfold initB at h
  split at h
  · rename_i n p0 p1 m p2 u kd p3 pos pos' ss
    simp only [Bool.and_eq_true, decide_eq_true_eq] at h
    obtain ⟨⟨⟨⟨rfl, rfl⟩, h1⟩, h2⟩, h3⟩ := h
    exact ⟨p0, p1, p2, p3, pos, pos', kd, u.cps.toList, ss, by rw [← h2], h1, h3⟩
  · cases h
theorem look1 {n x : Str} {cc c : Addr} (h : [(n, cc)].lookup x = some c) : x = n ∧ c = cc := by
  rw [List.lookup_cons] at h
  cases hx : x == n with
  | true => rw [hx] at h; exact ⟨beq_iff_eq.mp hx, (Option.some.inj h).symm⟩
  | false => rw [hx] at h; cases h
theorem init_fn {CX : CXT} {P : Program} {w : World} {K : PySem.W.Frag} {mg : Str → Option Value} {base : Heap} {k : Nat} {C f cc : Addr} {Fn : NF} {slf fl : Str} {fs N : List Str} {oc : Value} {od : Option Addr} {sl : Array (Option Value)} {doc pm ctv : Value} (T : SupK K C) (G : SupF K P C f cc Fn slf)
    (lk : K.lookup f = some ⟨oc, od, .func (Fn.fd doc pm ctv), sl⟩) (hcd : PySem.W.codeIn K (.ref Fn.c) Fn.qual = true) (S : NScope N (slf :: fl :: fs) [("__class__" : Str)] Fn.scope) (hb : initB slf (fl :: fs) Fn.body = true)
    (hno : ∀ g ∈ fl :: fs, PySem.W.findIn K (.ref C) g = some none) (hdb : ∀ g ∈ slf :: fl :: fs, (g == ("__debug__" : Str)) = false ∧ (g == ("__classdict__" : Str)) = false) (hz : fs.length ≤ 800) :
    FnOk P w K mg base CX (k + 1) f (Fn.fd doc pm ctv) (slf :: fl :: fs) (spInit C (fl :: fs)) := by
  refine ⟨fun vs H Q E ⟨a, ys, e, hl, _⟩ => by rw [e]; simp [hl], fun A outer s H args us vs Q E hr e0 hbd r hsp => ?_⟩
  obtain ⟨a, ys0, rfl, hl, ea, hq⟩ := hsp
  cases ys0 with
  | nil => simp at hl
  | cons y ys =>
  have KX : K.In s.heap := e0.mod.kin.keeps fun b o e => (e0.bs b o e).1
  have lim : s.heap.NoLimit := e0.mod.nolimit.keeps fun b o e => (e0.bs b o e).1
  obtain ⟨l1, l2, l3, hcell⟩ := G.cell
  have hcb := e0.bs cc _ (e0.mod.kin _ _ hcell)
  have ndP : (slf :: fl :: fs).Nodup := by
    have q := S.nd.sublist (List.take_sublist ((slf :: fl :: fs).length + [("__class__" : Str)].length) N)
    rw [S.pre] at q
    exact (List.nodup_append.mp q).1
  have CA : CellsAt Fn.cl [("__class__" : Str)] [some (V.ref C)] s.heap H := by
    rw [G.cl]
    refine ⟨rfl, fun x c h => ?_, fun x z c h1 h2 => ?_, fun i x h => ?_⟩
    · obtain ⟨_, rfl⟩ := look1 h
      exact ⟨hcb.2, _, _, hcb.1, rfl⟩
    · rw [(look1 h1).1, (look1 h2).1]
    · cases i with
      | zero =>
        simp at h; subst h
        refine ⟨cc, rfl, fun v hv => ?_⟩
        simp at hv; subst hv
        exact ⟨.ref C, rfl, _, hcb.1, rfl⟩
      | succ i => simp at h
  have hNi : ∀ i g, (slf :: fl :: fs)[i]? = some g → N[i]? = some g := fun i g hg => by
    have hlt : i < (slf :: fl :: fs).length := (List.getElem?_eq_some_iff.mp hg).1
    have : (N.take ((slf :: fl :: fs).length + [("__class__" : Str)].length))[i]? = some g := by
      rw [S.pre, List.getElem?_append_left hlt]; exact hg
    rw [List.getElem?_take] at this
    split at this
    · exact this
    · cases this
  have hloc : ∀ g ∈ slf :: fl :: fs, Fn.scope.names.lookup g = some .local := S.par
  obtain ⟨p0, p1, p2, p3, pos, pos', kd, t, ss, hbody, hline, hset⟩ := initB_of hb
  refine PySem.ks_codeAny_call_defAt (fd := Fn.fd doc pm ctv) (body := Fn.body) (binds := (slf :: fl :: fs).zip us) hr.depth (KX _ _ lk) rfl lim (PySem.W.codeRec_of KX hcd) rfl hbd S.nocell (fun x hx => hloc _ (List.of_mem_zip hx).1) (fun h0 hns kp => ?_) S.co S.gen S.kind
  have I := inv_startN (CX := CX) (E := E) (tk := s.toks + ((slf :: fl :: fs).zip us).length) (F := Fn) (f := f) S hr.hd e0 (vs := .ref a :: y :: ys) (by simpa using hl) r CA hns kp
  have sv : ∀ i z, (V.ref a :: y :: ys)[i]? = some z → (startF N (.ref a :: y :: ys) [some (V.ref C)])[i]? = some (some z) := fun i z hz => by
    unfold startF
    rw [List.getElem?_append_left (by rw [List.length_map]; exact (List.getElem?_eq_some_iff.mp hz).1), List.getElem?_map, hz]
    rfl
  have s0 := sv 0 _ rfl
  show _root_.PySem.wpAt (model P w) (A.deeper (envF Fn f s.heap.objs.size)) (.func Fn.body (envF Fn f s.heap.objs.size)) (execs Fn.body (envF Fn f s.heap.objs.size)) _ _ _
  rw [show execs Fn.body (envF Fn f s.heap.objs.size) = execs (.Expr (.Call (.Attribute (.Call (.Name "super" p0) [] [] p1) "__init__" p2) [.Constant (.str (mkS t)) kd p3] [] pos) pos' :: ss) (envF Fn f s.heap.objs.size) by rw [hbody]]
  have d0 := hdb slf List.mem_cons_self
  refine PySem.ks_wpAt_execs_cons (PySem.ks_wpAt_mono (super_init (X := ncx CX P w K mg base N Fn f A outer s H E) (body := Fn.body) T G rfl I (hNi 0 _ rfl) s0 ea hline) (fun f0 s' ⟨e1, J⟩ => ?_) fun _ _ z => z)
  subst e1
  refine PySem.wpAt_of_wpAny (wpAny_mono (sets_all (X := ncx CX P w K mg base N Fn f A outer s H E) (j := 1) (y := y) (ys := ys) T.oex (hNi 0 _ rfl) (.inl (hloc _ List.mem_cons_self)) d0.1 d0.2 hset (by simpa using hl.symm) ⟨fun i g hg => ?_⟩ (fun i z hz => ?_) s0 hz J ea) (fun f1 s2 ⟨e2, d, hd, da, J2⟩ => ?_) fun _ _ z => z)
  · have hm : g ∈ fl :: fs := List.mem_of_getElem? hg
    have dd := hdb g (List.mem_cons_of_mem _ hm)
    exact ⟨hNi (1 + i) g (by rw [Nat.add_comm]; exact hg), .inl (hloc _ (List.mem_cons_of_mem _ hm)), dd.1, dd.2, hno g hm⟩
  · exact sv (1 + i) z (by rw [Nat.add_comm]; exact hz)
  · subst e2
    exact ⟨.non, _, J2.os, J2.bare, J2.base, J2.hok, rfl, hq d hd da⟩
end

/-- what must be known of a class that is raised -/
structure ClsOk (cA : Ca) (P : Program) (w : World) (K : PySem.W.Frag) (mgl : Str → Option Value) (base : Heap) (n : Str) (c : Nat) (fs : List String) : Prop where
  mg : mgl n = some (.ref (cA c))
  oex : OexC K (cA c)
  ini : ∃ slf fI fd, PySem.W.findIn K (.ref (cA c)) "__init__" = some (some (.ref fI)) ∧ PySem.W.typeIn K (.ref fI) = some (.type "function") ∧ FnOk P w K mgl base (L2.CX P w) 1 fI fd (slf :: fs.map Str.ofString) (spInit (cA c) (fs.map Str.ofString)) ∧ Binds K fd (slf :: fs.map Str.ofString) []
  nd : (fs.map Str.ofString).Nodup
  few : fs.length ≤ 800
  xf : XfC K (cA c)
  no : ∀ f ∈ fs, PySem.W.findIn K (.ref (cA c)) (Str.ofString f) = some none
section
variable {cA : Ca} {X : Cx} {σ : L2.St} {H : Hp} {m : List Addr} {S : Sto} {ρ : Nv} {W : WX} {T : Ends} {K : Fg}
theorem PostC.outA {r : Res (List D)} {f : List D → Sto → Out} (rn : RelN K H m ρ σ) (h : PostC cA K m H W (r.out ρ f) T) :
    PostA cA K m H σ W r fun vs H1 => ∃ m1 ds S1, r = .ok ds S1 ∧ Ext K H m H1 m1 ∧ RelS K H1 m1 S1 ∧ RelDs K H1 m1 ds vs ∧ PostC cA K m1 H1 W (f ds S1) T := by
  cases r with
  | ok d S => exact fun m1 H1 v e rs rd => ⟨m1, d, S, rfl, e, rs, rd, PostC.mono e h⟩
  | exc x S => exact fun m1 H1 c dx e rs rx => h m1 H1 σ c dx e (rn.ext e) rs rx
  | stuck => exact h
/-- looking up from behind, the names all unlike -/
theorem look_rev : ∀ {fs : List String} {ds : List D} {vs : List V}, RelDs K H m ds vs → (fs.map Str.ofString).Nodup → ∀ {f : String} {y : D}, (fs.zip ds).lookup f = some y → ∃ v, (((fs.map Str.ofString).zip vs).reverse).lookup (Str.ofString f) = some v ∧ RelD K H m y v
  | [], _, _, _, _, _, _, h => by simp at h
  | _ :: _, [], _, _, _, _, _, h => by simp at h
  | g :: fs, d :: ds, _, .cons (v := v) (vs := vs) hd hr, nd, f, y, h => by
    rw [List.map_cons, List.nodup_cons] at nd
    rw [List.zip_cons_cons, List.lookup_cons] at h
    rw [List.map_cons, List.zip_cons_cons, List.reverse_cons]
    have app : ∀ (l : List (Str × V)) (p : Str × V) (x : Str), (l ++ [p]).lookup x = match l.lookup x with | some z => some z | none => [p].lookup x := fun l p x => by
      rw [List.lookup_append]
      cases l.lookup x <;> rfl
    rw [app]
    cases hf : f == g with
    | true =>
      rw [hf] at h
      cases h
      obtain rfl := beq_iff_eq.mp hf
      have hn : (((fs.map Str.ofString).zip vs).reverse).lookup (Str.ofString f) = none := by
        cases e : (((fs.map Str.ofString).zip vs).reverse).lookup (Str.ofString f) with
        | none => rfl
        | some z => exact absurd (List.of_mem_zip (List.mem_reverse.mp (PySem.mem_of_lookup e))).1 nd.1
      rw [hn]
      exact ⟨v, by simp [List.lookup], hd⟩
    | false =>
      rw [hf] at h
      obtain ⟨z, hz, rz⟩ := look_rev hr nd.2 h
      rw [hz]
      exact ⟨z, rfl, rz⟩
theorem ss_rse {c : Nat} {fs : List String} {n : Str} {p pos pos' : Pos} {e : Expr} {es : List Expr} {g : Nv → Sto → Res (List D)} (hc : X.calm = true) (tk : Takes X W) (hr : Room 2 X.A) (O : ClsOk cA X.prog X.w X.K X.mg X.base n c fs) (hg : Gl X n) (hd : (n == ("__debug__" : Str)) = false) (hpl : (e :: es).all plain = true)
    (ha : PA X (e :: es) (tA cA X.F W g)) : PS X (.Raise (some (.Call (.Name n p) (e :: es) [] pos')) none pos) (tC cA X.F W fun ρ S => (g ρ S).out ρ fun ds S => if ds.length = fs.length then .exc ⟨c, fs.zip ds⟩ ρ S else .stuck) := by
  obtain ⟨slf, fI, fd, i1, i2, i3, i4⟩ := O.ini
  have hpl' := hpl
  simp only [List.all_cons, Bool.and_eq_true] at hpl'
  have pm := pmk_oex (X := X) (CX := L2.CX X.prog X.w) (x := n) (C := cA c) (ds := []) (dvs := []) O.oex i1 i2 i3 hr i4 .nil (fun _ _ _ _ _ _ _ z => by obtain ⟨_, _, _, _, _, _, _, _, _, _, _, _, z⟩ := z; exact z.elim) hg O.mg ha hd (p := p) (pos := pos') (star_cons hpl'.1) (star_any hpl'.2)
  refine (ps_raise hc tk pm).imp fun T σ H ⟨m, ρ, S, rn, rs, h⟩ => ?_
  refine ⟨m, ρ, S, rn, rs, (PostC.outA rn h).imp fun vs H1 ⟨m1, ds, S1, _, e1, rs1, rd1, h1⟩ => ?_⟩
  split at h1
  · rename_i hl
    have hvl : vs.length = fs.length := by rw [← rd1.length, hl]
    refine ⟨by have := O.few; omega, fun a hna => ?_⟩
    refine ⟨a, vs, by rw [List.append_nil], by simpa using hvl, upd_same, fun d hdn da => ?_⟩
    have hd1 : H1 d = none := by rw [upd_ne da] at hdn; exact hdn
    refine ⟨rfl, d, _, upd_same, by rw [upd_ne da]; exact upd_same, hd1, ?_⟩
    have eH : upd (del (upd (upd (upd H1 a (exo a (cA c) none)) d (exd d (((fs.map Str.ofString).zip vs).reverse))) a (exo a (cA c) (some d))) a) d (.xd (((fs.map Str.ofString).zip vs).reverse)) = upd H1 d (.xd (((fs.map Str.ofString).zip vs).reverse)) := by
      funext b
      by_cases hb : b = d
      · rw [hb, upd_same, upd_same]
      · rw [upd_ne hb, upd_ne hb]
        by_cases hba : b = a
        · rw [hba, del_same, hna]
        · rw [del_ne hba, upd_ne hba, upd_ne hb, upd_ne hba]
    rw [eH]
    have ex : Ext X.F H1 m1 (upd H1 d (.xd (((fs.map Str.ofString).zip vs).reverse))) m1 := Ext.more hd1
    exact h1 m1 _ σ _ _ ex ((rn.ext e1).ext ex) (rs1.more hd1) ⟨rfl, d, _, rfl, upd_same, fun f y hy => by
      obtain ⟨v, hv, rv⟩ := look_rev rd1 O.nd hy
      exact ⟨v, hv, rv.ext ex⟩⟩
  · exact h1.elim
end
end PH

set_option maxHeartbeats 8000000
/-! PH, part Y: in an except suite; try. -/
namespace PH
open L2 PySem PySem.Spec PyProof.Rows NdefX
/-- what must be known of a class that is caught: its own facts, its place among the others -/
structure CatOk (cA : Ca) (K : PySem.W.Frag) (fl : List String) (ids : List Nat) (c : Nat) : Prop where
  xf : XfC K (cA c)
  no : ∀ f ∈ fl, PySem.W.findIn K (.ref (cA c)) (Str.ofString f) = some none
  ex : ExcC K (cA c)
  cl : (PySem.W.clsIn K (cA c)).isSome = true
  ke : ∀ c' ∈ ids, PySem.W.exmOne K (.ref (cA c)) (.ref (cA c')) = some (subX c c')
  ki : ∀ c' ∈ ids, PySem.W.kitOne K (.ref (cA c)) (.ref (cA c')) = some (subX c c')
  kv : PySem.W.kitOne K (.ref (cA c)) (.type "ValueError") = some true
/-- within the suite of an exception at a, of the class c, its dict at d -/
structure Hot (cA : Ca) (X : Cx) (a d c : Nat) : Prop where
  ex : ∃ (X0 : Cx) (oe : Obj) (pn : List (Addr × Obj)), X = X0.suite a ((a, oe) :: pn) ∧ Zc (.ref (cA c)) (some d) oe ∧ ∃ vs, oe.data = .fields vs
section
variable {cA : Ca} {X : Cx} {σ : L2.St} {H : Hp} {m : List Addr} {S : Sto} {ρ : Nv} {W : WX} {T : Ends} {a d c i : Nat} {fl : List String} {ids : List Nat} {pos p : Pos}
theorem mo_at (M : Mo) (a d c : Nat) : (M.at a d c).glob XC = some (.tup [.int a, .int d, .int c]) := by unfold Mo.at; simp
theorem se_fld {M : Mo} {nm : Str} {f : String} (h : Hot cA X a d c) (C : CatOk cA X.K fl ids c) (hf : f ∈ fl) (hN : X.N[i]? = some nm) (hv : Vis X.env.scope nm) (h1 : (nm == ("__debug__" : Str)) = false) (h2 : (nm == ("__classdict__" : Str)) = false) (hM : M.glob XC = some (.tup [.int a, .int d, .int c])) :
    PE X (.Attribute (.Name nm p) (Str.ofString f) pos) (tR cA X.F W (evE M (.fld i f))) := by
  obtain ⟨X0, oe, pn, rfl, hz, hd⟩ := h.ex
  refine (pe_xf (X := X0) (pn := pn) C.xf (C.no f hf) hz hd (pe_var (i := i) hN hv h1 h2)).imp fun σ H Q ⟨m, ρ, S, rn, rs, hp⟩ => ?_
  rw [evE] at hp
  cases q : ρ[i]? with
  | none => rw [q] at hp; exact hp.elim
  | some o =>
    cases o with
    | none => rw [q] at hp; exact hp.elim
    | some y =>
      rw [q] at hp
      cases y with
      | xv a' d' c' fs =>
        rw [hM] at hp
        simp only at hp
        split at hp
        · rename_i he
          obtain ⟨e1, e2, e3⟩ := he
          have e1 : a = a' := by omega
          have e2 : d = d' := by omega
          have e3 : c = c' := by omega
          subst e1 e2 e3
          obtain ⟨v, ev, rv⟩ := rn.nv i _ q
          cases rv with
          | xv hH hr =>
            cases hl : fs.lookup f with
            | none => rw [hl] at hp; exact hp.elim
            | some y =>
              rw [hl] at hp
              obtain ⟨z, hz2, rz⟩ := hr f y hl
              exact ⟨_, ev, rfl, rfl, d, _, z, rfl, hH, hz2, hp m H z .refl rs (.p rz)⟩
        · exact hp.elim
      | p _ => exact hp.elim
      | ref _ => exact hp.elim
      | mt _ => exact hp.elim
/-- isinstance(e, c) of the exception at hand -/
def rIsX (K : PySem.W.Frag) (D a d : Addr) : List V → Hp → VK → Prop := fun xs H Q => ∃ (vs : List (Str × V)) (c : V) (cv : Value) (b : Bool), H d = some (.xd vs) ∧ xs = [.ref a, c] ∧ (∀ u, RelV c u → u = cv) ∧ PySem.W.kitOne K (.ref D) cv = some b ∧ Q (.bl b) H
theorem inst_at {X0 : Cx} {oe : Obj} {pn pins : List (Addr × Obj)} {D : Addr} {s : Shared} {vs : List (Str × V)} (I : Inv (X0.suite a ((a, oe) :: pn)) pins σ H s) (hz : Zc (.ref D) (some d) oe) (hf : ∃ vs, oe.data = .fields vs) (hH : H d = some (.xd vs)) : ∃ od, PySem.W.InstAt s.heap a oe D (some od) := by
  obtain ⟨hget, _⟩ := I.pin (a, oe) (List.mem_append.mpr (.inl List.mem_cons_self))
  have hx : ObjOk X0.prog X0.w H s.heap d (.xd vs) := I.hok d _ hH
  obtain ⟨mA, hns, _⟩ := hx
  obtain ⟨od, ho, _⟩ := lookIn_ns hns
  obtain ⟨us, hv⟩ := hf
  exact ⟨od, hget, hz.1, by unfold PySem.W.notCls; rw [hv], by rw [hz.2]; exact ho⟩
theorem call_isX {X0 : Cx} {oe : Obj} {pn : List (Addr × Obj)} {D : Addr} (C : ExcC X0.K D) (hcl : (PySem.W.clsIn X0.K D).isSome = true) (hz : Zc (.ref D) (some d) oe) (hf : ∃ vs, oe.data = .fields vs) : CallR (X0.suite a ((a, oe) :: pn)) (.builtin "isinstance") (rIsX X0.K D a d) := by
  intro pins s σ H xs us Q I r h
  obtain ⟨vs, k, cv, b, hH, rfl, hcv, e, q⟩ := h
  cases r with
  | cons rx rr =>
    cases rr with
    | cons rt rr =>
      cases rr
      cases rx
      have ec := hcv _ rt
      subst ec
      obtain ⟨od, J⟩ := inst_at I hz hf hH
      exact PySem.W.kia_one (PySem.W.kitx_exc hcl C.hg C.hk C.hs C.ha C.hn C.ht C.hm) I.kIn J e (fun z => nomatch z) fun tk => ⟨.bl b, H, I.kept (t' := tk) fun _ _ z => z, rfl, q⟩
/-- .. of a tuple of classes -/
def rIsXT (K : PySem.W.Frag) (D a d : Addr) : List V → Hp → VK → Prop := fun xs H Q => ∃ (vs : List (Str × V)) (t : Addr) (cs : List V) (cvs : List Value) (b : Bool), H d = some (.xd vs) ∧ xs = [.ref a, .ref t] ∧ SqT K H t cs ∧ (∀ us, Vals cs us → us = cvs) ∧ PySem.W.kitAny K (.ref D) cvs = some b ∧ Q (.bl b) H
theorem call_isXT {X0 : Cx} {oe : Obj} {pn : List (Addr × Obj)} {D : Addr} (C : ExcC X0.K D) (hcl : (PySem.W.clsIn X0.K D).isSome = true) (hz : Zc (.ref D) (some d) oe) (hf : ∃ vs, oe.data = .fields vs) : CallR (X0.suite a ((a, oe) :: pn)) (.builtin "isinstance") (rIsXT X0.K D a d) := by
  intro pins s σ H xs us Q I r h
  obtain ⟨vs, t, cs, cvs, b, hH, rfl, hq, hcv, e, q⟩ := h
  cases r with
  | cons rx rr =>
    cases rr with
    | cons rt rr =>
      cases rr
      cases rx
      cases rt
      obtain ⟨its, ri, ⟨o, ho, hc, n, hd⟩, _⟩ := I.tuple hq
      have ec := hcv _ ri
      subst ec
      obtain ⟨od, J⟩ := inst_at I hz hf hH
      obtain ⟨oc, odd, oda, osl⟩ := o
      dsimp only at hc hd
      subst hc hd
      exact PySem.W.kia_tup (PySem.W.kitx_exc hcl C.hg C.hk C.hs C.ha C.hn C.ht C.hm) I.kIn J ho e (fun z => nomatch z) fun tk => ⟨.bl b, H, I.kept (t' := tk) fun _ _ z => z, rfl, q⟩

/-- a class's name in the text: the class's number; 1001 is ValueError -/
def NameOk (cA : Ca) (X : Cx) (n : Str) (c : Nat) : Prop := Gl X n ∧ (n == ("__debug__" : Str)) = false ∧ ((c ≠ 1001 ∧ X.mg n = some (.ref (cA c))) ∨ (c = 1001 ∧ n = ("ValueError" : Str) ∧ X.mg n = none))
def clsV (cA : Ca) (c : Nat) : V := if c = 1001 then .ty "ValueError" else .ref (cA c)
def clsU (cA : Ca) (c : Nat) : Value := if c = 1001 then .type "ValueError" else .ref (cA c)
theorem cls_rel {cA : Ca} {c : Nat} {u : Value} (h : RelV (clsV cA c) u) : u = clsU cA c := by
  unfold clsV at h
  unfold clsU
  split at h <;> rename_i hc
  · rw [if_pos hc]; exact h
  · rw [if_neg hc]; exact h
theorem cls_vals {cA : Ca} : ∀ {cs : List Nat} {us : List Value}, Vals (cs.map (clsV cA)) us → us = cs.map (clsU cA)
  | [], _, .nil => rfl
  | c :: cs, _, .cons h r => by rw [List.map_cons, cls_rel h, cls_vals r]
theorem pe_cls {n : Str} {c : Nat} (h : NameOk cA X n c) : PE X (.Name n p) (L2.tC (clsV cA c)) := by
  obtain ⟨h1, h2, h3⟩ := h
  unfold clsV
  rcases h3 with ⟨hc, hm⟩ | ⟨hc, hn, hm⟩
  · rw [if_neg hc]; exact pe_glob h1 hm rfl h2
  · subst hn
    rw [if_pos hc]
    exact pe_bltn h1 hm (by decide +kernel) rfl (by decide +kernel) h2
theorem pa_cls : ∀ (l : List (Nat × Str × Pos)), (∀ q ∈ l, NameOk cA X q.2.1 q.1) → PA X (l.map fun q => Expr.Name q.2.1 q.2.2) (fun σ H Q => Q (l.map fun q => clsV cA q.1) H)
  | [], _ => pa_nil
  | q :: l, h => by
    have h1 := pe_cls (p := q.2.2) (h q List.mem_cons_self)
    have h2 := pa_cls l fun z hz => h z (List.mem_cons_of_mem _ hz)
    exact pa_cons h1 h2
theorem kit_cs {K : PySem.W.Frag} {t : Value} {f : Nat → Bool} : ∀ {cs : List Nat}, (∀ c ∈ cs, PySem.W.kitOne K t (clsU cA c) = some (f c)) → PySem.W.kitAny K t (cs.map (clsU cA)) = some (cs.any f)
  | [], _ => rfl
  | c :: cs, h => by
    have h1 := h c List.mem_cons_self
    have h2 := kit_cs (cs := cs) fun z hz => h z (List.mem_cons_of_mem _ hz)
    rw [List.map_cons, List.any_cons]
    unfold PySem.W.kitAny
    rw [h1]
    cases f c with
    | true => rfl
    | false => exact h2
theorem CatOk.kit {K : PySem.W.Frag} (C : CatOk cA K fl ids c) {c' : Nat} (h : c' ∈ ids ∨ c' = 1001) : PySem.W.kitOne K (.ref (cA c)) (clsU cA c') = some (subX c c') := by
  unfold clsU
  split
  · rename_i hc
    subst hc
    rw [C.kv]
    simp [subX]
  · rename_i hc
    rcases h with h | h
    · exact C.ki _ h
    · exact absurd h hc
/-- what the caught exception's slot tells -/
theorem isx_val {M : Mo} {cs : List Nat} {Q : VK} {K : Fg} (hM : M.glob XC = some (.tup [.int a, .int d, .int c])) (rn : RelN K H m ρ σ) (rs : RelS K H m S) (hp : Post cA K m H σ W (evE M (.isx i cs) ρ S) Q) :
    σ[i]? = some (some (.ref a)) ∧ (∃ vs, H d = some (.xd vs)) ∧ ∀ m' H', Ext K H m H' m' → RelS K H' m' S → Q (.bl (cs.any (subX c))) H' := by
  rw [evE] at hp
  cases q : ρ[i]? with
  | none => rw [q] at hp; exact hp.elim
  | some o =>
    cases o with
    | none => rw [q] at hp; exact hp.elim
    | some y =>
      rw [q] at hp
      cases y with
      | xv a' d' c' fs =>
        rw [hM] at hp
        simp only at hp
        split at hp
        · rename_i he
          obtain ⟨e1, e2, e3⟩ := he
          have e1 : a = a' := by omega
          have e2 : d = d' := by omega
          have e3 : c = c' := by omega
          subst e1 e2 e3
          obtain ⟨v, ev, rv⟩ := rn.nv i _ q
          cases rv with
          | xv hH hr => exact ⟨ev, ⟨_, hH⟩, fun m' H' e rs' => hp m' H' _ e rs' (.p (.bl _))⟩
        · exact hp.elim
      | p _ => exact hp.elim
      | ref _ => exact hp.elim
      | mt _ => exact hp.elim
theorem se_isx1 {M : Mo} {nm cn : Str} {c' : Nat} {p1 p2 p3 : Pos} (h : Hot cA X a d c) (C : CatOk cA X.K fl ids c) (hi : c' ∈ ids ∨ c' = 1001) (hn : NameOk cA X cn c') (hg : Gl X "isinstance") (hm : X.mg "isinstance" = none) (hN : X.N[i]? = some nm) (hv : Vis X.env.scope nm)
    (h1 : (nm == ("__debug__" : Str)) = false) (h2 : (nm == ("__classdict__" : Str)) = false) (hM : M.glob XC = some (.tup [.int a, .int d, .int c])) :
    PE X (.Call (.Name "isinstance" p1) [.Name nm p2, .Name cn p3] [] pos) (tR cA X.F W (evE M (.isx i [c']))) := by
  obtain ⟨X0, oe, pn, rfl, hz, hd⟩ := h.ex
  refine (pe_callB (call_isX (pn := pn) C.ex C.cl hz hd) hg hm (by decide +kernel) (pa_cons (pe_var (i := i) hN hv h1 h2) (pa_cons (pe_cls hn) pa_nil))).imp fun σ H Q ⟨m, ρ, S, rn, rs, hp⟩ => ?_
  obtain ⟨e1, ⟨vs, e2⟩, e3⟩ := isx_val hM rn rs hp
  refine ⟨_, e1, vs, clsV cA c', clsU cA c', subX c c', e2, rfl, fun u hu => cls_rel hu, C.kit hi, ?_⟩
  have := e3 m H .refl rs
  simpa using this
theorem se_isxT {M : Mo} {nm : Str} {l : List (Nat × Str × Pos)} {p1 p2 p3 : Pos} {kt} (h : Hot cA X a d c) (C : CatOk cA X.K fl ids c) (hi : ∀ q ∈ l, q.1 ∈ ids ∨ q.1 = 1001) (hn : ∀ q ∈ l, NameOk cA X q.2.1 q.1) (hl : l.length ≤ 1000) (hg : Gl X "isinstance") (hm : X.mg "isinstance" = none) (hN : X.N[i]? = some nm) (hv : Vis X.env.scope nm)
    (h1 : (nm == ("__debug__" : Str)) = false) (h2 : (nm == ("__classdict__" : Str)) = false) (hM : M.glob XC = some (.tup [.int a, .int d, .int c])) :
    PE X (.Call (.Name "isinstance" p1) [.Name nm p2, .Tuple (l.map fun q => Expr.Name q.2.1 q.2.2) kt p3] [] pos) (tR cA X.F W (evE M (.isx i (l.map (·.1))))) := by
  obtain ⟨X0, oe, pn, rfl, hz, hd⟩ := h.ex
  refine (pe_callB (call_isXT (pn := pn) C.ex C.cl hz hd) hg hm (by decide +kernel) (pa_cons (pe_var (i := i) hN hv h1 h2) (pa_cons (pe_tup (pa_cls l hn)) pa_nil))).imp fun σ H Q ⟨m, ρ, S, rn, rs, hp⟩ => ?_
  obtain ⟨e1, ⟨vs, e2⟩, e3⟩ := isx_val hM rn rs hp
  refine ⟨_, e1, by rw [List.length_map, sizeLine_eq]; omega, fun t ht => ?_⟩
  have hmap : (l.map fun q => clsV cA q.1) = (l.map (·.1)).map (clsV cA) := by rw [List.map_map]; rfl
  refine ⟨vs, t, _, (l.map (·.1)).map (clsU cA), (l.map (·.1)).any (subX c), ?_, rfl, SqT.of upd_same, fun us hu => by rw [hmap] at hu; exact cls_vals hu, kit_cs fun c' hc' => ?_, e3 m _ (Ext.more ht) (rs.more ht)⟩
  · rw [upd_ne]
    · exact e2
    · rintro rfl; rw [ht] at e2; cases e2
  · obtain ⟨q, hq, rfl⟩ := List.mem_map.mp hc'
    exact C.kit (hi q hq)

theorem any_at {F : Nat → Nat → Out} (h : anyAt F ≠ .stuck) (a d : Nat) : F a d = anyAt F := by
  unfold anyAt at h ⊢
  split
  · rename_i hx; exact hx.choose_spec a d
  · rename_i hx; rw [dif_neg hx] at h; exact absurd rfl h
theorem post_ne {K : Fg} {r : Out} (h : PostC cA K m H W r T) : r ≠ .stuck := by
  rintro rfl
  exact h
theorem rel_gone {K : Fg} {σ' : L2.St} (h : RelN K H m ρ σ') (i : Nat) : RelN K H m (ρ.set i none) (σ'.set i none) := by
  refine ⟨by simp [h.len], fun j d e => ?_⟩
  by_cases hj : i = j
  · subst hj
    by_cases hl : i < ρ.length
    · rw [List.getElem?_set_self hl] at e; cases e
    · rw [List.getElem?_eq_none (by simpa using hl)] at e; cases e
  · rw [List.getElem?_set_ne hj] at e
    obtain ⟨v, e1, r⟩ := h.nv j d e
    exact ⟨v, by rw [List.getElem?_set_ne hj]; exact e1, r⟩
theorem gone_post {K : Fg} {r : Out} {i : Nat} (h : PostC cA K m H W (r.gone i) T) : PostC cA K m H W0 r { nx := fun σ' H' => T.nx (σ'.set i none) H', rt := T.rt, bk := fun σ' H' => T.bk (σ'.set i none) H', ct := fun σ' H' => T.ct (σ'.set i none) H' } := by
  cases r with
  | nx ρ S => exact fun m' H' σ' e rn rs => h m' H' _ e (rel_gone rn i) rs
  | bk ρ S => exact fun m' H' σ' e rn rs => h m' H' _ e (rel_gone rn i) rs
  | ct ρ S => exact fun m' H' σ' e rn rs => h m' H' _ e (rel_gone rn i) rs
  | rt d S => exact h
  | exc x ρ S => exact h.elim
  | stuck => exact h.elim
theorem nox_post {K : Fg} {r : Out} (h : PostC cA K m H W r.noX T) : PostC cA K m H W0 r T := by
  cases r with
  | nx ρ S => exact h
  | bk ρ S => exact h
  | ct ρ S => exact h
  | rt d S => exact h
  | exc x ρ S => exact h.elim
  | stuck => exact h.elim
theorem all_xs : ∀ {l : List (String × D)} {fs : List (String × PD)}, allX l = some fs → ∀ {f : String} {y : PD}, fs.lookup f = some y → l.lookup f = some (.p y)
  | [], _, h, _, _, e => by cases h; cases e
  | (g, .p x) :: r, _, h, f, y, e => by
    simp only [allX] at h
    obtain ⟨fs, h1, rfl⟩ := Option.map_eq_some_iff.mp h
    rw [List.lookup_cons] at e ⊢
    cases hf : f == g with
    | true => rw [hf] at e; cases e; rfl
    | false => rw [hf] at e; exact all_xs h1 e
  | (_, .ref _) :: _, _, h, _, _, _ => by cases h
  | (_, .mt _) :: _, _, h, _, _, _ => by cases h
  | (_, .xv _ _ _ _) :: _, _, h, _, _, _ => by cases h
variable {x nm : Str} {c' : Nat} {kn : List Nat} {body suite : List Stmt} {b0 : Stmt} {np pos' : Pos} {F : Nv → Sto → Out} {G : Nat → Nat → Nat → Nv → Sto → Out}
theorem ss_trx (hs : X.stack = X.env :: X.outer) (hf : X.env.frame = some X.env.locals) (hN : X.N.Nodup) (hi : X.N[i]? = some nm) (hln : X.env.kindOf nm = some .local) (hx : Names X x (.ref (cA c'))) (tk : Takes X W) (hc : ∀ c ∈ kn, CatOk cA X.K fl ids c) (hid : c' ∈ ids)
    (hb : ∀ (W' : WX) (pn : List (Addr × Obj)) (xe : Value → Shared → Prop), Takes (X.tr pn xe) W' → PassesOwn (model X.prog X.w) X.A X.env xe → PSs (X.tr pn xe) body (tC cA X.F W' F))
    (hsu : ∀ (a d c : Nat) (oe : Obj) (pn : List (Addr × Obj)), c ∈ kn → Zc (.ref (cA c)) (some d) oe → (∃ vs, oe.data = .fields vs) → PSs (X.suite a ((a, oe) :: pn)) (b0 :: suite) (tC cA X.F W0 (G a d c))) :
    PS X (.Try body [.ExceptHandler (some (.Name x np)) (some nm) (b0 :: suite) pos'] [] [] pos) (tC cA X.F W (trxF kn c' i F G)) := by
  refine (ps_try_as (X := X) (tb := fun W' => tC cA X.F W' F) (ts := fun a cls dx T σ H => ∃ c d, cls = .ref (cA c) ∧ dx = some d ∧ c ∈ kn ∧ tC cA X.F W0 (G a d c) T σ H) hs hf hN hi hln hx tk hb fun a oe cls dx pn hz hv => ⟨fun pins s σ H T I ⟨c, d, e1, e2, e3, e4⟩ => ?_⟩).imp fun T σ H ⟨m, ρ, S, rn, rs, h⟩ => ⟨m, ρ, S, rn, rs, ?_⟩
  · subst e1 e2
    exact (hsu a d c oe pn e3 hz hv).run pins s σ H T I e4
  · unfold trxF at h
    cases q : F ρ S with
    | nx ρ1 S1 => rw [q] at h; exact h
    | bk ρ1 S1 => rw [q] at h; exact h
    | ct ρ1 S1 => rw [q] at h; exact h
    | rt d1 S1 => rw [q] at h; exact h
    | stuck => rw [q] at h; exact h
    | exc z ρ1 S1 =>
      rw [q] at h
      simp only at h
      split at h
      · rename_i hk
        intro m' H' σ' cl dx e rn' rs' ⟨h1, d, fs', h2, h3, h4⟩
        subst h1 h2
        have C := hc _ hk
        refine ⟨subX z.c c', C.ke _ hid, fun hb1 a hna => ?_, fun hb1 => ?_⟩
        · rw [if_pos hb1] at h
          refine ⟨z.c, d, rfl, rfl, hk, ?_⟩
          cases qa : allX z.fs with
          | none => rw [qa] at h; exact h.elim
          | some fs =>
            rw [qa] at h
            have hany := any_at (post_ne h) a d
            have h := PostC.mono e h
            simp only at h
            rw [← hany] at h
            have hp := gone_post h
            exact ⟨m', _, S1, rn'.set (d := .xv a d z.c fs) (v := .ref a) (.xv h3 fun f y hy => by
              obtain ⟨v, v1, v2⟩ := h4 f _ (all_xs qa hy)
              cases v2 with | p v2 => exact ⟨v, v1, v2⟩) i, rs', hp⟩
        · rw [if_neg (by rw [hb1]; decide)] at h
          exact h m' H' σ' _ _ e rn' rs' ⟨rfl, d, fs', rfl, h3, h4⟩
      · exact h.elim
theorem ss_try0 (hs : X.stack = X.env :: X.outer) (hf : X.env.frame = some X.env.locals) (hx : Names X x (.ref (cA c'))) (tk : Takes X W) (hc : ∀ c ∈ kn, CatOk cA X.K fl ids c) (hid : c' ∈ ids)
    (hb : ∀ (W' : WX) (pn : List (Addr × Obj)) (xe : Value → Shared → Prop), Takes (X.tr pn xe) W' → PassesOwn (model X.prog X.w) X.A X.env xe → PSs (X.tr pn xe) body (tC cA X.F W' F))
    (hsu : ∀ (a d c : Nat) (oe : Obj) (pn : List (Addr × Obj)), c ∈ kn → Zc (.ref (cA c)) (some d) oe → (∃ vs, oe.data = .fields vs) → PSs (X.suite a ((a, oe) :: pn)) (b0 :: suite) (tC cA X.F W0 (G a d c))) :
    PS X (.Try body [.ExceptHandler (some (.Name x np)) none (b0 :: suite) pos'] [] [] pos) (tC cA X.F W (try0F kn c' F G)) := by
  refine (ps_try_only (X := X) (tb := fun W' => tC cA X.F W' F) (ts := fun a cls dx T σ H => ∃ c d, cls = .ref (cA c) ∧ dx = some d ∧ c ∈ kn ∧ tC cA X.F W0 (G a d c) T σ H) hs hf hx tk hb fun a oe cls dx pn hz hv => ⟨fun pins s σ H T I ⟨c, d, e1, e2, e3, e4⟩ => ?_⟩).imp fun T σ H ⟨m, ρ, S, rn, rs, h⟩ => ⟨m, ρ, S, rn, rs, ?_⟩
  · subst e1 e2
    exact (hsu a d c oe pn e3 hz hv).run pins s σ H T I e4
  · unfold try0F at h
    cases q : F ρ S with
    | nx ρ1 S1 => rw [q] at h; exact h
    | bk ρ1 S1 => rw [q] at h; exact h
    | ct ρ1 S1 => rw [q] at h; exact h
    | rt d1 S1 => rw [q] at h; exact h
    | stuck => rw [q] at h; exact h
    | exc z ρ1 S1 =>
      rw [q] at h
      simp only at h
      split at h
      · rename_i hk
        intro m' H' σ' cl dx e rn' rs' ⟨h1, d, fs', h2, h3, h4⟩
        subst h1 h2
        have C := hc _ hk
        refine ⟨subX z.c c', C.ke _ hid, fun hb1 a hna => ?_, fun hb1 => ?_⟩
        · rw [if_pos hb1] at h
          refine ⟨z.c, d, rfl, rfl, hk, ?_⟩
          have hany := any_at (post_ne h) a d
          have h := PostC.mono e h
          rw [← hany] at h
          exact ⟨m', _, S1, rn', rs', nox_post h⟩
        · rw [if_neg (by rw [hb1]; decide)] at h
          exact h m' H' σ' _ _ e rn' rs' ⟨rfl, d, fs', rfl, h3, h4⟩
      · exact h.elim
end
section
variable {cA : Ca} {X : Cx} {W : WX} {a : Expr} {f : Nv → Sto → Res D} {pos : Pos}
def unlF (ts : List Tg) (f : Nv → Sto → Res D) : Nv → Sto → Out := fun ρ S => (f ρ S).out ρ fun d S => match lsts d S with
  | some xs => (match asgTs ts xs ρ with
    | some ρ' => .nx ρ' S
    | none => .stuck)
  | none => .stuck
theorem asgTs_len : ∀ (ts : List Tg) (ds : List D) (ρ ρ' : Nv), asgTs ts ds ρ = some ρ' → ts.length = ds.length
  | [], ds, ρ, ρ', e => by cases ds <;> simp_all [asgTs]
  | t :: ts, ds, ρ, ρ', e => by
    cases ds with
    | nil => simp [asgTs] at e
    | cons d ds =>
      simp only [asgTs] at e
      obtain ⟨ρ1, _, e2⟩ := Option.bind_eq_some_iff.mp e
      simp [asgTs_len ts ds ρ1 ρ' e2]
/-- names out of a list -/
theorem ss_unl {es : List Expr} {kk : Nat} {q : Pos} {ts : List Tg} (hc : X.calm = true) (he : PE X a (tR cA X.F W f)) (h : PGs X es (tGs X.F ts)) (hp : es.all plain = true) (hl : es.length = ts.length) (hs : swapsWithSole [.Tuple es kk q] a pos.line X.env = pure false) (hw : swappedStores [.Tuple es kk q] a X.env = pure none) :
    PS X (.Assign [.Tuple es kk q] a pos) (tC cA X.F W (unlF ts f)) :=
  (ps_asg he (pg_unl hc h (assign_len hp).1 (assign_len hp).2) hs hw (by rw [assign_cons rfl]; rfl)).imp fun T σ H ⟨m, ρ, S, rn, rs, h⟩ => ⟨m, ρ, S, rn, rs, (PostC.out rn h).imp fun v H1 ⟨m1, d, S1, _, e1, rs1, rd1, h1⟩ => by
    cases hx : lsts d S1 with
    | none => rw [hx] at h1; exact h1.elim
    | some xs =>
      rw [hx] at h1
      cases d with
      | ref n =>
        obtain ⟨b, vs, eb, hq, r⟩ := rs1.lst hx
        cases rd1 with
        | ref ha =>
          rw [ha] at eb; cases eb
          cases qa : asgTs ts xs ρ with
          | none => simp only [qa] at h1; exact h1.elim
          | some ρ' =>
            simp only [qa] at h1
            refine ⟨_, vs, rfl, hq, by rw [hl, asgTs_len _ _ _ _ qa, r.length], m1, ρ, S1, xs, rn.ext e1, rs1, r, ?_⟩
            simp only [qa]
            exact fun σ' rn' ag => h1 m1 H1 σ' .refl rn' rs1
      | p _ => cases hx
      | mt _ => cases hx
      | xv _ _ _ _ => cases hx⟩
end
end PH

set_option maxHeartbeats 4000000
/-! PH, part W: instances of the text's own classes: fields, methods, the making. -/
namespace PH
open L2 PySem PySem.Spec PyProof.Rows
theorem meth_any {o : Expr} {m : Str} {apos pos : Pos} {args : List Expr} {env : Env} (hbase : attributeBase o m env (eval o env) = eval o env) (hline : (apos.endLine == pos.line) = true)
    (hfew : methodCallForm (args.length + 0) (backTo pos (starEach args env)) (backToKw pos (keywordEach [] env)) = true) :
    eval (.Call (.Attribute o m apos) args [] pos) env = (do
      let ov ← eval o env
      standAt apos.atName
      let (f, first) ← holding [ov] (getMethod ov m (plO o env))
      callWith pos f first (backTo pos (starEach args env)) (backToKw pos (keywordEach [] env))) := by
  show (do
      let ov ← attributeBase o m env (eval o env)
      standAt apos.atName
      methodCall o m apos pos env ov (args.length + 0) (backTo pos (starEach args env)) (backToKw pos (keywordEach [] env))) = _
  rw [hbase]
  refine congrArg _ (funext fun ov => congrArg _ (funext fun _ => ?_))
  exact one_line hfew hline
section
variable {X : Cx} {CX : CXT} {k : Nat} {f C : Addr} {fd : FuncData} {ps : List Str} {sp : Sp} {E : L2.St → XK} {x m : Str} {p pos apos : Pos} {e o : Expr} {es : List Expr} {ta : TE} {t : TA}
def tMethS (C : Addr) (m : Str) (sp : Sp) (E : L2.St → XK) (ta : TE) (t : TA) : TE := fun σ H Q => ta σ H fun x H1 => ∃ a dx fs, x = .ref a ∧ H1 a = some (.ins C dx fs) ∧ fs.lookup m = none ∧ t σ H1 fun vs H2 => sp (x :: vs) H2 Q (E σ)
def tMakeS (C : Addr) (sp : Sp) (E : L2.St → XK) (t : TA) : TE := fun σ H Q => t σ H fun vs H1 => ∀ x dx, H1 x = none → H1 dx = none → dx ≠ x →
  sp (.ref x :: vs) (upd (upd H1 dx (.own x)) x (.ins C dx [])) (fun v H2 => v = .non ∧ Q (.ref x) H2) (E σ)
theorem pe_methS {pl : Sem Bool} (he : PE X o ta) (c : Cls X.K C) (hm : Meth X.K C m f) (F : FnOk X.prog X.w X.K X.mg X.base CX k f fd ps sp) (hr : Room k X.A) (hb : Binds X.K fd ps []) (hx : ∀ σ, PassesAt CX X σ (E σ)) (ha : PA X (e :: es) t)
    (hst : starEach (e :: es) X.env = (false, eval e X.env) :: starEach es X.env) (hpl : (backTo pos (starEach es X.env)).any (·.1) = false)
    (ht : eval (.Call (.Attribute o m apos) (e :: es) [] pos) X.env = (do
      let ov ← eval o X.env
      standAt apos.atName
      let (f, first) ← holding [ov] (getMethod ov m pl)
      callWith pos f first (backTo pos (starEach (e :: es) X.env)) (backToKw pos (keywordEach [] X.env)))) :
    PE X (.Call (.Attribute o m apos) (e :: es) [] pos) (tMethS C m sp E ta t) := by
  refine ⟨fun pins s σ H Q I h => ?_⟩
  refine PySem.W.methodCall_KW (pl := pl) (thn (he.run pins s σ H _ I h) fun u s1 ⟨x, H1, I1, rx, a, dx, fs, ex, ea, l, q⟩ => ?_) ht
  subst ex
  obtain rfl : u = Value.ref a := rx
  refine getmeth_ok I1 ea c hm l ?_
  refine PySem.W.callWith_K (first := [.ref a]) (h₀ := X.base) I.ok.mod.kin hm.kp (thn (ha.run pos pins s1 σ H1 _ I1 q) fun us s2 ⟨vs, H2, I2, r, q2⟩ => ⟨I2.kIn, ?_⟩) hst hpl
  exact run_fnS (us := .ref a :: us) (vs := .ref a :: vs) F hr hb (hx σ) I2 (.cons rfl r) q2
theorem pe_methS0 {pl : Sem Bool} (he : PE X o ta) (c : Cls X.K C) (hm : Meth X.K C m f) (F : FnOk X.prog X.w X.K X.mg X.base CX k f fd ps sp) (hr : Room k X.A) (hb : Binds X.K fd ps []) (hx : ∀ σ, PassesAt CX X σ (E σ))
    (ht : eval (.Call (.Attribute o m apos) [] [] pos) X.env = (do
      let ov ← eval o X.env
      standAt apos.atName
      let (f, first) ← holding [ov] (getMethod ov m pl)
      callWith pos f first (backTo pos (starEach [] X.env)) (backToKw pos (keywordEach [] X.env)))) :
    PE X (.Call (.Attribute o m apos) [] [] pos) (tMethS C m sp E ta tNil) := by
  refine ⟨fun pins s σ H Q I h => ?_⟩
  refine PySem.W.methodCall_KW (pl := pl) (thn (he.run pins s σ H _ I h) fun u s1 ⟨x, H1, I1, rx, a, dx, fs, ex, ea, l, q⟩ => ?_) ht
  subst ex
  obtain rfl : u = Value.ref a := rx
  refine getmeth_ok I1 ea c hm l ?_
  exact PySem.W.callWith_K0 (first := [.ref a]) I1.kIn hm.kp (run_fnS (us := [.ref a]) (vs := [.ref a]) F hr hb (hx σ) I1 (.cons rfl .nil) q)
theorem run_makeS {pins : List (Addr × Obj)} {σ : L2.St} {H : Hp} {s : Shared} {Q : VK} {us : List Value} {vs : List V} (M : Mk X.K C f) (F : FnOk X.prog X.w X.K X.mg X.base CX k f fd ps sp) (hr : Room (k + 1) X.A) (hb : Binds X.K fd ps [])
    (hx : PassesAt CX X σ (E σ)) (I : Inv X pins σ H s) (r : Vals vs us)
    (h : ∀ x dx, H x = none → H dx = none → dx ≠ x → sp (.ref x :: vs) (upd (upd H dx (.own x)) x (.ins C dx [])) (fun v H2 => v = .non ∧ Q (.ref x) H2) (E σ)) :
    wpAny (model X.prog X.w) X.A (call (.ref C) us) (EP X pins σ Q) X.xe s := by
  have hq := h (s.heap.objs.size + 1) s.heap.objs.size (I.hok.fresh (Nat.le_succ _)) (I.hok.fresh (Nat.le_refl _)) (Nat.ne_of_lt (Nat.lt_succ_self _))
  have I2 := Inv.made (C := C) I
  have r2 : Vals (V.ref (s.heap.objs.size + 1) :: vs) (Value.ref (s.heap.objs.size + 1) :: us) := .cons rfl r
  have hl : (Value.ref (s.heap.objs.size + 1) :: us).length = ps.length := by
    have e := r2.length
    rw [F.len _ _ _ _ hq] at e
    exact e.symm
  have b := hb _ (Value.ref (s.heap.objs.size + 1) :: us) I2.kIn (by rw [List.append_nil]; exact hl)
  rw [List.append_nil] at b
  refine wpAny_call (make_map (f := f) I.kIn M.makes M.init (beq_iff_eq.mp M.fn) (codeAny_mono (F.run _ X.stack _ _ ⟨Value.ref (s.heap.objs.size + 1) :: us, []⟩ (Value.ref (s.heap.objs.size + 1) :: us) _ _ (E σ) (hr.make C us [])
    (I2.env0.make C us []) b r2 hq) fun r s' hq' => ?_))
  cases r with
  | error e => exact hx pins _ _ e s' I2 hq'
  | ok fl =>
    cases fl with
    | ret u =>
      obtain ⟨v, H', I3, rv, ev, q3⟩ := I2.after hq'
      subst ev
      exact ⟨rv, ⟨V.ref (s.heap.objs.size + 1), H', I3, rfl, q3⟩⟩
    | next => exact False.elim hq'
    | brk => exact False.elim hq'
    | cont => exact False.elim hq'
theorem pe_makeS (M : Mk X.K C f) (F : FnOk X.prog X.w X.K X.mg X.base CX k f fd ps sp) (hr : Room (k + 1) X.A) (hg : Gl X x) (hm : X.mg x = some (.ref C)) (hb : Binds X.K fd ps []) (hx : ∀ σ, PassesAt CX X σ (E σ))
    (ha : PA X (e :: es) t) (hdb : (x == ("__debug__" : Str)) = false) (he : starEach (e :: es) X.env = (false, eval e X.env) :: starEach es X.env) (hpl : (backTo pos (starEach es X.env)).any (·.1) = false) :
    PE X (.Call (.Name x p) (e :: es) [] pos) (tMakeS C sp E t) := by
  refine ⟨fun pins s σ H Q I h => ?_⟩
  refine wpAny_Call_Name_kw (ld_glob I hg hm ?_ hdb)
  refine PySem.W.callWith_K (h₀ := X.base) I.ok.mod.kin M.kp (thn (ha.run pos pins s σ H _ I h) fun us s1 ⟨vs, H1, I1, r, q⟩ => ⟨I1.kIn, ?_⟩) he hpl
  exact run_makeS M F hr hb (hx σ) I1 r q
theorem pe_makeS0 (M : Mk X.K C f) (F : FnOk X.prog X.w X.K X.mg X.base CX k f fd ps sp) (hr : Room (k + 1) X.A) (hg : Gl X x) (hm : X.mg x = some (.ref C)) (hb : Binds X.K fd ps []) (hx : ∀ σ, PassesAt CX X σ (E σ))
    (hdb : (x == ("__debug__" : Str)) = false) : PE X (.Call (.Name x p) [] [] pos) (tMakeS C sp E tNil) := by
  refine ⟨fun pins s σ H Q I h => ?_⟩
  refine wpAny_Call_Name_kw (ld_glob I hg hm ?_ hdb)
  exact PySem.W.callWith_K0 I.kIn M.kp (run_makeS (us := []) M F hr hb (hx σ) I .nil h)
end
/-- what of the text a class must have -/
structure OcOk (X : Cx) (c : String) (C : Addr) (fl : List String) : Prop where
  at_ : ClsAt X.K C c
  mg : X.mg (Str.ofString c) = some (.ref C)
  cl : Cls X.K C
  no : ∀ f ∈ fl, NoAttr X.K C (Str.ofString f)
section
variable {cA : Ca} {X : Cx} {σ : L2.St} {H : Hp} {m : List Addr} {S : Sto} {ρ : Nv} {W : WX} {Q : VK} {T : Ends} {pos p apos : Pos} {a b e : Expr} {es : List Expr} {f g : Nv → Sto → Res D} {ga : Nv → Sto → Res (List D)} {k : Nat} {c fn : String} {C : Addr} {fl : List String} {d : D} {v : V}
theorem ob_of {n : Nat} {fs : List (String × D)} (o : OcOk X c C fl) (rs : RelS X.F H m S) (rd : RelD X.F H m (.ref n) v) (ho : S[n]? = some (.ob c fs)) : ∃ a dx vs, v = .ref a ∧ m[n]? = some a ∧ H a = some (.ins C dx vs) ∧ RelFs X.F H m fs vs := by
  cases rd with
  | ref ha =>
  obtain ⟨a, ea, ro⟩ := rs.ob _ _ ho
  rw [ha] at ea; cases ea
  cases ro with
  | ob hH cl r =>
  cases cl.one o.at_
  exact ⟨_, _, _, rfl, ha, hH, r⟩
theorem se_at (o : OcOk X c C fl) (hf : fn ∈ fl) (hb : attributeBase a (Str.ofString fn) X.env (eval a X.env) = eval a X.env) (ha : PE X a (tR cA X.F W g)) :
    PE X (.Attribute a (Str.ofString fn) pos) (tR cA X.F W fun ρ S => (g ρ S).bind fun x S => fldO c fn x S) :=
  (pe_fld ha hb).imp fun σ H Q ⟨m, ρ, S, rn, rs, hp⟩ => ⟨m, ρ, S, rn, rs, (Post.bind hp).imp fun v H1 ⟨m1, d, S1, _, e1, rs1, rd1, h1⟩ => by
    unfold fldO at h1
    split at h1
    · split at h1
      · rename_i c' fs ho
        split at h1
        · rename_i hc; subst hc
          split at h1
          · rename_i y hy
            obtain ⟨a, dx, vs, rfl, _, hH, r⟩ := ob_of o rs1 rd1 ho
            obtain ⟨u, hu, ru⟩ := r.hit hy
            exact ⟨a, C, dx, vs, u, rfl, hH, o.cl, o.no fn hf, hu, h1 m1 H1 u .refl rs1 ru⟩
          · exact h1.elim
        · exact h1.elim
      · exact h1.elim
    · exact h1.elim⟩
theorem ss_sat {apos : Pos} (o : OcOk X c C fl) (hf : fn ∈ fl) (ho : PE X b (tR cA X.F W g)) (he : PE X a (tR cA X.F W f)) (hs : swapsWith a (some (.Attribute b (Str.ofString fn) apos)) pos.line X.env = pure false) :
    PS X (.Assign [.Attribute b (Str.ofString fn) apos] a pos) (tC cA X.F W fun ρ S => (f ρ S).out ρ fun y S => (g ρ S).out ρ fun x S => match setO c fn x y S with
      | some S' => .nx ρ S'
      | none => .stuck) :=
  (ps_fld ho he hs).imp fun T σ H ⟨m, ρ, S, rn, rs, h0⟩ => ⟨m, ρ, S, rn, rs, (PostC.out rn h0).imp fun v H1 ⟨m1, d, S1, _, e1, rs1, rd1, h1⟩ =>
    ⟨m1, ρ, S1, rn.ext e1, rs1, (PostC.out (rn.ext e1) h1).imp fun v2 H2 ⟨m2, d2, S2, _, e2, rs2, rd2, h2⟩ => by
      unfold setO at h2
      split at h2
      · rename_i S3 h3
        split at h3
        · split at h3
          · rename_i c' fs hob
            split at h3
            · rename_i hc
              obtain ⟨rfl, hl⟩ := hc
              cases h3
              obtain ⟨p, dx, vs, rfl, hm, hH, r⟩ := ob_of o rs2 rd2 hob
              have kp : Kp X.F H2 (upd H2 p (.ins C dx (putF (Str.ofString fn) v vs))) := kp_updW (.inr (by rw [hH]; trivial))
              refine ⟨p, C, dx, vs, rfl, hH, o.cl, o.no fn hf, by rw [← r.length]; exact hl, h2 m2 _ σ (.putW (.inr (by rw [hH]; trivial))) (((rn.ext e1).ext e2).ext (.putW (.inr (by rw [hH]; trivial)))) ?_⟩
              refine rs2.putW hob rfl hm (.inr (by rw [hH]; trivial)) (.ob upd_same o.at_ ?_) rfl
              have := (r.put (f := fn) (rd1.ext e2)).mono kp []
              simpa using this
            · cases h3
          · cases h3
        · cases h3
      · exact h2.elim⟩⟩
theorem post_call {ps : List Str} {Fn : List D → Sto → Res D} {ds : List D} {vs : List V} (hlen : ∀ ds S, ds.length ≠ ps.length → Fn ds S = .stuck) (rs : RelS X.F H m S) (rd : RelDs X.F H m ds vs) (h : Post cA X.F m H σ W (Fn ds S) Q) : spI cA X.F ps.length Fn vs H Q (WE W σ) := by
  refine ⟨?_, m, S, ds, rs, rd, ?_⟩
  · rw [← rd.length]
    by_cases z : ds.length = ps.length
    · exact z
    · rw [hlen ds S z] at h; exact h.elim
  · cases q : Fn ds S with
    | ok d S3 => rw [q] at h; exact h
    | exc x S3 => rw [q] at h; exact h
    | stuck => rw [q] at h; exact h
def mclF (c m : String) (Fn : List D → Sto → Res D) (f : Nv → Sto → Res D) (g : Nv → Sto → Res (List D)) : Nv → Sto → Res D := fun ρ S => (f ρ S).bind fun x S => if isOb c m x S then (g ρ S).bind fun ds S => Fn (x :: ds) S else .stuck
theorem isOb_of {mn : String} (h : isOb c mn d S = true) : ∃ n fs, d = .ref n ∧ S[n]? = some (.ob c fs) ∧ fs.lookup mn = none := by
  unfold isOb at h
  split at h
  · split at h
    · rename_i c' fs ho
      simp only [Bool.and_eq_true, decide_eq_true_eq, Option.isNone_iff_eq_none] at h
      obtain ⟨rfl, h2⟩ := h
      exact ⟨_, fs, rfl, ho, h2⟩
    · cases h
  · cases h
theorem mcl_of {fa : Addr} {fd : FuncData} {ps : List Str} {Fn : List D → Sto → Res D} {mn : String} (o : OcOk X c C fl) (hlen : ∀ ds S, ds.length ≠ ps.length → Fn ds S = .stuck) (h : tR cA X.F W (mclF c mn Fn f ga) σ H Q) :
    tMethS C (Str.ofString mn) (spI cA X.F ps.length Fn) (WE W) (tR cA X.F W f) (tA cA X.F W ga) σ H Q := by
  obtain ⟨m, ρ, S, rn, rs, hp⟩ := h
  unfold mclF at hp
  refine ⟨m, ρ, S, rn, rs, (Post.bind hp).imp fun v H1 ⟨m1, d, S1, _, e1, rs1, rd1, h1⟩ => ?_⟩
  split at h1
  · rename_i hob
    obtain ⟨n, fs, rfl, ho, hl⟩ := isOb_of hob
    obtain ⟨a, dx, vs, rfl, _, hH, r⟩ := ob_of o rs1 rd1 ho
    refine ⟨a, dx, vs, rfl, hH, r.mis hl, m1, ρ, S1, rn.ext e1, rs1, (Post.bindA h1).imp fun us H2 ⟨m2, ds, S2, _, e2, rs2, rd2, h2⟩ => ?_⟩
    exact post_call hlen rs2 (.cons (rd1.ext e2) rd2) h2
  · exact h1.elim
theorem se_mcl {fa : Addr} {fd : FuncData} {ps : List Str} {Fn : List D → Sto → Res D} {mn : String} (o : OcOk X c C fl) (hm : Meth X.K C (Str.ofString mn) fa) (F : FnOk X.prog X.w X.K X.mg X.base (L2.CX X.prog X.w) k fa fd ps (spI cA X.F ps.length Fn)) (hr : Room k X.A) (hb : Binds X.K fd ps []) (tk : Takes X W)
    (hlen : ∀ ds S, ds.length ≠ ps.length → Fn ds S = .stuck) (hbase : attributeBase a (Str.ofString mn) X.env (eval a X.env) = eval a X.env) (hline : (apos.endLine == pos.line) = true) (hpl : (e :: es).all plain = true) (hfew : (e :: es).length < 30)
    (ho : PE X a (tR cA X.F W f)) (ha : PA X (e :: es) (tA cA X.F W ga)) : PE X (.Call (.Attribute a (Str.ofString mn) apos) (e :: es) [] pos) (tR cA X.F W (mclF c mn Fn f ga)) := by
  have hpl' := hpl
  simp only [List.all_cons, Bool.and_eq_true] at hpl'
  exact (pe_methS ho o.cl hm F hr hb (fun σ => passAt tk σ) ha (star_cons hpl'.1) (star_any hpl'.2) (meth_any hbase hline (by unfold methodCallForm; rw [star_all hpl]; simp [keywordEach, backToKw]; simpa using hfew))).imp fun σ H Q h => mcl_of (fa := fa) (fd := fd) o hlen h
theorem se_mcl0 {fa : Addr} {fd : FuncData} {ps : List Str} {Fn : List D → Sto → Res D} {mn : String} (o : OcOk X c C fl) (hm : Meth X.K C (Str.ofString mn) fa) (F : FnOk X.prog X.w X.K X.mg X.base (L2.CX X.prog X.w) k fa fd ps (spI cA X.F ps.length Fn)) (hr : Room k X.A) (hb : Binds X.K fd ps []) (tk : Takes X W)
    (hlen : ∀ ds S, ds.length ≠ ps.length → Fn ds S = .stuck) (hbase : attributeBase a (Str.ofString mn) X.env (eval a X.env) = eval a X.env) (hline : (apos.endLine == pos.line) = true)
    (ho : PE X a (tR cA X.F W f)) : PE X (.Call (.Attribute a (Str.ofString mn) apos) [] [] pos) (tR cA X.F W (mclF c mn Fn f fun _ S => .ok [] S)) :=
  (pe_methS0 ho o.cl hm F hr hb (fun σ => passAt tk σ) (meth_any hbase hline (by rfl))).imp fun σ H Q h => by
    obtain ⟨m1, ρ1, S1, a1, a2, a3⟩ := mcl_of (fa := fa) (fd := fd) o hlen h
    refine ⟨m1, ρ1, S1, a1, a2, a3.imp fun x H1 ⟨t, dx, fs, b1, b2, b3, m2, ρ2, S2, b4, b5, b6⟩ => ⟨t, dx, fs, b1, b2, b3, b6 m2 H1 [] .refl b5 .nil⟩⟩
def mkF (c : String) (Fn : List D → Sto → Res D) (g : Nv → Sto → Res (List D)) : Nv → Sto → Res D := fun ρ S => (g ρ S).bind fun ds S => mkO c Fn ds S
theorem mk_of {ps : List Str} {Fn : List D → Sto → Res D} (o : OcOk X c C fl) (hlen : ∀ ds S, ds.length ≠ ps.length → Fn ds S = .stuck) {ds : List D} {vs : List V} (rs : RelS X.F H m S) (rd : RelDs X.F H m ds vs) (h : Post cA X.F m H σ W (mkO c Fn ds S) Q) :
    ∀ x dx, H x = none → H dx = none → dx ≠ x → spI cA X.F ps.length Fn (.ref x :: vs) (upd (upd H dx (.own x)) x (.ins C dx [])) (fun v H2 => v = .non ∧ Q (.ref x) H2) (WE W σ) := by
  intro x dx hx hdx hne
  have e1 : Ext X.F H m (upd H dx (.own x)) m := .more hdx
  have rs1 := rs.more hdx (u := .own x)
  have hx1 : upd H dx (.own x) x = none := by rw [upd_ne (Ne.symm hne)]; exact hx
  have e2 : Ext X.F (upd H dx (.own x)) m (upd (upd H dx (.own x)) x (.ins C dx [])) (m ++ [x]) := .new hx1
  have rs2 : RelS X.F (upd (upd H dx (.own x)) x (.ins C dx [])) (m ++ [x]) (S ++ [.ob c []]) := rs1.new hx1 (.ob upd_same o.at_ .nil) rfl
  have hg : (m ++ [x])[S.length]? = some x := by rw [← rs.len]; simp
  refine post_call (m := m ++ [x]) (S := S ++ [.ob c []]) (ds := .ref S.length :: ds) (σ := σ) hlen rs2 (.cons (.ref hg) (rd.ext (e1.trans e2))) ?_
  unfold mkO at h
  cases q : Fn (.ref S.length :: ds) (S ++ [.ob c []]) with
  | stuck => rw [q] at h; exact h
  | exc y S3 => rw [q] at h; exact fun m' H' c d e3 => h m' H' c d ((e1.trans e2).trans e3)
  | ok d S3 =>
    rw [q] at h
    simp only [Res.bind] at h
    split at h
    · intro m' H' v e3 rs3 rd3
      refine ⟨?_, h m' H' (.ref x) ((e1.trans e2).trans e3) rs3 (.ref ?_)⟩
      · cases rd3 with | p r => cases r; rfl
      · obtain ⟨t, rfl⟩ := e3.pre
        exact pre_get hg
    · exact h.elim
theorem se_mk {fa : Addr} {fd : FuncData} {ps : List Str} {Fn : List D → Sto → Res D} (o : OcOk X c C fl) (M : Mk X.K C fa) (F : FnOk X.prog X.w X.K X.mg X.base (L2.CX X.prog X.w) k fa fd ps (spI cA X.F ps.length Fn)) (hr : Room (k + 1) X.A) (hg : Gl X (Str.ofString c)) (hb : Binds X.K fd ps []) (tk : Takes X W)
    (hlen : ∀ ds S, ds.length ≠ ps.length → Fn ds S = .stuck) (hd : (Str.ofString c == ("__debug__" : Str)) = false) (hpl : (e :: es).all plain = true) (ha : PA X (e :: es) (tA cA X.F W ga)) :
    PE X (.Call (.Name (Str.ofString c) p) (e :: es) [] pos) (tR cA X.F W (mkF c Fn ga)) := by
  have hpl' := hpl
  simp only [List.all_cons, Bool.and_eq_true] at hpl'
  exact (pe_makeS M F hr hg o.mg hb (fun σ => passAt tk σ) ha hd (star_cons hpl'.1) (star_any hpl'.2)).imp fun σ H Q ⟨m, ρ, S, rn, rs, hp⟩ => by
    unfold mkF at hp
    exact ⟨m, ρ, S, rn, rs, (Post.bindA hp).imp fun vs H1 ⟨m1, ds, S1, _, e1, rs1, rd1, h1⟩ => mk_of o hlen rs1 rd1 h1⟩
theorem se_mk0 {fa : Addr} {fd : FuncData} {ps : List Str} {Fn : List D → Sto → Res D} (o : OcOk X c C fl) (M : Mk X.K C fa) (F : FnOk X.prog X.w X.K X.mg X.base (L2.CX X.prog X.w) k fa fd ps (spI cA X.F ps.length Fn)) (hr : Room (k + 1) X.A) (hg : Gl X (Str.ofString c)) (hb : Binds X.K fd ps []) (tk : Takes X W)
    (hlen : ∀ ds S, ds.length ≠ ps.length → Fn ds S = .stuck) (hd : (Str.ofString c == ("__debug__" : Str)) = false) :
    PE X (.Call (.Name (Str.ofString c) p) [] [] pos) (tR cA X.F W (mkF c Fn fun _ S => .ok [] S)) :=
  (pe_makeS0 M F hr hg o.mg hb (fun σ => passAt tk σ) hd).imp fun σ H Q ⟨m, ρ, S, rn, rs, hp⟩ => by
    unfold mkF at hp
    exact mk_of o hlen rs .nil hp
end
end PH

set_option maxHeartbeats 4000000
/-! PH, part K: when a term fits a text (a Bool), and that then the text does what the term says. -/
namespace PH
open L2 PySem PySem.Spec PyProof.Rows
/-- what is known of the text's names: the defs, the constants by number -/
structure Tab where
  fn : List Str
  gl : List Str
  /-- the exception classes: name, number, fields -/
  cl : List (Str × Nat × List String)
  /-- the dicts of the top: name, values by text -/
  gd : List (Str × List (Cs × PD))
  /-- the classes with instances: name, fields, methods by number -/
  oc : List (String × List String × List (String × Nat))
  /-- within an except suite -/
  hot : Bool
def Tab.ids (T : Tab) : List Nat := T.cl.map (·.2.1)
def Tab.fl (T : Tab) : List String := T.cl.flatMap (·.2.2)
def Tab.in (T : Tab) : Tab := { T with hot := true }
def ocB (T : Tab) (c : String) (p : List String → List (String × Nat) → Bool) : Bool := T.oc.any fun q => decide (q.1 = c) && p q.2.1 q.2.2
theorem ocB_of {T : Tab} {c : String} {p : List String → List (String × Nat) → Bool} (h : ocB T c p = true) : ∃ fl ms, (c, fl, ms) ∈ T.oc ∧ p fl ms = true := by
  unfold ocB at h
  obtain ⟨⟨c', fl, ms⟩, hq, h2⟩ := List.any_eq_true.mp h
  simp only [Bool.and_eq_true, decide_eq_true_eq] at h2
  obtain ⟨rfl, h3⟩ := h2
  exact ⟨fl, ms, hq, h3⟩
def visB (sc : Scope) (n : Str) : Bool := match sc.names.lookup n with
  | some .local => true | some .cell => true | some .free => true | _ => false
def locB (sc : Scope) (n : Str) : Bool := match sc.names.lookup n with
  | some .local => true | some .cell => true | _ => false
def glbB (sc : Scope) (n : Str) : Bool := match sc.names.lookup n with
  | some .globalImplicit => true | _ => false
def noDbg (n : Str) : Bool := !(n == ("__debug__" : Str)) && !(n == ("__classdict__" : Str))
def notSet : Expr → Bool
  | .Set .. => false | _ => true
def notComp : Expr → Bool
  | .ListComp .. => false | .SetComp .. => false | .DictComp .. => false | _ => true
def notTup : Expr → Bool
  | .Tuple .. => false | .List .. => false | _ => true
def notCall0 : Expr → Bool
  | .Call _ [] _ _ => false | _ => true
def okAsg (sc : Scope) (t x : Expr) : Bool := match x with
  | .ListComp _ _ scope p => (match t with
    | .Name n q => (match sc.names.lookup n with
      | some .local => (match sc.kind with | .function => true | _ => false) && (q.line == p.line) && !(scope.names.any fun (m, k) => m == n && (k == .local || k == .cell))
      | _ => true)
    | _ => false)
  | .DictComp _ _ _ scope p => (match t with
    | .Name n q => (match sc.names.lookup n with
      | some .local => (match sc.kind with | .function => true | _ => false) && (q.line == p.line) && !(scope.names.any fun (m, k) => m == n && (k == .local || k == .cell))
      | _ => true)
    | _ => false)
  | .SetComp .. => false
  | .Tuple .. => (match t with | .Name .. => true | _ => false)
  | _ => (match t with | .Name .. => true | .Tuple .. => true | _ => false)
/-- the built-in names that are asked for -/
def bltNames : List Str := ["isinstance", "range", "len", "int", "ord", "str", "tuple", "list", "sorted", "all", "any", "sum", "max", "min", "abs", "bool", "dict", "ValueError"]
def ownOf (N : List Str) (own : List Nat) : List (Str × Nat) := own.map fun j => (N.getD j ⟨#[]⟩, j)
section
variable (T : Tab) (N : List Str)
mutual
def chkT (sc : Scope) : Tg → Expr → Bool
  | .nm i, e => match e with
    | .Name n _ => decide (N[i]? = some n) && locB sc n
    | _ => false
  | .tp ts, e => match e with
    | .Tuple es _ _ => chkTs sc ts es
    | _ => false
def chkTs (sc : Scope) : List Tg → List Expr → Bool
  | [], es => es.isEmpty
  | t :: ts, es => match es with
    | e :: es => plain e && chkT sc t e && chkTs sc ts es
    | [] => false
end
def chkK (v : PD) (e : Expr) : Bool := match v with
  | .non => (match e with | .Constant .none _ _ => true | _ => false)
  | .bl b => (match e with | .Constant (.bool c) _ _ => decide (b = c) | _ => false)
  | .int b => (match e with | .Constant (.int c) _ _ => decide (b = c) | _ => false)
  | .str s => (match e with | .Constant (.str t) _ _ => decide (mkS s = t) && decide (s.length ≤ LINE) && s.all fun c => decide (c < 1114112) | _ => false)
  | _ => false
def chkTy (sc : Scope) : List Ty → List Expr → Bool
  | [], es => es.isEmpty
  | t :: ts, es => match es with
    | .Name n _ :: es => decide (n = t.nm) && decide (n ∈ bltNames) && glbB sc n && chkTy sc ts es
    | _ => false
/-- a class's name -/
def clsB (sc : Scope) (n : Str) (c : Nat) : Bool := glbB sc n && !(n == ("__debug__" : Str)) && ((decide (c ≠ 1001) && T.cl.any fun q => decide (q.1 = n) && decide (q.2.1 = c)) || (decide (c = 1001) && decide (n = ("ValueError" : Str))))
def clssB (sc : Scope) : List Nat → List Expr → Bool
  | [], [] => true
  | c :: cs, y :: ys => (match y with
    | .Name n _ => clsB T sc n c
    | _ => false) && clssB sc cs ys
  | _, _ => false
mutual
def chkE : E → Scope → Expr → Bool
  | .k v, _, w0 => chkK v w0
  | .v i, sc, w0 => match w0 with
    | .Name n _ => decide (N[i]? = some n) && visB sc n && noDbg n
    | _ => false
  | .g i, sc, w0 => match w0 with
    | .Name n _ => decide (T.gl[i]? = some n) && glbB sc n && noDbg n
    | _ => false
  | .gd t n e, sc, w0 => match w0 with
    | .Subscript (.Name m _) y _ => noSlice y && decide (T.gd[n]? = some (m, t)) && glbB sc m && noDbg m && chkE e sc y
    | _ => false
  | .fld i f, sc, w0 => match w0 with
    | .Attribute (.Name n _) a _ => decide (N[i]? = some n) && visB sc n && noDbg n && decide (a = Str.ofString f) && decide (f ∈ T.fl) && T.hot
    | _ => false
  | .isx i cs, sc, w0 => match w0 with
    | .Call (.Name g _) [.Name n _, y] [] _ => decide (g = "isinstance") && glbB sc g && decide (N[i]? = some n) && visB sc n && noDbg n && T.hot && (match y with
      | .Name x _ => (match cs with | [c] => clsB T sc x c | _ => false)
      | .Tuple ys _ _ => decide (ys.length ≤ 1000) && clssB T sc cs ys
      | _ => false)
    | _ => false
  | .tp es, sc, w0 => match w0 with
    | .Tuple xs _ _ => decide (xs.length ≤ 1000) && chkEs es sc xs
    | _ => false
  | .ls es, sc, w0 => match w0 with
    | .List xs _ => decide (xs.length ≤ 1000) && chkEs es sc xs
    | _ => false
  | .dead, _, _ => true
  | .d0, sc, w0 => match w0 with
    | .Dict [] [] _ => true
    | _ => false
  | .d0t, sc, w0 => match w0 with
    | .Dict [] [] _ => true
    | _ => false
  | .dix a i, sc, w0 => match w0 with
    | .Subscript x y _ => noSlice y && chkE a sc x && chkE i sc y
    | _ => false
  | .din neg i a, sc, w0 => match w0 with
    | .Compare y [op'] [x] _ => decide (op' = inOp neg) && notSet x && chkE i sc y && chkE a sc x
    | _ => false
  | .dg1 a k, sc, w0 => match w0 with
    | .Call (.Attribute o nm apos) [y] [] pos => decide (nm = "get") && notCall0 o && (apos.endLine == pos.line) && plain y && chkE a sc o && chkE k sc y
    | _ => false
  | .dg2 a k z, sc, w0 => match w0 with
    | .Call (.Attribute o nm apos) [y, y'] [] pos => decide (nm = "get") && notCall0 o && (apos.endLine == pos.line) && plain y && plain y' && chkE a sc o && chkE k sc y && chkE z sc y'
    | _ => false
  | .bin op a b, sc, w0 => match w0 with
    | .BinOp x op' y _ => decide (op = op') && chkE a sc x && chkE b sc y
    | _ => false
  | .neg a, sc, w0 => match w0 with
    | .UnaryOp .USub x _ => chkE a sc x
    | _ => false
  | .no a, sc, w0 => match w0 with
    | .UnaryOp .Not x _ => chkE a sc x
    | _ => false
  | .cmp op a b, sc, w0 => match w0 with
    | .Compare x [op'] [y] _ => decide (op = op') && notSet y && chkE a sc x && chkE b sc y
    | _ => false
  | .chn o1 o2 a b c, sc, w0 => match w0 with
    | .Compare x [p1, p2] [y, z] _ => decide (o1 = p1) && decide (o2 = p2) && notSet y && notSet z && chkE a sc x && chkE b sc y && chkE c sc z
    | _ => false
  | .bo o es, sc, w0 => match w0 with
    | .BoolOp o' (x :: xs) _ => decide (o = o') && chkEs es sc (x :: xs)
    | _ => false
  | .ife c a b, sc, w0 => match w0 with
    | .IfExp z x y _ => chkE c sc z && chkE a sc x && chkE b sc y
    | _ => false
  | .ix a i, sc, w0 => match w0 with
    | .Subscript x y _ => noSlice y && chkE a sc x && chkE i sc y
    | _ => false
  | .slN a, sc, w0 => match w0 with
    | .Subscript x (.Slice none none none _) _ => chkE a sc x
    | _ => false
  | .slL a lo, sc, w0 => match w0 with
    | .Subscript x (.Slice (some y) none none _) _ => chkE a sc x && chkE lo sc y
    | _ => false
  | .slH a hi, sc, w0 => match w0 with
    | .Subscript x (.Slice none (some y) none _) _ => chkE a sc x && chkE hi sc y
    | _ => false
  | .sl a lo hi, sc, w0 => match w0 with
    | .Subscript x (.Slice (some y) (some z) none _) _ => chkE a sc x && chkE lo sc y && chkE hi sc z
    | _ => false
  | .at c e f, sc, w0 => match w0 with
    | .Attribute x a _ => decide (a = Str.ofString f) && ocB T c (fun fl _ => decide (f ∈ fl)) && notCall0 x && chkE e sc x
    | _ => false
  | .mk c fi es, sc, w0 => match w0 with
    | .Call (.Name n _) xs [] _ => decide (n = Str.ofString c) && glbB sc n && noDbg n && ocB T c (fun _ ms => decide (("__init__", fi) ∈ ms)) && chkEs es sc xs && !T.hot
    | _ => false
  | .mcl c m fi e es, sc, w0 => match w0 with
    | .Call (.Attribute x a apos) xs [] pos => decide (a = Str.ofString m) && notCall0 x && (apos.endLine == pos.line) && decide (xs.length < 30) && ocB T c (fun _ ms => decide ((m, fi) ∈ ms)) && chkE e sc x && chkEs es sc xs && !T.hot
    | _ => false
  | .call f es, sc, w0 => match w0 with
    | .Call (.Name n _) xs [] _ => decide (T.fn[f]? = some n) && glbB sc n && noDbg n && chkEs es sc xs && !T.hot
    | _ => false
  | .blt b es, sc, w0 => match w0 with
    | .Call (.Name n _) (x :: xs) [] _ => decide (n = b.nm) && decide (n ∈ bltNames) && glbB sc n && chkEs es sc (x :: xs) && !T.hot
    | _ => false
  | .isi a t, sc, w0 => match w0 with
    | .Call (.Name n _) [x, .Name tn _] [] _ => decide (n = "isinstance") && decide (tn = t.nm) && decide (tn ∈ bltNames) && glbB sc n && glbB sc tn && plain x && chkE a sc x
    | _ => false
  | .isT a ts, sc, w0 => match w0 with
    | .Call (.Name n _) [x, .Tuple ys _ _] [] _ => decide (n = "isinstance") && glbB sc n && plain x && decide (ts.length ≤ 1000) && chkTy sc ts ys && chkE a sc x
    | _ => false
  | .mth m a es, sc, w0 => match w0 with
    | .Call (.Attribute o nm apos) xs [] pos => decide (nm = m.nm) && notCall0 o && (apos.endLine == pos.line) && decide (xs.length < 30) && chkE a sc o && chkEs es sc xs
    | _ => false
  | .dcm t own tg it kx vx, sc, w0 => match w0 with
    | .DictComp x y [⟨tt, i, [], ia⟩] scope _ => decide (ia = 0) && notSet i && blkC N sc scope (ownOf N own) && decide (∀ j ∈ tg.sl, j ∈ own) && chkT N scope tg tt && chkW it sc i && chkE kx scope x && chkE vx scope y && !T.hot
    | _ => false
  | .dcmI t own tg it c kx vx, sc, w0 => match w0 with
    | .DictComp x y [⟨tt, i, [q], ia⟩] scope _ => decide (ia = 0) && notSet i && blkC N sc scope (ownOf N own) && decide (∀ j ∈ tg.sl, j ∈ own) && chkT N scope tg tt && chkW it sc i && chkE c scope q && chkE kx scope x && chkE vx scope y && !T.hot
    | _ => false
  | .lc own tg it elt, sc, w0 => match w0 with
    | .ListComp x [⟨t, i, [], ia⟩] scope _ => decide (ia = 0) && notSet i && blkC N sc scope (ownOf N own) && decide (∀ j ∈ tg.sl, j ∈ own) && chkT N scope tg t && chkW it sc i && chkE elt scope x && !T.hot
    | _ => false
  | .lcI own tg it c elt, sc, w0 => match w0 with
    | .ListComp x [⟨t, i, [q], ia⟩] scope _ => decide (ia = 0) && notSet i && blkC N sc scope (ownOf N own) && decide (∀ j ∈ tg.sl, j ∈ own) && chkT N scope tg t && chkW it sc i && chkE c scope q && chkE elt scope x && !T.hot
    | _ => false
def chkEs : Es → Scope → List Expr → Bool
  | .nil, _, es => es.isEmpty
  | .cons e es, sc, w0 => match w0 with
    | x :: xs => plain x && chkE e sc x && chkEs es sc xs
    | [] => false
def chkW : W → Scope → Expr → Bool
  | .of e, sc, x => chkE e sc x
  | .rg1 a, sc, w0 => match w0 with
    | .Call (.Name n _) [x] [] _ => decide (n = "range") && glbB sc n && plain x && chkE a sc x
    | _ => false
  | .rgL a, sc, w0 => match w0 with
    | .Call (.Name n _) [.Call (.Name l _) [x] [] _] [] _ => decide (n = "range") && decide (l = "len") && glbB sc n && glbB sc l && plain x && chkE a sc x && !T.hot
    | _ => false
  | .rg2 a b, sc, w0 => match w0 with
    | .Call (.Name n _) [x, y] [] _ => decide (n = "range") && glbB sc n && plain x && plain y && chkE a sc x && chkE b sc y
    | _ => false
end
end
/-- a plain name as a target -/
def nmB : Tg → Bool
  | .nm _ => true
  | _ => false
/-- the classes that can come, by number: all in the table, all with a line of their own -/
def knB (T : Tab) (kn : List Nat) : Bool := decide (T.gl.length ≤ XC) && kn.all fun c => decide (c < 1000) && decide (c ∈ T.ids)
section
variable (N : List Str)
mutual
def chkC (T : Tab) (sc : Scope) : C → Stmt → Bool
  | .ret e, w0 => match w0 with
    | .Return (some x) _ => chkE T N e sc x
    | _ => false
  | .retN, w0 => match w0 with
    | .Return none _ => true
    | _ => false
  | .asg tg e, w0 => match w0 with
    | .Assign [t] x _ => plain t && okAsg sc t x && chkT N sc tg t && chkE T N e sc x && (!T.hot || nmB tg)
    | _ => false
  | .sub a i e, w0 => match w0 with
    | .Assign [.Subscript o k _] x _ => noSlice k && chkE T N a sc o && chkE T N i sc k && chkE T N e sc x
    | _ => false
  | .dsu a i e, w0 => match w0 with
    | .Assign [.Subscript o k _] x _ => chkE T N a sc o && chkE T N i sc k && chkE T N e sc x
    | _ => false
  | .ddl a i, w0 => match w0 with
    | .Delete [.Subscript o k _] _ => chkE T N a sc o && chkE T N i sc k
    | _ => false
  | .sat c a f e, w0 => match w0 with
    | .Assign [.Attribute b n _] x _ => decide (n = Str.ofString f) && ocB T c (fun fl _ => decide (f ∈ fl)) && notComp x && chkE T N a sc b && chkE T N e sc x
    | _ => false
  | .ex e, w0 => match w0 with
    | .Expr x _ => notComp x && chkE T N e sc x
    | _ => false
  | .ite c t f, w0 => match w0 with
    | .If x a b _ => chkE T N c sc x && chkCz T sc t a && chkCz T sc f b
    | _ => false
  | .forr tg it body, w0 => match w0 with
    | .For t i b [] _ => notSet i && chkT N sc tg t && chkW T N it sc i && chkCz T sc body b && !T.hot
    | _ => false
  | .whl c body, w0 => match w0 with
    | .While x b [] _ => chkE T N c sc x && chkCz T sc body b
    | _ => false
  | .dead, _ => true
  | .unl ts e, w0 => match w0 with
    | .Assign [.Tuple es kk q] x _ => chkTs N sc ts es && okAsg sc (.Tuple es kk q) x && chkE T N e sc x && !T.hot
    | _ => false
  | .rse c fs es, w0 => match w0 with
    | .Raise (some (.Call (.Name n _) (x :: xs) [] _)) none _ => glbB sc n && !(n == ("__debug__" : Str)) && decide ((n, c, fs) ∈ T.cl) && decide (c < 1000) && chkEs T N es sc (x :: xs) && !T.hot
    | _ => false
  | .trx body kn c i suite, w0 => match w0 with
    | .Try b [.ExceptHandler (some (.Name x _)) (some n) (s :: ss) _] [] [] _ => decide (N[i]? = some n) && decide (sc.names.lookup n = some .local) && clsB T sc x c && decide (c ≠ 1001) && knB T kn && chkCz T sc body b && chkCz T.in sc suite (s :: ss) && !T.hot
    | _ => false
  | .try0 body kn c suite, w0 => match w0 with
    | .Try b [.ExceptHandler (some (.Name x _)) none (s :: ss) _] [] [] _ => clsB T sc x c && decide (c ≠ 1001) && knB T kn && chkCz T sc body b && chkCz T.in sc suite (s :: ss) && !T.hot
    | _ => false
  | .pas, w0 => match w0 with
    | .Pass _ => true
    | _ => false
  | .brk, w0 => match w0 with
    | .Break _ => true
    | _ => false
  | .cnt, w0 => match w0 with
    | .Continue _ => true
    | _ => false
def chkCz (T : Tab) (sc : Scope) : Cz → List Stmt → Bool
  | .nil, ss => ss.isEmpty
  | .cons c cs, w0 => match w0 with
    | s :: ss => chkC T sc c s && chkCz T sc cs ss
    | [] => false
end
end

/-! ### the context -/
structure Cok (cA : Ca) (T : Tab) (N : List Str) (sc : Scope) (X : Cx) (k : Nat) (M : Mo) (W : WX) : Prop where
  calm : T.hot = false → X.calm = true
  room : T.hot = false → Room k X.A
  room1 : T.hot = false → Room (k + 1) X.A
  two : 2 ≤ k
  un : X.A.units + 200 < cLine
  tk : Takes X W
  po : PassesOwn (model X.prog X.w) X.A X.env X.xe
  hN : X.N = N
  nd : N.Nodup
  vis : ∀ n, visB sc n = true → Vis X.env.scope n
  loc : ∀ n, locB sc n = true → Loc X.env.scope n ∧ (X.fn n = true ∨ X.env.scope.names.lookup n = some .local)
  glb : ∀ n, glbB sc n = true → Gl X n
  cap : ∀ n, sc.names.lookup n = some .cell ∨ sc.names.lookup n = some .free → X.env.scope.names.lookup n = some .cell ∨ X.env.scope.names.lookup n = some .free
  blt : ∀ n ∈ bltNames, X.mg n = none
  fns : ∀ (f : Nat) n, T.fn[f]? = some n → noDbg n = true → ∃ fa fd ps, FnOk X.prog X.w X.K X.mg X.base (L2.CX X.prog X.w) k fa fd ps (spI cA X.F ps.length (M.call f)) ∧ X.mg n = some (.ref fa) ∧ PySem.W.keepIn X.K (.ref fa) = true ∧ Binds X.K fd ps [] ∧ ∀ ds S, ds.length ≠ ps.length → M.call f ds S = .stuck
  ocs : ∀ c fl ms, (c, fl, ms) ∈ T.oc → ∃ C, OcOk X c C fl ∧ ∀ mn fi, (mn, fi) ∈ ms → ∃ fa fd ps, Meth X.K C (Str.ofString mn) fa ∧ FnOk X.prog X.w X.K X.mg X.base (L2.CX X.prog X.w) k fa fd ps (spI cA X.F ps.length (M.call fi)) ∧ Binds X.K fd ps [] ∧ (∀ ds S, ds.length ≠ ps.length → M.call fi ds S = .stuck) ∧ (mn = "__init__" → Mk X.K C fa)
  gls : ∀ (i : Nat) n, T.gl[i]? = some n → ∃ x u v, M.glob i = some x ∧ X.mg n = some u ∧ RelV v u ∧ ∀ H, RelP X.F H x v
  gds : ∀ n t, (n, t) ∈ T.gd → ∃ p : Addr, X.mg n = some (.ref p) ∧ ∀ z x, t.lookup z = some x → ∃ v, KDct X.K X.w p (mkS z) v ∧ ∀ H, RelP X.F H x v
  cls : ∀ n c fs, (n, c, fs) ∈ T.cl → X.mg n = some (.ref (cA c)) ∧ (c < 1000 → ClsOk cA X.prog X.w X.K X.mg X.base n c fs ∧ CatOk cA X.K T.fl T.ids c)
  hotX : T.hot = true → ∃ a d c, Hot cA X a d c ∧ CatOk cA X.K T.fl T.ids c ∧ M.glob XC = some (.tup [.int a, .int d, .int c])
theorem lookup_map {sc : Scope} : ∀ {names : List (Str × NameKind)} {x : Str} {k : NameKind}, names.lookup x = some k →
    ∃ k', (names.map fun (n, k) => if (k == NameKind.free && sc.kind == .function && sc.names.lookup n == some .cell) then (n, NameKind.cell) else (n, k)).lookup x = some k' ∧ (k' = k ∨ (k = .free ∧ k' = .cell))
  | [], _, _, h => by simp at h
  | (n, k0) :: r, x, k, h => by
    have ih := @lookup_map sc r x k
    show ∃ k', List.lookup x ((if (k0 == NameKind.free && sc.kind == .function && sc.names.lookup n == some .cell) = true then (n, NameKind.cell) else (n, k0)) :: (r.map _)) = some k' ∧ _
    cases hx : x == n with
    | true =>
      simp only [List.lookup_cons, hx, Option.some.injEq] at h
      subst h
      by_cases hc : (k0 == NameKind.free && sc.kind == .function && sc.names.lookup n == some .cell) = true
      · rw [if_pos hc]
        simp only [List.lookup_cons, hx]
        simp only [Bool.and_eq_true, beq_iff_eq] at hc
        exact ⟨_, rfl, .inr ⟨hc.1.1, rfl⟩⟩
      · rw [if_neg hc]
        simp only [List.lookup_cons, hx]
        exact ⟨_, rfl, .inl rfl⟩
    | false =>
      simp only [List.lookup_cons, hx] at h
      by_cases hc : (k0 == NameKind.free && sc.kind == .function && sc.names.lookup n == some .cell) = true
      · rw [if_pos hc]; simp only [List.lookup_cons, hx]; exact ih h
      · rw [if_neg hc]; simp only [List.lookup_cons, hx]; exact ih h
section
variable {cA : Ca} {T : Tab} {N : List Str} {sc : Scope} {X : Cx} {k : Nat} {M : Mo} {W : WX} {pos : Pos}
theorem visB_of {n : Str} (h : visB sc n = true) : ∃ k, sc.names.lookup n = some k ∧ (k = .local ∨ k = .cell ∨ k = .free) := by
  unfold visB at h
  split at h <;> first | exact ⟨_, by assumption, by simp⟩ | cases h
theorem locB_of {n : Str} (h : locB sc n = true) : ∃ k, sc.names.lookup n = some k ∧ (k = .local ∨ k = .cell) := by
  unfold locB at h
  split at h <;> first | exact ⟨_, by assumption, by simp⟩ | cases h
theorem glbB_of {n : Str} (h : glbB sc n = true) : sc.names.lookup n = some .globalImplicit := by
  unfold glbB at h
  split at h <;> first | assumption | cases h
theorem noDbg_of {n : Str} (h : noDbg n = true) : (n == ("__debug__" : Str)) = false ∧ (n == ("__classdict__" : Str)) = false := by
  unfold noDbg at h
  simpa using h
/-- within a comprehension -/
theorem Cok.blk (c : Cok cA T N sc X k M W) (hh : T.hot = false) {scope : Scope} (s0 : Shared) (H0 : Hp) (C : Addr) (cl : List (Str × Addr)) (fp : List Addr) : Cok cA T N scope (X.blk s0 H0 scope (compEnvC scope cl C X.env) fp) k M W0 where
  calm := c.calm
  room := c.room
  room1 := c.room1
  ocs := fun cn fl ms h => let ⟨C, o, r⟩ := c.ocs cn fl ms h; ⟨C, ⟨o.at_, o.mg, o.cl, o.no⟩, r⟩
  two := c.two
  un := c.un
  gds := c.gds
  cls := c.cls
  hotX := fun z => by rw [hh] at z; cases z
  tk := takes_blk
  po := PassesOwn.never
  hN := c.hN
  nd := c.nd
  vis := fun n h => by
    obtain ⟨q, h1, h2⟩ := visB_of h
    obtain ⟨q', h3, h4⟩ := lookup_map (sc := X.env.scope) h1
    have h5 : (compEnvC scope cl C X.env).scope.names.lookup n = some q' := h3
    show Vis (compEnvC scope cl C X.env).scope n
    rcases h2 with rfl | rfl | rfl <;> rcases h4 with rfl | ⟨h6, rfl⟩ <;> first | exact .inl h5 | exact .inr (.inl h5) | exact .inr (.inr h5)
  loc := fun n h => by
    obtain ⟨q, h1, h2⟩ := locB_of h
    have h3 : (compEnvC scope cl C X.env).scope.names.lookup n = some q := lookup_relS_keep (sc := X.env.scope) (by rcases h2 with rfl | rfl <;> decide) h1
    rcases h2 with rfl | rfl
    · exact ⟨.inl h3, .inr h3⟩
    · exact ⟨.inr h3, .inl (by show (scope.names.lookup n == some .cell) = true; rw [h1]; decide)⟩
  glb := fun n h => lookup_relS_keep (sc := X.env.scope) (by decide) (glbB_of h)
  cap := fun n h => by
    have go : ∀ q, scope.names.lookup n = some q → q = .cell ∨ q = .free → (compEnvC scope cl C X.env).scope.names.lookup n = some .cell ∨ (compEnvC scope cl C X.env).scope.names.lookup n = some .free := fun q h1 h2 => by
      obtain ⟨q', h3, h4⟩ := lookup_map (sc := X.env.scope) h1
      have h5 : (compEnvC scope cl C X.env).scope.names.lookup n = some q' := h3
      rcases h2 with rfl | rfl <;> rcases h4 with rfl | ⟨h6, rfl⟩ <;> first | exact .inl h5 | exact .inr h5
    rcases h with h | h
    · exact go _ h (.inl rfl)
    · exact go _ h (.inr rfl)
  blt := c.blt
  fns := c.fns
  gls := c.gls
theorem Cok.u65 (c : Cok cA T N sc X k M W) : X.A.units + 65 < cLine := by have := c.un; omega
theorem Cok.u100 (c : Cok cA T N sc X k M W) : X.A.units + 100 < cLine := by have := c.un; omega
theorem blkC_cap {scope : Scope} {own : List (Str × Nat)} (c : Cok cA T N sc X k M W) (h : blkC N sc scope own = true) : BlkOk X.N X.env.scope scope own := by
  have b := blkOk_by h
  exact ⟨b.kind, b.uniq, by rw [c.hN]; exact b.ix, fun y hy e => c.cap _ (b.free y hy e), by rw [c.hN]; exact b.own⟩
theorem ownOf_snd (own : List Nat) : (ownOf N own).map (·.2) = own := by simp [ownOf, Function.comp_def]
theorem behind_of {op : CmpOp} {b : Expr} (h : notSet b = true) : behindInMarks op b = false := by cases b <;> first | rfl | cases h
theorem last_of {o1 o2 : CmpOp} {b c : Expr} (h : notSet c = true) : lastMarks [o1, o2] [b, c] = false := behind_of h
theorem fold_of {b : Expr} {env : Env} (h : notSet b = true) : ∀ x, foldedSetIterable b env x = pure x := fun x => by cases b <;> first | rfl | cases h
theorem attr_base {o : Expr} {n : Str} {env : Env} (h : notCall0 o = true) : attributeBase o n env (eval o env) = eval o env := by
  cases o with
  | Call f as ks p =>
    cases as with
    | nil => cases h
    | cons a r => cases f <;> rfl
  | _ => rfl

/-! ### targets -/
mutual
theorem snd_T (c : Cok cA T N sc X k M W) : ∀ (tg : Tg) (e : Expr), chkT N sc tg e = true → (T.hot = false ∨ nmB tg = true) → PG X e (tG X.F tg)
  | .nm i, e, h, _ => by
    rw [chkT.eq_def] at h; dsimp only at h
    split at h
    · simp only [Bool.and_eq_true, decide_eq_true_eq] at h
      obtain ⟨h1, h2⟩ := c.loc _ h.2
      exact sg_nm (by rw [c.hN]; exact c.nd) (by rw [c.hN]; exact h.1) h1 h2
    · cases h
  | .tp ts, e, h, hh => by
    have hh : T.hot = false := hh.resolve_right (by simp [nmB])
    rw [chkT.eq_def] at h; dsimp only at h
    split at h
    · obtain ⟨h1, h2, h3⟩ := snd_Ts c hh ts _ h
      exact sg_tp (c.calm hh) h2 h3 h1
    · cases h
theorem snd_Ts (c : Cok cA T N sc X k M W) (hh : T.hot = false) : ∀ (ts : List Tg) (es : List Expr), chkTs N sc ts es = true → PGs X es (tGs X.F ts) ∧ es.all plain = true ∧ es.length = ts.length
  | [], es, h => by
    rw [chkTs.eq_def] at h; dsimp only at h
    cases es with
    | nil => exact ⟨sg_nil, rfl, rfl⟩
    | cons e es => cases h
  | t :: ts, es, h => by
    rw [chkTs.eq_def] at h; dsimp only at h
    split at h
    · rename_i e es
      simp only [Bool.and_eq_true] at h
      obtain ⟨h1, h2, h3⟩ := snd_Ts c hh ts es h.2
      exact ⟨sg_cons h.1.1 (snd_T c t e h.1.2 (.inl hh)) h1, by simp [h.1.1, h2], by simp [h3]⟩
    · cases h
end
end
end PH

set_option maxHeartbeats 8000000
/-! PH, part L: a text that fits a term does what the term says. -/
namespace PH
open L2 PySem PySem.Spec PyProof.Rows
section
variable {cA : Ca} {T : Tab} {N : List Str}
/-- an expression, as a value and as a test -/
def Snd (cA : Ca) (T : Tab) (N : List Str) (e : E) (sc : Scope) (x : Expr) : Prop := ∀ ⦃X : Cx⦄ ⦃k : Nat⦄ ⦃M : Mo⦄ ⦃W : WX⦄, Cok cA T N sc X k M W → PE X x (tR cA X.F W (evE M e)) ∧ PT X x (tB cA X.F W (tK (evE M e)))
def SndA (cA : Ca) (T : Tab) (N : List Str) (es : Es) (sc : Scope) (xs : List Expr) : Prop := xs.all plain = true ∧ ∀ ⦃X : Cx⦄ ⦃k : Nat⦄ ⦃M : Mo⦄ ⦃W : WX⦄, Cok cA T N sc X k M W → PA X xs (tA cA X.F W (evEs M es)) ∧
  (∀ o pos, xs ≠ [] → PE X (.BoolOp o xs pos) (tR cA X.F W (evB M o es)) ∧ PW X (.BoolOp o xs pos) (tB cA X.F W (tK (evB M o es)))) ∧ ∀ ρ S ds S', evEs M es ρ S = .ok ds S' → ds.length = xs.length
def SndW (cA : Ca) (T : Tab) (N : List Str) (it : W) (sc : Scope) (x : Expr) : Prop := ∀ ⦃X : Cx⦄ ⦃k : Nat⦄ ⦃M : Mo⦄ ⦃W : WX⦄, Cok cA T N sc X k M W → ∀ tg, PI X tg x (tW cA X.F W (evW M it))
/-- a value whose test is its truth -/
theorem snd_plain {e : E} {sc : Scope} {x : Expr} (h : ∀ {X : Cx} {k : Nat} {M : Mo} {W : WX}, Cok cA T N sc X k M W → PE X x (tR cA X.F W (evE M e))) (he : ∀ (env : Env) whole, isTrue x env whole = (do let v ← whole; standAt x.pos; holding [v] (truthy v))) : Snd cA T N e sc x :=
  fun _ _ _ _ c => ⟨h c, st_plain (h c) (he _)⟩
theorem tys_of {sc : Scope} : ∀ {ts : List Ty} {ys : List Expr}, chkTy sc ts ys = true → ∃ l : List (Ty × Pos), l.map (·.1) = ts ∧ ys = l.map (fun t => Expr.Name t.1.nm t.2) ∧ ∀ t ∈ l, t.1.nm ∈ bltNames ∧ glbB sc t.1.nm = true
  | [], ys, h => by
    rw [chkTy.eq_def] at h; dsimp only at h
    cases ys with
    | nil => exact ⟨[], rfl, rfl, fun _ z => nomatch z⟩
    | cons y ys => cases h
  | t :: ts, ys, h => by
    rw [chkTy.eq_def] at h; dsimp only at h
    split at h
    · rename_i n p es
      simp only [Bool.and_eq_true, decide_eq_true_eq] at h
      obtain ⟨⟨⟨rfl, h2⟩, h3⟩, h4⟩ := h
      obtain ⟨l, e1, e2, e3⟩ := tys_of h4
      exact ⟨(t, p) :: l, by simp [e1], by simp [e2], fun q hq => (List.mem_cons.mp hq).elim (fun z => by rw [z]; exact ⟨h2, h3⟩) (e3 q)⟩
    · cases h
theorem evE_lc (M : Mo) (own tg it elt) : evE M (.lc own tg it elt) = lcF own tg (evW M it) (fun _ S => .ok true S) (evE M elt) := by funext ρ S; simp only [evE, lcF]
theorem evE_dcm (M : Mo) (t own tg it kx vx) : evE M (.dcm t own tg it kx vx) = dcmF t own tg (evW M it) (fun _ S => .ok true S) (evE M kx) (evE M vx) := by funext ρ S; simp only [evE, dcmF]
theorem evE_dcmI (M : Mo) (t own tg it c kx vx) : evE M (.dcmI t own tg it c kx vx) = dcmF t own tg (evW M it) (tK (evE M c)) (evE M kx) (evE M vx) := by funext ρ S; simp only [evE, dcmF]; rfl
theorem evE_lcI (M : Mo) (own tg it c elt) : evE M (.lcI own tg it c elt) = lcF own tg (evW M it) (tK (evE M c)) (evE M elt) := by funext ρ S; simp only [evE, lcF]; rfl
/-- a comprehension as a value, and what it wants of its parts -/
theorem hot_of {b : Bool} (h : (!b) = true) : b = false := by cases b <;> first | rfl | cases h
theorem lc_parts {X : Cx} {k : Nat} {M : Mo} {W : WX} {sc scope : Scope} {own : List Nat} {tg : Tg} {t i : Expr} {it : PH.W} {elt : E} {x : Expr} (c : Cok cA T N sc X k M W) (hh : T.hot = false) (hb : blkC N sc scope (ownOf N own) = true) (ho : ∀ j ∈ tg.sl, j ∈ own) (ht : chkT N scope tg t = true) (hi : SndW cA T N it sc i) (he : Snd cA T N elt scope x) :
    BlkOk X.N X.env.scope scope (ownOf N own) ∧ PI X t i (tW cA X.F W (evW M it)) ∧ (∀ (s : Shared) (H : Hp) (C : Addr) (cl : List (Str × Addr)) (fp : List Addr), PG (X.blk s H scope (compEnvC scope cl C X.env) fp) t (tG X.F tg)) ∧
      ∀ (s : Shared) (H : Hp) (C : Addr) (cl : List (Str × Addr)) (fp : List Addr), PE (X.blk s H scope (compEnvC scope cl C X.env) fp) x (tR cA X.F W0 (evE M elt)) :=
  ⟨blkC_cap c hb, hi c t, fun s H C cl fp => snd_T (c.blk hh s H C cl fp) tg t ht (.inl hh), fun s H C cl fp => (he (c.blk hh s H C cl fp)).1⟩
theorem yes_of {cA : Ca} {K : Fg} {σ : L2.St} {H : Hp} {Q : Bool → Hp → Prop} (h : tB cA K W0 (fun _ S => .ok true S) σ H Q) : tYes σ H Q := let ⟨m, ρ, S, rn, rs, hp⟩ := h; hp m H .refl rs
theorem dcm_yes {cA : Ca} {P : Program} {w : World} {A : Around} {k : PySem.W.Frag} {t : Bool} {tg : Tg} {tk tv : TE} {vs : List Nat} {σ : L2.St} {H : Hp} {Q : VK} {V0 : Nv → Sto → Res Wk} {W : WX} {X : Cx} (h : tDx P w A k t (tW cA X.F W V0) (tG X.F tg) (tB cA X.F W0 fun _ S => .ok true S) tk tv vs σ H Q) :
    tDx P w A k t (tW cA X.F W V0) (tG X.F tg) tYes tk tv vs σ H Q := by
  obtain ⟨m1, ρ1, S1, a1, a2, a3⟩ := h
  refine ⟨m1, ρ1, S1, a1, a2, ?_⟩
  split at a3
  · intro m2 H2 J e2 rs2 ok D0 hD0 sys
    obtain ⟨Wi, w1, w2⟩ := a3 m2 H2 J e2 rs2 ok D0 hD0 sys
    refine ⟨Wi, w1, fun i mm H hw => ?_⟩
    rcases w2 i mm H hw with z | ⟨z1, Nx, z2, z3⟩
    · exact .inl z
    · refine .inr ⟨z1, Nx, z2, fun x H' hy => ?_⟩
      obtain ⟨m3, ρ3, S3, d3, b1, b2, b3, b4⟩ := z3 x H' hy
      refine ⟨m3, ρ3, S3, d3, b1, b2, b3, ?_⟩
      split at b4
      · intro σ4 r4 g4
        obtain ⟨t1, t2⟩ := b4 σ4 r4 g4
        exact ⟨t1, yes_of t2⟩
      · exact b4
  · exact a3
  · exact a3
theorem clsB_of {sc : Scope} {X : Cx} {k : Nat} {M : Mo} {W : WX} {n : Str} {c : Nat} (co : Cok cA T N sc X k M W) (h : clsB T sc n c = true) : NameOk cA X n c ∧ (c ∈ T.ids ∨ c = 1001) := by
  unfold clsB at h
  simp only [Bool.and_eq_true, Bool.or_eq_true, decide_eq_true_eq, Bool.not_eq_true', List.any_eq_true] at h
  obtain ⟨⟨h1, h2⟩, h3⟩ := h
  rcases h3 with ⟨hc, q, hq, hn, hi⟩ | ⟨hc, hn⟩
  · obtain ⟨qn, qc, qf⟩ := q
    dsimp only at hn hi
    subst hn hi
    exact ⟨⟨co.glb _ h1, h2, .inl ⟨hc, (co.cls _ _ _ hq).1⟩⟩, .inl (List.mem_map.mpr ⟨_, hq, rfl⟩)⟩
  · subst hn
    exact ⟨⟨co.glb _ h1, h2, .inr ⟨hc, rfl, co.blt _ (by decide +kernel)⟩⟩, .inr hc⟩
theorem clssB_of {sc : Scope} {X : Cx} {k : Nat} {M : Mo} {W : WX} (co : Cok cA T N sc X k M W) : ∀ {cs : List Nat} {ys : List Expr}, clssB T sc cs ys = true → ∃ l : List (Nat × Str × Pos), l.map (·.1) = cs ∧ ys = l.map (fun q => Expr.Name q.2.1 q.2.2) ∧ ∀ q ∈ l, NameOk cA X q.2.1 q.1 ∧ (q.1 ∈ T.ids ∨ q.1 = 1001)
  | [], [], _ => ⟨[], rfl, rfl, fun _ z => nomatch z⟩
  | [], _ :: _, h => by cases h
  | _ :: _, [], h => by cases h
  | c :: cs, y :: ys, h => by
    simp only [clssB, Bool.and_eq_true] at h
    obtain ⟨h1, h2⟩ := h
    split at h1
    · rename_i n p
      obtain ⟨l, e1, e2, e3⟩ := clssB_of co h2
      exact ⟨(c, n, p) :: l, by simp [e1], by simp [e2], fun q hq => (List.mem_cons.mp hq).elim (fun z => by rw [z]; exact clsB_of co h1) (e3 q)⟩
    · cases h1
mutual
theorem sndE : ∀ (e : E) (sc : Scope) (x : Expr), chkE T N e sc x = true → Snd cA T N e sc x
  | .v i, sc, x, h => by
    rw [chkE.eq_def] at h; dsimp only at h
    split at h
    · simp only [Bool.and_eq_true, decide_eq_true_eq] at h
      obtain ⟨⟨h1, h2⟩, h3⟩ := h
      obtain ⟨h4, h5⟩ := noDbg_of h3
      refine snd_plain (fun c => ?_) fun _ _ => rfl
      have e : ∀ M : Mo, evE M (.v i) = fun ρ S => match ρ[i]? with | some (some d) => .ok d S | _ => .stuck := fun M => by funext ρ S; first | (rw [evE]; done) | (rw [evE]; cases ρ[i]? with | none => rfl | some o => cases o <;> rfl)
      rw [e]
      exact se_var (by rw [c.hN]; exact h1) (c.vis _ h2) h4 h5
    · cases h
  | .k v, sc, x, h => by
    rw [chkE.eq_def] at h; dsimp only at h
    unfold chkK at h
    have e : ∀ (M : Mo) v, evE M (.k v) = fun _ S => ret1 v S := fun M v => by funext ρ S; simp only [evE]
    split at h
    · split at h
      · exact snd_plain (fun c => by rw [e]; exact se_dat pe_non fun H => .non) fun _ _ => rfl
      · cases h
    · split at h
      · have := of_decide_eq_true h
        subst this
        exact snd_plain (fun c => by rw [e]; exact se_dat pe_bl fun H => .bl _) fun _ _ => rfl
      · cases h
    · split at h
      · have := of_decide_eq_true h
        subst this
        exact snd_plain (fun c => by rw [e]; exact se_dat pe_int fun H => .int _) fun _ _ => rfl
      · cases h
    · split at h
      · simp only [Bool.and_eq_true, decide_eq_true_eq, List.all_eq_true] at h
        obtain ⟨⟨rfl, h2⟩, h3⟩ := h
        exact snd_plain (fun c => by rw [e]; exact se_dat pe_str fun H => .str _ ⟨h2, h3⟩) fun _ _ => rfl
      · cases h
    · cases h
  | .g i, sc, x, h => by
    rw [chkE.eq_def] at h; dsimp only at h
    split at h
    · simp only [Bool.and_eq_true, decide_eq_true_eq] at h
      obtain ⟨⟨h1, h2⟩, h3⟩ := h
      refine snd_plain (fun {X k M W} c => ?_) fun _ _ => rfl
      obtain ⟨y, u, v, g1, g2, g3, g4⟩ := c.gls _ _ h1
      have e : evE M (.g i) = fun _ S => ret1 y S := by funext ρ S; simp only [evE, g1]
      rw [e]
      exact se_dat (pe_glob (c.glb _ h2) g2 g3 (noDbg_of h3).1) g4
    · cases h
  | .gd t n e, sc, x, h => by
    rw [chkE.eq_def] at h; dsimp only at h
    split at h
    · simp only [Bool.and_eq_true, decide_eq_true_eq] at h
      obtain ⟨⟨⟨⟨h1, h2⟩, h3⟩, h4⟩, h5⟩ := h
      have q := sndE e sc _ h5
      refine snd_plain (fun {X k M W} c => ?_) fun _ _ => rfl
      obtain ⟨p, g1, g2⟩ := c.gds _ _ (List.mem_of_getElem? h2)
      have e' : evE M (.gd t n e) = fun ρ S => (evE M e ρ S).bind fun d S => match d with
        | .p (.str z) => (match t.lookup z with
          | some x => ret1 x S
          | none => .stuck)
        | _ => .stuck := by funext ρ S; rw [evE] <;> rfl
      rw [e']
      exact se_gd h1 (pe_glob (c.glb _ h3) g1 (show RelV (.ref p) (.ref p) from rfl) (noDbg_of h4).1) g2 (q c).1
    · cases h
  | .tp es, sc, x, h => by
    rw [chkE.eq_def] at h; dsimp only at h
    split at h
    · simp only [Bool.and_eq_true, decide_eq_true_eq] at h
      obtain ⟨_, q⟩ := sndEs es sc _ h.2
      refine snd_plain (fun {X k M W} c => ?_) fun _ _ => rfl
      obtain ⟨q1, _, q3⟩ := q c
      have e : evE M (.tp es) = fun ρ S => (evEs M es ρ S).bind fun ds S => .ok (mkT ds) S := by funext ρ S; simp only [evE]
      rw [e]
      exact se_tup h.1 q1 q3
    · cases h
  | .ls es, sc, x, h => by
    rw [chkE.eq_def] at h; dsimp only at h
    split at h
    · simp only [Bool.and_eq_true, decide_eq_true_eq] at h
      obtain ⟨_, q⟩ := sndEs es sc _ h.2
      refine snd_plain (fun {X k M W} c => ?_) fun _ _ => rfl
      obtain ⟨q1, _, q3⟩ := q c
      have e : evE M (.ls es) = fun ρ S => (evEs M es ρ S).bind fun ds S => new (mkL ds) S := by funext ρ S; simp only [evE]
      rw [e]
      exact se_lst h.1 q1 q3
    · cases h
  | .dead, sc, x, h => by
    intro X k M W c
    have e : evE M .dead = fun _ _ => .stuck := by funext ρ S; simp only [evE]
    rw [e]
    exact ⟨⟨fun pins s σ H Q I ⟨m, ρ, S, rn, rs, h⟩ => h.elim⟩, ⟨fun pins s σ H Q I ⟨m, ρ, S, rn, rs, h⟩ => h.elim⟩⟩
  | .d0, sc, x, h => by
    rw [chkE.eq_def] at h; dsimp only at h
    split at h
    · refine snd_plain (fun {X k M W} c => ?_) fun _ _ => rfl
      have e : evE M .d0 = fun _ S => new (.dc []) S := by funext ρ S; simp only [evE]
      rw [e]
      exact pe_dnewK.imp fun σ H Q ⟨m, ρ, S, rn, rs, hp⟩ p hn => hp _ _ _ (.new hn) (rs.new hn (.dc upd_same .nil) rfl) (.ref (by rw [← rs.len]; simp))
    · cases h
  | .d0t, sc, x, h => by
    rw [chkE.eq_def] at h; dsimp only at h
    split at h
    · refine snd_plain (fun {X k M W} c => ?_) fun _ _ => rfl
      have e : evE M .d0t = fun _ S => new (.dt []) S := by funext ρ S; simp only [evE]
      rw [e]
      exact se_d0t
    · cases h
  | .dix a i, sc, x, h => by
    rw [chkE.eq_def] at h; dsimp only at h
    split at h
    · simp only [Bool.and_eq_true] at h
      obtain ⟨⟨h1, h2⟩, h3⟩ := h
      have qa := sndE a sc _ h2
      have qi := sndE i sc _ h3
      refine snd_plain (fun {X k M W} c => ?_) fun _ _ => rfl
      have e : evE M (.dix a i) = fun ρ S => (evE M a ρ S).bind fun x S => (evE M i ρ S).bind fun y S => dIx x y S := by funext ρ S; simp only [evE]
      rw [e]
      exact se_dix (by have := c.un; omega) h1 (qa c).1 (qi c).1
    · cases h
  | .din neg i a, sc, x, h => by
    rw [chkE.eq_def] at h; dsimp only at h
    split at h
    · simp only [Bool.and_eq_true, decide_eq_true_eq] at h
      obtain ⟨⟨⟨rfl, h1⟩, h2⟩, h3⟩ := h
      have qi := sndE i sc _ h2
      have qa := sndE a sc _ h3
      intro X k M W c
      have e : evE M (.din neg i a) = fun ρ S => (evE M i ρ S).bind fun y S => (evE M a ρ S).bind fun x S => dIn neg y x S := by funext ρ S; simp only [evE]
      have hu : X.A.units + 64 < cLine := by have := c.un; omega
      rw [e]
      exact ⟨se_din hu (behind_of h1) (qi c).1 (qa c).1, st_din hu (behind_of h1) (qi c).1 (qa c).1⟩
    · cases h
  | .dg1 a d, sc, x, h => by
    rw [chkE.eq_def] at h; dsimp only at h
    split at h
    · simp only [Bool.and_eq_true, decide_eq_true_eq] at h
      obtain ⟨⟨⟨⟨⟨rfl, h1⟩, h2⟩, h3⟩, h4⟩, h5⟩ := h
      have qa := sndE a sc _ h4
      have qd := sndE d sc _ h5
      refine snd_plain (fun {X k M W} c => ?_) fun _ _ => rfl
      have e : evE M (.dg1 a d) = dg1F (evE M a) (evE M d) := by funext ρ S; simp only [evE, dg1F]
      rw [e]
      exact se_dg1 (by have := c.un; omega) (attr_base h1) h2 h3 (qa c).1 (qd c).1
    · cases h
  | .dg2 a d z, sc, x, h => by
    rw [chkE.eq_def] at h; dsimp only at h
    split at h
    · simp only [Bool.and_eq_true, decide_eq_true_eq] at h
      obtain ⟨⟨⟨⟨⟨⟨⟨rfl, h1⟩, h2⟩, h3⟩, h3'⟩, h4⟩, h5⟩, h6⟩ := h
      have qa := sndE a sc _ h4
      have qd := sndE d sc _ h5
      have qz := sndE z sc _ h6
      refine snd_plain (fun {X k M W} c => ?_) fun _ _ => rfl
      have e : evE M (.dg2 a d z) = dg2F (evE M a) (evE M d) (evE M z) := by funext ρ S; simp only [evE, dg2F]
      rw [e]
      exact se_dg2 (by have := c.un; omega) (attr_base h1) h2 h3 h3' (qa c).1 (qd c).1 (qz c).1
    · cases h
  | .bin op a b, sc, x, h => by
    rw [chkE.eq_def] at h; dsimp only at h
    split at h
    · simp only [Bool.and_eq_true, decide_eq_true_eq] at h
      obtain ⟨⟨rfl, h1⟩, h2⟩ := h
      have qa := sndE a sc _ h1
      have qb := sndE b sc _ h2
      refine snd_plain (fun {X k M W} c => ?_) fun _ _ => rfl
      have e : evE M (.bin op a b) = fun ρ S => (evE M a ρ S).bind fun x S => (evE M b ρ S).bind fun y S => binI op x y S := by funext ρ S; simp only [evE]
      rw [e]
      exact se_bin (qa c).1 (qb c).1
    · cases h
  | .neg a, sc, x, h => by
    rw [chkE.eq_def] at h; dsimp only at h
    split at h
    · have qa := sndE a sc _ h
      refine snd_plain (fun {X k M W} c => ?_) fun _ _ => rfl
      have e : evE M (.neg a) = fun ρ S => (evE M a ρ S).bind negI := by funext ρ S; simp only [evE]
      rw [e]
      exact se_neg (qa c).1
    · cases h
  | .no a, sc, x, h => by
    rw [chkE.eq_def] at h; dsimp only at h
    split at h
    · have qa := sndE a sc _ h
      intro X k M W c
      have e : evE M (.no a) = fun ρ S => (evE M a ρ S).bind fun x S => (truI x S).bind fun k S => ret1 (.bl (!k)) S := by funext ρ S; simp only [evE]
      rw [e]
      exact ⟨se_not (qa c).1, st_not (qa c).2⟩
    · cases h
  | .cmp op a b, sc, x, h => by
    rw [chkE.eq_def] at h; dsimp only at h
    split at h
    · simp only [Bool.and_eq_true, decide_eq_true_eq] at h
      obtain ⟨⟨⟨rfl, h0⟩, h1⟩, h2⟩ := h
      have qa := sndE a sc _ h1
      have qb := sndE b sc _ h2
      intro X k M W c
      have e : evE M (.cmp op a b) = fun ρ S => (evE M a ρ S).bind fun x S => (evE M b ρ S).bind fun y S => cmpI op x y S := by funext ρ S; simp only [evE]
      rw [e]
      exact ⟨se_cmp c.u65 (behind_of h0) (qa c).1 (qb c).1, st_cmp c.u65 (behind_of h0) (qa c).1 (qb c).1⟩
    · cases h
  | .chn o1 o2 a b d, sc, x, h => by
    rw [chkE.eq_def] at h; dsimp only at h
    split at h
    · simp only [Bool.and_eq_true, decide_eq_true_eq] at h
      obtain ⟨⟨⟨⟨⟨⟨rfl, rfl⟩, _⟩, h0⟩, h1⟩, h2⟩, h3⟩ := h
      have qa := sndE a sc _ h1
      have qb := sndE b sc _ h2
      have qd := sndE d sc _ h3
      intro X k M W c
      have e : evE M (.chn o1 o2 a b d) = chnF o1 o2 (evE M a) (evE M b) (evE M d) := by funext ρ S; simp only [evE, chnF]
      rw [e]
      exact ⟨se_chn c.u65 (last_of h0) (qa c).1 (qb c).1 (qd c).1, st_chn c.u65 (last_of h0) (qa c).1 (qb c).1 (qd c).1⟩
    · cases h
  | .bo o es, sc, x, h => by
    rw [chkE.eq_def] at h; dsimp only at h
    split at h
    · simp only [Bool.and_eq_true, decide_eq_true_eq] at h
      obtain ⟨rfl, h1⟩ := h
      obtain ⟨_, q⟩ := sndEs es sc _ h1
      intro X k M W c
      have e : evE M (.bo o es) = evB M o es := by funext ρ S; simp only [evE]
      rw [e]
      obtain ⟨_, q2, _⟩ := q c
      obtain ⟨q3, q4⟩ := q2 o _ (by simp)
      exact ⟨q3, q4.pt⟩
    · cases h
  | .ife d a b, sc, x, h => by
    rw [chkE.eq_def] at h; dsimp only at h
    split at h
    · simp only [Bool.and_eq_true] at h
      have qd := sndE d sc _ h.1.1
      have qa := sndE a sc _ h.1.2
      have qb := sndE b sc _ h.2
      intro X k M W c
      have e : evE M (.ife d a b) = ifeF (evE M d) (evE M a) (evE M b) := by funext ρ S; simp only [evE, ifeF]
      rw [e]
      exact ⟨se_ife (qd c).2 (qa c).1 (qb c).1, st_ife (qd c).2 (qa c).2 (qb c).2⟩
    · cases h
  | .ix a i, sc, x, h => by
    rw [chkE.eq_def] at h; dsimp only at h
    split at h
    · simp only [Bool.and_eq_true] at h
      have qa := sndE a sc _ h.1.2
      have qb := sndE i sc _ h.2
      refine snd_plain (fun {X k M W} c => ?_) fun _ _ => rfl
      have e : evE M (.ix a i) = fun ρ S => (evE M a ρ S).bind fun x S => (evE M i ρ S).bind fun y S => ixI x y S := by funext ρ S; simp only [evE]
      rw [e]
      exact se_ix h.1.1 (qa c).1 (qb c).1
    · cases h
  | .slN a, sc, x, h => by
    rw [chkE.eq_def] at h; dsimp only at h
    split at h
    · have qa := sndE a sc _ h
      refine snd_plain (fun {X k M W} c => ?_) fun _ _ => rfl
      have e : evE M (.slN a) = fun ρ S => (evE M a ρ S).bind fun x S => slI x none none S := by funext ρ S; simp only [evE]
      rw [e]
      exact se_slN (qa c).1
    · cases h
  | .slL a b, sc, x, h => by
    rw [chkE.eq_def] at h; dsimp only at h
    split at h
    · simp only [Bool.and_eq_true] at h
      have qa := sndE a sc _ h.1
      have qb := sndE b sc _ h.2
      refine snd_plain (fun {X k M W} c => ?_) fun _ _ => rfl
      have e : evE M (.slL a b) = fun ρ S => (evE M a ρ S).bind fun x S => (evE M b ρ S).bind fun l S => asInt l S fun i => slI x (some i) none S := by funext ρ S; simp only [evE]
      rw [e]
      exact se_slL (qa c).1 (qb c).1
    · cases h
  | .slH a b, sc, x, h => by
    rw [chkE.eq_def] at h; dsimp only at h
    split at h
    · simp only [Bool.and_eq_true] at h
      have qa := sndE a sc _ h.1
      have qb := sndE b sc _ h.2
      refine snd_plain (fun {X k M W} c => ?_) fun _ _ => rfl
      have e : evE M (.slH a b) = fun ρ S => (evE M a ρ S).bind fun x S => (evE M b ρ S).bind fun l S => asInt l S fun i => slI x none (some i) S := by funext ρ S; simp only [evE]
      rw [e]
      exact se_slH (qa c).1 (qb c).1
    · cases h
  | .sl a b d, sc, x, h => by
    rw [chkE.eq_def] at h; dsimp only at h
    split at h
    · simp only [Bool.and_eq_true] at h
      have qa := sndE a sc _ h.1.1
      have qb := sndE b sc _ h.1.2
      have qd := sndE d sc _ h.2
      refine snd_plain (fun {X k M W} c => ?_) fun _ _ => rfl
      have e : evE M (.sl a b d) = fun ρ S => (evE M a ρ S).bind fun x S => (evE M b ρ S).bind fun l S => asInt l S fun i => (evE M d ρ S).bind fun l S => asInt l S fun j => slI x (some i) (some j) S := by funext ρ S; simp only [evE]
      rw [e]
      exact se_sl (qa c).1 (qb c).1 (qd c).1
    · cases h
  | .fld i f, sc, x, h => by
    rw [chkE.eq_def] at h; dsimp only at h
    split at h
    · simp only [Bool.and_eq_true, decide_eq_true_eq] at h
      obtain ⟨⟨⟨⟨⟨h1, h2⟩, h3⟩, rfl⟩, h4⟩, h5⟩ := h
      refine snd_plain (fun {X k M W} c => ?_) fun _ _ => rfl
      obtain ⟨a, d, cc, g1, g2, g3⟩ := c.hotX h5
      exact se_fld g1 g2 h4 (by rw [c.hN]; exact h1) (c.vis _ h2) (noDbg_of h3).1 (noDbg_of h3).2 g3
    · cases h
  | .isx i cs, sc, x, h => by
    rw [chkE.eq_def] at h; dsimp only at h
    split at h
    · simp only [Bool.and_eq_true, decide_eq_true_eq] at h
      obtain ⟨⟨⟨⟨⟨⟨rfl, h0⟩, h1⟩, h2⟩, h3⟩, h5⟩, h6⟩ := h
      refine snd_plain (fun {X k M W} c => ?_) fun _ _ => rfl
      obtain ⟨a, d, cc, g1, g2, g3⟩ := c.hotX h5
      split at h6
      · split at h6
        · obtain ⟨n1, n2⟩ := clsB_of c h6
          exact se_isx1 g1 g2 n2 n1 (c.glb _ h0) (c.blt _ (by decide +kernel)) (by rw [c.hN]; exact h1) (c.vis _ h2) (noDbg_of h3).1 (noDbg_of h3).2 g3
        · cases h6
      · simp only [Bool.and_eq_true, decide_eq_true_eq] at h6
        obtain ⟨l, e1, e2, e3⟩ := clssB_of c h6.2
        subst e1 e2
        exact se_isxT g1 g2 (fun q hq => (e3 q hq).2) (fun q hq => (e3 q hq).1) (by have := h6.1; rwa [List.length_map] at this) (c.glb _ h0) (c.blt _ (by decide +kernel)) (by rw [c.hN]; exact h1) (c.vis _ h2) (noDbg_of h3).1 (noDbg_of h3).2 g3
      · cases h6
    · cases h
  | .at cn a f, sc, x, h => by
    rw [chkE.eq_def] at h; dsimp only at h
    split at h
    · simp only [Bool.and_eq_true, decide_eq_true_eq] at h
      obtain ⟨⟨⟨rfl, h1⟩, h2⟩, h3⟩ := h
      obtain ⟨fl, ms, hq, hf⟩ := ocB_of h1
      have qa := sndE a sc _ h3
      refine snd_plain (fun {X k M W} c => ?_) fun _ _ => rfl
      obtain ⟨C, o, _⟩ := c.ocs _ _ _ hq
      have e : evE M (.at cn a f) = fun ρ S => (evE M a ρ S).bind fun x S => fldO cn f x S := by funext ρ S; simp only [evE]
      rw [e]
      exact se_at o (by simpa using hf) (attr_base h2) (qa c).1
    · cases h
  | .mk cn fi es, sc, x, h => by
    rw [chkE.eq_def] at h; dsimp only at h
    split at h
    · rename_i xs _
      simp only [Bool.and_eq_true, decide_eq_true_eq] at h
      obtain ⟨⟨⟨⟨⟨rfl, h1⟩, h2⟩, h3⟩, h4⟩, hh⟩ := h
      have hh := hot_of hh
      obtain ⟨fl, ms, hq, hf⟩ := ocB_of h3
      obtain ⟨p, q⟩ := sndEs es sc _ h4
      refine snd_plain (fun {X k M W} c => ?_) fun _ _ => rfl
      obtain ⟨C, o, r⟩ := c.ocs _ _ _ hq
      obtain ⟨fa, fd, ps, g0, F, g3, g4, g5⟩ := r _ _ (by simpa using hf)
      obtain ⟨q1, _, _⟩ := q c
      have e : evE M (.mk cn fi es) = mkF cn (M.call fi) (evEs M es) := by funext ρ S; simp only [evE, mkF]
      rw [e]
      cases xs with
      | nil =>
        cases es with
        | nil =>
          have e2 : evEs M .nil = fun _ S => .ok [] S := by funext ρ S; simp only [evEs]
          rw [e2]
          exact se_mk0 o (g5 rfl) F (c.room1 hh) (c.glb _ h1) g3 c.tk g4 (noDbg_of h2).1
        | cons e es => rw [chkEs.eq_def] at h4; cases h4
      | cons y ys => exact se_mk o (g5 rfl) F (c.room1 hh) (c.glb _ h1) g3 c.tk g4 (noDbg_of h2).1 p q1
    · cases h
  | .mcl cn mn fi a es, sc, x, h => by
    rw [chkE.eq_def] at h; dsimp only at h
    split at h
    · rename_i xs _
      simp only [Bool.and_eq_true, decide_eq_true_eq] at h
      obtain ⟨⟨⟨⟨⟨⟨⟨rfl, h1⟩, h2⟩, h3⟩, h4⟩, h5⟩, h6⟩, hh⟩ := h
      have hh := hot_of hh
      obtain ⟨fl, ms, hq, hf⟩ := ocB_of h4
      have qa := sndE a sc _ h5
      obtain ⟨p, q⟩ := sndEs es sc _ h6
      refine snd_plain (fun {X k M W} c => ?_) fun _ _ => rfl
      obtain ⟨C, o, r⟩ := c.ocs _ _ _ hq
      obtain ⟨fa, fd, ps, g0, F, g3, g4, g5⟩ := r _ _ (by simpa using hf)
      obtain ⟨q1, _, _⟩ := q c
      have e : evE M (.mcl cn mn fi a es) = mclF cn mn (M.call fi) (evE M a) (evEs M es) := by funext ρ S; simp only [evE, mclF]
      rw [e]
      cases xs with
      | nil =>
        cases es with
        | nil =>
          have e2 : evEs M .nil = fun _ S => .ok [] S := by funext ρ S; simp only [evEs]
          rw [e2]
          exact se_mcl0 o g0 F (c.room hh) g3 c.tk g4 (attr_base h1) h2 (qa c).1
        | cons e es => rw [chkEs.eq_def] at h6; cases h6
      | cons y ys => exact se_mcl o g0 F (c.room hh) g3 c.tk g4 (attr_base h1) h2 p h3 (qa c).1 q1
    · cases h
  | .call f es, sc, x, h => by
    rw [chkE.eq_def] at h; dsimp only at h
    split at h
    · rename_i xs _
      simp only [Bool.and_eq_true, decide_eq_true_eq] at h
      obtain ⟨⟨⟨⟨h1, h2⟩, h3⟩, h4⟩, hh⟩ := h
      have hh := hot_of hh
      obtain ⟨p, q⟩ := sndEs es sc _ h4
      refine snd_plain (fun {X k M W} c => ?_) fun _ _ => rfl
      obtain ⟨fa, fd, ps, F, g1, g2, g3, g4⟩ := c.fns _ _ h1 h3
      obtain ⟨q1, _, _⟩ := q c
      have e : evE M (.call f es) = fun ρ S => (evEs M es ρ S).bind fun ds S => M.call f ds S := by funext ρ S; simp only [evE]
      rw [e]
      cases xs with
      | nil =>
        cases es with
        | nil =>
          have e2 : (fun ρ S => (evEs M .nil ρ S).bind fun ds S => M.call f ds S) = fun (_ : Nv) (S : Sto) => M.call f [] S := by funext ρ S; simp only [evEs, Res.bind]
          rw [e2]
          exact se_call0 F (c.room hh) (c.glb _ h2) g1 g2 g3 c.tk g4 (noDbg_of h3).1
        | cons e es => rw [chkEs.eq_def] at h4; cases h4
      | cons y ys => exact se_call F (c.room hh) (c.glb _ h2) g1 g2 g3 c.tk g4 (noDbg_of h3).1 p q1
    · cases h
  | .blt b es, sc, x, h => by
    rw [chkE.eq_def] at h; dsimp only at h
    split at h
    · simp only [Bool.and_eq_true, decide_eq_true_eq] at h
      obtain ⟨⟨⟨⟨rfl, h2⟩, h3⟩, h4⟩, hh⟩ := h
      have hh := hot_of hh
      obtain ⟨p, q⟩ := sndEs es sc _ h4
      refine snd_plain (fun {X k M W} c => ?_) fun _ _ => rfl
      obtain ⟨q1, _, _⟩ := q c
      have e : evE M (.blt b es) = fun ρ S => (evEs M es ρ S).bind fun ds S => bltI b ds S := by funext ρ S; simp only [evE]
      rw [e]
      exact se_blt (c.calm hh) c.u100 (c.glb _ h3) (c.blt _ h2) p q1
    · cases h
  | .isi a t, sc, x, h => by
    rw [chkE.eq_def] at h; dsimp only at h
    split at h
    · simp only [Bool.and_eq_true, decide_eq_true_eq] at h
      obtain ⟨⟨⟨⟨⟨⟨rfl, rfl⟩, h1⟩, h2⟩, h3⟩, h4⟩, h5⟩ := h
      have qa := sndE a sc _ h5
      refine snd_plain (fun {X k M W} c => ?_) fun _ _ => rfl
      have e : evE M (.isi a t) = fun ρ S => (evE M a ρ S).bind fun x S => if known x S then ret1 (.bl (isTy x S t)) S else .stuck := by funext ρ S; simp only [evE]
      rw [e]
      exact se_isi h4 (c.glb _ h2) (c.blt _ (by decide +kernel)) (c.glb _ h3) (c.blt _ h1) (qa c).1
    · cases h
  | .isT a ts, sc, x, h => by
    rw [chkE.eq_def] at h; dsimp only at h
    split at h
    · simp only [Bool.and_eq_true, decide_eq_true_eq] at h
      obtain ⟨⟨⟨⟨⟨rfl, h1⟩, h2⟩, h3⟩, h4⟩, h5⟩ := h
      have qa := sndE a sc _ h5
      obtain ⟨l, rfl, rfl, e3⟩ := tys_of h4
      refine snd_plain (fun {X k M W} c => ?_) fun _ _ => rfl
      have e : evE M (.isT a (l.map (·.1))) = fun ρ S => (evE M a ρ S).bind fun x S => if known x S then ret1 (.bl ((l.map (·.1)).any (isTy x S))) S else .stuck := by funext ρ S; simp only [evE]
      rw [e]
      exact se_isT (by simpa using h3) h2 (c.glb _ h1) (c.blt _ (by decide +kernel)) (fun t ht => ⟨c.glb _ (e3 t ht).2, c.blt _ (e3 t ht).1⟩) (qa c).1
    · cases h
  | .mth mt a es, sc, x, h => by
    rw [chkE.eq_def] at h; dsimp only at h
    split at h
    · rename_i xs _
      simp only [Bool.and_eq_true, decide_eq_true_eq] at h
      obtain ⟨⟨⟨⟨⟨rfl, h1⟩, h2⟩, h3⟩, h4⟩, h5⟩ := h
      have qa := sndE a sc _ h4
      obtain ⟨p, q⟩ := sndEs es sc _ h5
      refine snd_plain (fun {X k M W} c => ?_) fun _ _ => rfl
      obtain ⟨q1, _, _⟩ := q c
      have e : evE M (.mth mt a es) = mthF mt (evE M a) (evEs M es) := by funext ρ S; simp only [evE, mthF]
      rw [e]
      cases xs with
      | nil =>
        cases es with
        | nil =>
          have e2 : evEs M .nil = fun _ S => .ok [] S := by funext ρ S; simp only [evEs]
          rw [e2]
          exact se_mth0 (attr_base h1) h2 (qa c).1
        | cons e es => rw [chkEs.eq_def] at h5; cases h5
      | cons y ys => exact se_mth (attr_base h1) h2 p h3 (qa c).1 q1
    · cases h
  | .dcm t own tg it kx vx, sc, x, h => by
    rw [chkE.eq_def] at h; dsimp only at h
    split at h
    · simp only [Bool.and_eq_true, decide_eq_true_eq] at h
      obtain ⟨⟨⟨⟨⟨⟨⟨⟨rfl, h0⟩, h1⟩, h2⟩, h3⟩, h4⟩, h5⟩, h6⟩, hh⟩ := h
      have hh := hot_of hh
      have qi := sndW it sc _ h4
      have qk := sndE kx _ _ h5
      have qv := sndE vx _ _ h6
      refine snd_plain (fun {X k M W} c => ?_) fun _ _ => rfl
      obtain ⟨p1, p2, p3, p4⟩ := lc_parts c hh h1 h2 h3 qi qk
      obtain ⟨_, _, _, p5⟩ := lc_parts c hh h1 h2 h3 qi qv
      rw [evE_dcm]
      refine (pe_dcm (t := t) (tt := tYes) (c.calm hh) (by rw [c.hN]; exact c.nd) p2 p1 p3 (fun _ _ _ _ _ => pts_nil) p4 p5 (fold_of h0)).imp fun σ H Q ⟨m, ρ, S, rn, rs, hp⟩ => ?_
      rw [ownOf_snd]
      exact dcm_yes (dcm_of (X := X) (by have := c.un; omega) h2 rn rs hp)
    · cases h
  | .dcmI t own tg it d kx vx, sc, x, h => by
    rw [chkE.eq_def] at h; dsimp only at h
    split at h
    · simp only [Bool.and_eq_true, decide_eq_true_eq] at h
      obtain ⟨⟨⟨⟨⟨⟨⟨⟨⟨rfl, h0⟩, h1⟩, h2⟩, h3⟩, h4⟩, h7⟩, h5⟩, h6⟩, hh⟩ := h
      have hh := hot_of hh
      have qi := sndW it sc _ h4
      have qk := sndE kx _ _ h5
      have qv := sndE vx _ _ h6
      have qd := sndE d _ _ h7
      refine snd_plain (fun {X k M W} c => ?_) fun _ _ => rfl
      obtain ⟨p1, p2, p3, p4⟩ := lc_parts c hh h1 h2 h3 qi qk
      obtain ⟨_, _, _, p5⟩ := lc_parts c hh h1 h2 h3 qi qv
      rw [evE_dcmI]
      refine (pe_dcm (t := t) (tt := tB cA X.F W0 (tK (evE M d))) (c.calm hh) (by rw [c.hN]; exact c.nd) p2 p1 p3 (fun s H C cl fp => pts_one (qd (c.blk hh s H C cl fp)).2) p4 p5 (fold_of h0)).imp fun σ H Q ⟨m, ρ, S, rn, rs, hp⟩ => ?_
      rw [ownOf_snd]
      exact dcm_of (X := X) (by have := c.un; omega) h2 rn rs hp
    · cases h
  | .lc own tg it elt, sc, x, h => by
    rw [chkE.eq_def] at h; dsimp only at h
    split at h
    · simp only [Bool.and_eq_true, decide_eq_true_eq] at h
      obtain ⟨⟨⟨⟨⟨⟨⟨rfl, h0⟩, h1⟩, h2⟩, h3⟩, h4⟩, h5⟩, hh⟩ := h
      have hh := hot_of hh
      have qi := sndW it sc _ h4
      have qe := sndE elt _ _ h5
      refine snd_plain (fun {X k M W} c => ?_) fun _ _ => rfl
      obtain ⟨p1, p2, p3, p4⟩ := lc_parts c hh h1 h2 h3 qi qe
      rw [evE_lc]
      refine (pe_lc (tt := tYes) (c.calm hh) (by rw [c.hN]; exact c.nd) p2 p1 p3 (fun _ _ _ _ _ => pts_nil) p4 (fold_of h0)).imp fun σ H Q ⟨m, ρ, S, rn, rs, hp⟩ => ?_
      rw [ownOf_snd]
      have := lc_of (X := X) h2 rn rs hp
      obtain ⟨m1, ρ1, S1, a1, a2, a3⟩ := this
      refine ⟨m1, ρ1, S1, a1, a2, ?_⟩
      split at a3
      · intro m2 H2 J e2 rs2 ok D0 hD0
        obtain ⟨Wi, w1, w2⟩ := a3 m2 H2 J e2 rs2 ok D0 hD0
        refine ⟨Wi, w1, fun i mm H hw => ?_⟩
        rcases w2 i mm H hw with z | ⟨z1, Nx, z2, z3⟩
        · exact .inl z
        · refine .inr ⟨z1, Nx, z2, fun x H' hy => ?_⟩
          obtain ⟨m3, ρ3, S3, d3, b1, b2, b3, b4⟩ := z3 x H' hy
          refine ⟨m3, ρ3, S3, d3, b1, b2, b3, ?_⟩
          split at b4
          · intro σ4 r4 g4
            obtain ⟨t1, t2⟩ := b4 σ4 r4 g4
            exact ⟨t1, yes_of t2⟩
          · exact b4
      · exact a3
      · exact a3
    · cases h
  | .lcI own tg it d elt, sc, x, h => by
    rw [chkE.eq_def] at h; dsimp only at h
    split at h
    · simp only [Bool.and_eq_true, decide_eq_true_eq] at h
      obtain ⟨⟨⟨⟨⟨⟨⟨⟨rfl, h0⟩, h1⟩, h2⟩, h3⟩, h4⟩, h6⟩, h5⟩, hh⟩ := h
      have hh := hot_of hh
      have qi := sndW it sc _ h4
      have qe := sndE elt _ _ h5
      have qd := sndE d _ _ h6
      refine snd_plain (fun {X k M W} c => ?_) fun _ _ => rfl
      obtain ⟨p1, p2, p3, p4⟩ := lc_parts c hh h1 h2 h3 qi qe
      rw [evE_lcI]
      refine (pe_lc (tt := tB cA X.F W0 (tK (evE M d))) (c.calm hh) (by rw [c.hN]; exact c.nd) p2 p1 p3 (fun s H C cl fp => pts_one (qd (c.blk hh s H C cl fp)).2) p4 (fold_of h0)).imp fun σ H Q ⟨m, ρ, S, rn, rs, hp⟩ => ?_
      rw [ownOf_snd]
      exact lc_of (X := X) h2 rn rs hp
    · cases h
theorem sndEs : ∀ (es : Es) (sc : Scope) (xs : List Expr), chkEs T N es sc xs = true → SndA cA T N es sc xs
  | .nil, sc, xs, h => by
    rw [chkEs.eq_def] at h; dsimp only at h
    cases xs with
    | nil =>
      refine ⟨rfl, fun X k M W c => ⟨?_, fun o pos h => absurd rfl h, fun ρ S ds S' h => by simp only [evEs] at h; cases h; rfl⟩⟩
      have e : evEs M .nil = fun _ S => .ok [] S := by funext ρ S; simp only [evEs]
      rw [e]
      exact sa_nil
    | cons x xs => cases h
  | .cons e es, sc, xs, h => by
    rw [chkEs.eq_def] at h; dsimp only at h
    split at h
    · rename_i x xs
      simp only [Bool.and_eq_true] at h
      have q := sndE e sc x h.1.2
      obtain ⟨p, r⟩ := sndEs es sc xs h.2
      refine ⟨by simp [h.1.1, p], fun X k M W c => ?_⟩
      obtain ⟨r1, r2, r3⟩ := r c
      obtain ⟨q1, q2⟩ := q c
      refine ⟨?_, fun o pos _ => ?_, fun ρ S ds S' h => ?_⟩
      · have e1 : evEs M (.cons e es) = fun ρ S => (evE M e ρ S).bind fun d S => (evEs M es ρ S).bind fun ds S => .ok (d :: ds) S := by funext ρ S; simp only [evEs]
        rw [e1]
        exact sa_cons h.1.1 q1 r1
      · cases es with
        | nil =>
          cases xs with
          | nil =>
            have e1 : evB M o (.cons e .nil) = evE M e := by funext ρ S; simp only [evB]
            rw [e1]
            exact ⟨se_bo_one q1, sw_bo_one q2⟩
          | cons y ys => have := h.2; rw [chkEs.eq_def] at this; cases this
        | cons e2 es =>
          cases xs with
          | nil => have := h.2; rw [chkEs.eq_def] at this; cases this
          | cons y ys =>
            have e1 : evB M o (.cons e (.cons e2 es)) = boF o (evE M e) (evB M o (.cons e2 es)) := by
              funext ρ S
              simp only [evB, boF] <;> congr 1
            rw [e1]
            obtain ⟨r4, r5⟩ := r2 o pos (by simp)
            exact ⟨se_bo_cons q1 r4, sw_bo_cons q2 r5⟩
      · simp only [evEs] at h
        obtain ⟨d, S1, _, h⟩ := Res.bind_ok h
        obtain ⟨ds', S2, h2, h⟩ := Res.bind_ok h
        cases h
        simp [r3 _ _ _ _ h2]
    · cases h
theorem sndW : ∀ (it : PH.W) (sc : Scope) (x : Expr), chkW T N it sc x = true → SndW cA T N it sc x
  | .of e, sc, x, h => by
    rw [chkW.eq_def] at h; dsimp only at h
    have q := sndE e sc x h
    intro X k M W c tg
    have e1 : evW M (.of e) = fun ρ S => (evE M e ρ S).bind wkOf := by funext ρ S; simp only [evW]
    rw [e1]
    exact sw_of (q c).1
  | .rg1 a, sc, x, h => by
    rw [chkW.eq_def] at h; dsimp only at h
    split at h
    · simp only [Bool.and_eq_true, decide_eq_true_eq] at h
      obtain ⟨⟨⟨rfl, h1⟩, h2⟩, h3⟩ := h
      have q := sndE a sc _ h3
      intro X k M W c tg
      have e1 : evW M (.rg1 a) = rg1F (evE M a) := by funext ρ S; simp only [evW, rg1F] <;> congr 1
      rw [e1]
      exact sw_rg1 h2 (c.glb _ h1) (c.blt _ (by decide +kernel)) (q c).1
    · cases h
  | .rgL a, sc, x, h => by
    rw [chkW.eq_def] at h; dsimp only at h
    split at h
    · simp only [Bool.and_eq_true, decide_eq_true_eq] at h
      obtain ⟨⟨⟨⟨⟨⟨rfl, rfl⟩, h1⟩, h2⟩, h3⟩, h4⟩, hh⟩ := h
      have hh := hot_of hh
      have q := sndE a sc _ h4
      intro X k M W c tg
      have e1 : evW M (.rgL a) = rgLF (evE M a) := by funext ρ S; simp only [evW, rgLF] <;> congr 1
      rw [e1]
      exact sw_rgL (c.calm hh) c.u100 h3 (c.glb _ h1) (c.blt _ (by decide +kernel)) (c.glb _ h2) (c.blt _ (by decide +kernel)) (q c).1
    · cases h
  | .rg2 a b, sc, x, h => by
    rw [chkW.eq_def] at h; dsimp only at h
    split at h
    · simp only [Bool.and_eq_true, decide_eq_true_eq] at h
      obtain ⟨⟨⟨⟨⟨rfl, h1⟩, h2⟩, h3⟩, h4⟩, h5⟩ := h
      have qa := sndE a sc _ h4
      have qb := sndE b sc _ h5
      intro X k M W c tg
      have e1 : evW M (.rg2 a b) = rg2F (evE M a) (evE M b) := by funext ρ S; simp only [evW, rg2F] <;> congr 1
      rw [e1]
      exact sw_rg2 h2 h3 (c.glb _ h1) (c.blt _ (by decide +kernel)) (qa c).1 (qb c).1
    · cases h
end
end
end PH

set_option maxHeartbeats 8000000
/-! PH, part M: statements that fit; a def's call; all defs at all depths. -/
namespace PH
open L2 PySem PySem.Spec PyProof.Rows
section
variable {cA : Ca} {T : Tab} {N : List Str} {X : Cx} {σ : L2.St} {H : Hp} {Q : VK} {M : Mo} {W : WX}
theorem lcR {own : List Nat} {tg : Tg} {it : PH.W} {elt : E} (h2 : ∀ j ∈ tg.sl, j ∈ own) (h : tR cA X.F W (evE M (.lc own tg it elt)) σ H Q) :
    tLc (tW cA X.F W (evW M it)) (tG X.F tg) tYes (tR cA X.F W0 (evE M elt)) ((ownOf N own).map (·.2)) σ H Q := by
  rw [evE_lc] at h
  obtain ⟨m, ρ, S, rn, rs, hp⟩ := h
  rw [ownOf_snd]
  have := lc_of (X := X) h2 rn rs hp
  obtain ⟨m1, ρ1, S1, a1, a2, a3⟩ := this
  refine ⟨m1, ρ1, S1, a1, a2, ?_⟩
  split at a3
  · intro m2 H2 J e2 rs2 ok D0 hD0
    obtain ⟨Wi, w1, w2⟩ := a3 m2 H2 J e2 rs2 ok D0 hD0
    refine ⟨Wi, w1, fun i mm H hw => ?_⟩
    rcases w2 i mm H hw with z | ⟨z1, Nx, z2, z3⟩
    · exact .inl z
    · refine .inr ⟨z1, Nx, z2, fun x H' hy => ?_⟩
      obtain ⟨m3, ρ3, S3, d3, b1, b2, b3, b4⟩ := z3 x H' hy
      refine ⟨m3, ρ3, S3, d3, b1, b2, b3, ?_⟩
      split at b4
      · intro σ4 r4 g4
        obtain ⟨t1, t2⟩ := b4 σ4 r4 g4
        exact ⟨t1, yes_of t2⟩
      · exact b4
  · exact a3
  · exact a3
theorem lcIR {own : List Nat} {tg : Tg} {it : PH.W} {d elt : E} (h2 : ∀ j ∈ tg.sl, j ∈ own) (h : tR cA X.F W (evE M (.lcI own tg it d elt)) σ H Q) :
    tLc (tW cA X.F W (evW M it)) (tG X.F tg) (tB cA X.F W0 (tK (evE M d))) (tR cA X.F W0 (evE M elt)) ((ownOf N own).map (·.2)) σ H Q := by
  rw [evE_lcI] at h
  obtain ⟨m, ρ, S, rn, rs, hp⟩ := h
  rw [ownOf_snd]
  exact lc_of (X := X) h2 rn rs hp
theorem asg_lc {i : Nat} {f : Nv → Sto → Res D} {D : Ends} (h : tC cA X.F W (asgF (.nm i) f) D σ H) : tR cA X.F W f σ H (fun x H1 => gName i x σ H1 D.nx) := by
  obtain ⟨m, ρ, S, rn, rs, h⟩ := h
  refine ⟨m, ρ, S, rn, rs, (PostC.out rn h).imp fun v H1 ⟨m1, d, S1, _, e1, rs1, rd1, h1⟩ => ?_⟩
  obtain ⟨m2, ρ2, S2, d2, r2, r3, r4, h2⟩ := asg_of (tg := .nm i) (W := W) (cA := cA) (T := D) (rn.ext e1) rs1 rd1 h1
  exact h2 _ (r2.set r4 i) ⟨by simp, fun j hj => List.getElem?_set_ne (fun z => hj (by simp [Tg.sl, z]))⟩
end
section
variable {cA : Ca} {T : Tab} {N : List Str}
def SndC (cA : Ca) (T : Tab) (N : List Str) (c : C) (sc : Scope) (st : Stmt) : Prop := ∀ ⦃X : Cx⦄ ⦃k : Nat⦄ ⦃M : Mo⦄ ⦃W : WX⦄, Cok cA T N sc X k M W → X.env.scope = sc → (X.stack = X.env :: X.outer ∧ X.env.frame = some X.env.locals) → PS X st (tC cA X.F W (evC M c))
def SndCz (cA : Ca) (T : Tab) (N : List Str) (c : Cz) (sc : Scope) (ss : List Stmt) : Prop := ∀ ⦃X : Cx⦄ ⦃k : Nat⦄ ⦃M : Mo⦄ ⦃W : WX⦄, Cok cA T N sc X k M W → X.env.scope = sc → (X.stack = X.env :: X.outer ∧ X.env.frame = some X.env.locals) → PSs X ss (tC cA X.F W (evCz M c))
theorem evC_asg (M : Mo) (tg : Tg) (e : E) : evC M (.asg tg e) = asgF tg (evE M e) := by funext ρ S; simp only [evC, asgF] <;> congr 1
/-- a comprehension put into a local -/
theorem snd_setLc {tg : Tg} {e : E} {sc : Scope} {n : Str} {q p pos : Pos} {x : Expr} {gs : List Comprehension} {scope : Scope} (ht : chkT N sc tg (.Name n q) = true) (hl : sc.names.lookup n = some .local) (hk : sc.kind = .function) (hq : (q.line == p.line) = true)
    (hn : (scope.names.any fun (m, k) => m == n && (k == .local || k == .cell)) = false) (h : chkE T N e sc (.ListComp x gs scope p) = true) : SndC cA T N (.asg tg e) sc (.Assign [.Name n q] (.ListComp x gs scope p) pos) := by
  intro X k M W c hsc hst
  rw [evC_asg]
  cases tg with
  | tp ts => rw [chkT.eq_def] at ht; cases ht
  | nm i =>
    rw [chkT.eq_def] at ht; dsimp only at ht
    simp only [Bool.and_eq_true, decide_eq_true_eq] at ht
    have hN : X.N[i]? = some n := by rw [c.hN]; exact ht.1
    have hl' : X.env.scope.names.lookup n = some .local := by rw [hsc]; exact hl
    have sw : ∀ l, swapsWith (.ListComp x gs scope p) (some (.Name n q)) l X.env = pure true := fun l => sw_true (by rw [hsc]; exact hk) hl' hq hn
    cases e with
    | lc own tg it elt =>
      rw [chkE.eq_def] at h; dsimp only at h
      split at h
      · rename_i heq
        injection heq with e1 e2 e3 e4
        subst e1 e3 e4
        simp only [Bool.and_eq_true, decide_eq_true_eq] at h
        obtain ⟨⟨⟨⟨⟨⟨⟨rfl, h0⟩, h1⟩, h2⟩, h3⟩, h4⟩, h5⟩, hh⟩ := h
        have hh := hot_of hh
        subst e2
        obtain ⟨p1, p2, p3, p4⟩ := lc_parts c hh h1 h2 h3 (sndW it sc _ h4) (sndE elt _ _ h5)
        exact (ps_setLc (tt := tYes) (c.calm hh) (by rw [c.hN]; exact c.nd) hN hl' (sw _) p2 p1 p3 (fun _ _ _ _ _ => pts_nil) p4 (fold_of h0)).imp fun D σ H z => lcR h2 (asg_lc z)
      · cases h
    | lcI own tg it d elt =>
      rw [chkE.eq_def] at h; dsimp only at h
      split at h
      · rename_i heq
        injection heq with e1 e2 e3 e4
        subst e1 e3 e4
        simp only [Bool.and_eq_true, decide_eq_true_eq] at h
        obtain ⟨⟨⟨⟨⟨⟨⟨⟨rfl, h0⟩, h1⟩, h2⟩, h3⟩, h4⟩, h6⟩, h5⟩, hh⟩ := h
        have hh := hot_of hh
        subst e2
        obtain ⟨p1, p2, p3, p4⟩ := lc_parts c hh h1 h2 h3 (sndW it sc _ h4) (sndE elt _ _ h5)
        exact (ps_setLc (tt := tB cA X.F W0 (tK (evE M d))) (c.calm hh) (by rw [c.hN]; exact c.nd) hN hl' (sw _) p2 p1 p3 (fun s H C cl fp => pts_one (sndE d _ _ h6 (c.blk hh s H C cl fp)).2) p4 (fold_of h0)).imp fun D σ H z => lcIR h2 (asg_lc z)
      · cases h
    | dead => exact ⟨fun pins s σ H D I ⟨m, ρ, S, rn, rs, h⟩ => by unfold asgF at h; rw [evE] at h; exact h.elim⟩
    | k v => rw [chkE.eq_def] at h; dsimp only at h; unfold chkK at h; cases v <;> cases h
    | _ => rw [chkE.eq_def] at h; cases h
theorem sw_dict {kx vx : Expr} {gs : List Comprehension} {scope : Scope} {pos py : Pos} {y : Str} {l : Nat} {env : Env} (hk : env.scope.kind = .function) (hy : env.scope.names.lookup y = some .local) (hl : (py.line == pos.line) = true)
    (hn : (scope.names.any fun (m, k) => m == y && (k == .local || k == .cell)) = false) : swapsWith (.DictComp kx vx gs scope pos) (some (.Name y py)) l env = pure true := by
  have e1 : env.kindOf y = some .local := hy
  have e2 : env.blockKind = .function := by unfold Env.blockKind; rw [hk]; rfl
  unfold swapsWith
  simp only [e2, e1, hn, Expr.pos, hl]
  rfl
theorem dcmR {t : Bool} {own : List Nat} {tg : Tg} {it : PH.W} {kx vx : E} {X : Cx} {M : Mo} {W : WX} {σ : L2.St} {H : Hp} {Q : VK} (hu : X.A.units + 64 < cLine) (h2 : ∀ j ∈ tg.sl, j ∈ own) (h : tR cA X.F W (evE M (.dcm t own tg it kx vx)) σ H Q) :
    tDx X.prog X.w X.A X.K t (tW cA X.F W (evW M it)) (tG X.F tg) tYes (tR cA X.F W0 (evE M kx)) (tR cA X.F W0 (evE M vx)) ((ownOf N own).map (·.2)) σ H Q := by
  rw [evE_dcm] at h
  obtain ⟨m, ρ, S, rn, rs, hp⟩ := h
  rw [ownOf_snd]
  exact dcm_yes (dcm_of (X := X) hu h2 rn rs hp)
theorem dcmIR {t : Bool} {own : List Nat} {tg : Tg} {it : PH.W} {d kx vx : E} {X : Cx} {M : Mo} {W : WX} {σ : L2.St} {H : Hp} {Q : VK} (hu : X.A.units + 64 < cLine) (h2 : ∀ j ∈ tg.sl, j ∈ own) (h : tR cA X.F W (evE M (.dcmI t own tg it d kx vx)) σ H Q) :
    tDx X.prog X.w X.A X.K t (tW cA X.F W (evW M it)) (tG X.F tg) (tB cA X.F W0 (tK (evE M d))) (tR cA X.F W0 (evE M kx)) (tR cA X.F W0 (evE M vx)) ((ownOf N own).map (·.2)) σ H Q := by
  rw [evE_dcmI] at h
  obtain ⟨m, ρ, S, rn, rs, hp⟩ := h
  rw [ownOf_snd]
  exact dcm_of (X := X) hu h2 rn rs hp
/-- a dict comprehension put into a local -/
theorem snd_setDc {tg : Tg} {e : E} {sc : Scope} {n : Str} {q p pos : Pos} {x y : Expr} {gs : List Comprehension} {scope : Scope} (ht : chkT N sc tg (.Name n q) = true) (hl : sc.names.lookup n = some .local) (hk : sc.kind = .function) (hq : (q.line == p.line) = true)
    (hn : (scope.names.any fun (m, k) => m == n && (k == .local || k == .cell)) = false) (h : chkE T N e sc (.DictComp x y gs scope p) = true) : SndC cA T N (.asg tg e) sc (.Assign [.Name n q] (.DictComp x y gs scope p) pos) := by
  intro X k M W c hsc hst
  rw [evC_asg]
  cases tg with
  | tp ts => rw [chkT.eq_def] at ht; cases ht
  | nm i =>
    rw [chkT.eq_def] at ht; dsimp only at ht
    simp only [Bool.and_eq_true, decide_eq_true_eq] at ht
    have hN : X.N[i]? = some n := by rw [c.hN]; exact ht.1
    have hl' : X.env.scope.names.lookup n = some .local := by rw [hsc]; exact hl
    have sw : ∀ l, swapsWith (.DictComp x y gs scope p) (some (.Name n q)) l X.env = pure true := fun l => sw_dict (by rw [hsc]; exact hk) hl' hq hn
    have hu : X.A.units + 64 < cLine := by have := c.un; omega
    cases e with
    | dcm t own tg it kx vx =>
      rw [chkE.eq_def] at h; dsimp only at h
      split at h
      · rename_i heq
        injection heq with e1 e2 e3 e4 e5
        subst e1 e2 e4 e5
        simp only [Bool.and_eq_true, decide_eq_true_eq] at h
        obtain ⟨⟨⟨⟨⟨⟨⟨⟨rfl, h0⟩, h1⟩, h2⟩, h3⟩, h4⟩, h5⟩, h6⟩, hh⟩ := h
        have hh := hot_of hh
        subst e3
        obtain ⟨p1, p2, p3, p4⟩ := lc_parts c hh h1 h2 h3 (sndW it sc _ h4) (sndE kx _ _ h5)
        obtain ⟨_, _, _, p5⟩ := lc_parts c hh h1 h2 h3 (sndW it sc _ h4) (sndE vx _ _ h6)
        exact (ps_setDcm (t := t) (tt := tYes) (c.calm hh) (by rw [c.hN]; exact c.nd) hN hl' (sw _) p2 p1 p3 (fun _ _ _ _ _ => pts_nil) p4 p5 (fold_of h0)).imp fun D σ H z => dcmR hu h2 (asg_lc z)
      · cases h
    | dcmI t own tg it d kx vx =>
      rw [chkE.eq_def] at h; dsimp only at h
      split at h
      · rename_i heq
        injection heq with e1 e2 e3 e4 e5
        subst e1 e2 e4 e5
        simp only [Bool.and_eq_true, decide_eq_true_eq] at h
        obtain ⟨⟨⟨⟨⟨⟨⟨⟨⟨rfl, h0⟩, h1⟩, h2⟩, h3⟩, h4⟩, h7⟩, h5⟩, h6⟩, hh⟩ := h
        have hh := hot_of hh
        subst e3
        obtain ⟨p1, p2, p3, p4⟩ := lc_parts c hh h1 h2 h3 (sndW it sc _ h4) (sndE kx _ _ h5)
        obtain ⟨_, _, _, p5⟩ := lc_parts c hh h1 h2 h3 (sndW it sc _ h4) (sndE vx _ _ h6)
        exact (ps_setDcm (t := t) (tt := tB cA X.F W0 (tK (evE M d))) (c.calm hh) (by rw [c.hN]; exact c.nd) hN hl' (sw _) p2 p1 p3 (fun s H C cl fp => pts_one (sndE d _ _ h7 (c.blk hh s H C cl fp)).2) p4 p5 (fold_of h0)).imp fun D σ H z => dcmIR hu h2 (asg_lc z)
      · cases h
    | dead => exact ⟨fun pins s σ H D I ⟨m, ρ, S, rn, rs, h⟩ => by unfold asgF at h; rw [evE] at h; exact h.elim⟩
    | k v => rw [chkE.eq_def] at h; dsimp only at h; unfold chkK at h; cases v <;> cases h
    | _ => rw [chkE.eq_def] at h; cases h
theorem okAsg_name {sc : Scope} {n : Str} {q : Pos} {x : Expr} {env : Env} {l : Nat} (h : okAsg sc (.Name n q) x = true) (hsc : env.scope = sc) :
    (swapsWithSole [.Name n q] x l env = pure false ∧ swappedStores [.Name n q] x env = pure none) ∨ (∃ e gs scope p, x = .ListComp e gs scope p ∧ sc.names.lookup n = some .local ∧ sc.kind = .function ∧ (q.line == p.line) = true ∧ (scope.names.any fun (m, k) => m == n && (k == .local || k == .cell)) = false) ∨
      ∃ e e' gs scope p, x = .DictComp e e' gs scope p ∧ sc.names.lookup n = some .local ∧ sc.kind = .function ∧ (q.line == p.line) = true ∧ (scope.names.any fun (m, k) => m == n && (k == .local || k == .cell)) = false := by
  cases x with
  | DictComp e e' gs scope p =>
    by_cases hl : sc.names.lookup n = some .local
    · refine .inr (.inr ⟨e, e', gs, scope, p, rfl, hl, ?_⟩)
      simp only [okAsg, hl, Bool.and_eq_true, Bool.not_eq_true'] at h
      obtain ⟨⟨h1, h2⟩, h3⟩ := h
      refine ⟨?_, h2, h3⟩
      split at h1
      · assumption
      · cases h1
    · refine .inl ⟨?_, rfl⟩
      have hk : (env.kindOf n == some .local) = false := by
        have : env.kindOf n = sc.names.lookup n := by rw [← hsc]; rfl
        rw [this]
        cases q : sc.names.lookup n with
        | none => rfl
        | some k => cases k <;> first | rfl | exact absurd q hl
      unfold swapsWithSole swapsWith
      simp only [hk, Bool.and_false, Bool.false_and]
  | ListComp e gs scope p =>
    by_cases hl : sc.names.lookup n = some .local
    · refine .inr (.inl ⟨e, gs, scope, p, rfl, hl, ?_⟩)
      simp only [okAsg, hl, Bool.and_eq_true, Bool.not_eq_true'] at h
      obtain ⟨⟨h1, h2⟩, h3⟩ := h
      refine ⟨?_, h2, h3⟩
      split at h1
      · assumption
      · cases h1
    · refine .inl ⟨?_, rfl⟩
      have hk : (env.kindOf n == some .local) = false := by
        have : env.kindOf n = sc.names.lookup n := by rw [← hsc]; rfl
        rw [this]
        cases q : sc.names.lookup n with
        | none => rfl
        | some k => cases k <;> first | rfl | exact absurd q hl
      unfold swapsWithSole swapsWith
      simp only [hk, Bool.and_false, Bool.false_and]
  | SetComp => cases h
  | _ => exact .inl ⟨rfl, rfl⟩
theorem okAsg_tup {sc : Scope} {es : List Expr} {kk : Nat} {q : Pos} {x : Expr} {env : Env} {l : Nat} (h : okAsg sc (.Tuple es kk q) x = true) :
    swapsWithSole [.Tuple es kk q] x l env = pure false ∧ swappedStores [.Tuple es kk q] x env = pure none := by
  cases x with
  | ListComp => cases h
  | SetComp => cases h
  | DictComp => cases h
  | Tuple => cases h
  | _ => exact ⟨rfl, rfl⟩
theorem sub_sw {o i x : Expr} {q : Pos} {env : Env} {l : Nat} : swapsWithSole [.Subscript o i q] x l env = pure false ∧ swappedStores [.Subscript o i q] x env = pure none := by
  cases x <;> exact ⟨rfl, rfl⟩
theorem sub_sw1 {o i x : Expr} {q : Pos} {env : Env} {l : Nat} : swapsWith x (some (.Subscript o i q)) l env = pure false := by
  cases x <;> rfl
theorem ex_sw {x : Expr} {env : Env} {l : Nat} (h : notComp x = true) : swapsWith x none l env = pure false := by
  cases x <;> first | rfl | cases h
theorem kn_of {c : Nat} {kn : List Nat} (h : knB T kn = true) (hc : c ∈ kn) : T.gl.length ≤ XC ∧ c < 1000 ∧ ∃ n fs, (n, c, fs) ∈ T.cl := by
  unfold knB at h
  simp only [Bool.and_eq_true, decide_eq_true_eq, List.all_eq_true] at h
  obtain ⟨h1, h2⟩ := h
  obtain ⟨h3, h4⟩ := h2 c hc
  obtain ⟨q, hq, e⟩ := List.mem_map.mp h4
  obtain ⟨n, c', fs⟩ := q
  dsimp only at e
  subst e
  exact ⟨h1, h3, n, fs, hq⟩
theorem Cok.cat {sc : Scope} {X : Cx} {k : Nat} {M : Mo} {W : WX} {kn : List Nat} {c : Nat} (co : Cok cA T N sc X k M W) (h : knB T kn = true) (hc : c ∈ kn) : CatOk cA X.K T.fl T.ids c := by
  obtain ⟨_, h2, n, fs, hq⟩ := kn_of h hc
  exact ((co.cls _ _ _ hq).2 h2).2
theorem at_sw {o x : Expr} {f : Str} {q : Pos} {env : Env} {l : Nat} (h : notComp x = true) : swapsWith x (some (.Attribute o f q)) l env = pure false := by
  cases x <;> first | rfl | cases h
theorem Cok.tr {sc : Scope} {X : Cx} {k : Nat} {M : Mo} {W W' : WX} {pn : List (Addr × Obj)} {xe : Value → Shared → Prop} (c : Cok cA T N sc X k M W) (hh : T.hot = false) (tk : Takes (X.tr pn xe) W') (po : PassesOwn (model X.prog X.w) X.A X.env xe) : Cok cA T N sc (X.tr pn xe) k M W' where
  calm := c.calm
  room := c.room
  room1 := c.room1
  ocs := fun cn fl ms h => let ⟨C, o, r⟩ := c.ocs cn fl ms h; ⟨C, ⟨o.at_, o.mg, o.cl, o.no⟩, r⟩
  two := c.two
  un := c.un
  tk := tk
  po := po
  hN := c.hN
  nd := c.nd
  vis := c.vis
  loc := c.loc
  glb := c.glb
  cap := c.cap
  blt := c.blt
  fns := c.fns
  gls := c.gls
  gds := c.gds
  cls := c.cls
  hotX := fun z => by rw [hh] at z; cases z
theorem Cok.suite {sc : Scope} {X : Cx} {k : Nat} {M : Mo} {W : WX} {kn : List Nat} {a d c : Nat} {oe : Obj} {pn : List (Addr × Obj)} (co : Cok cA T N sc X k M W) (h : knB T kn = true) (hc : c ∈ kn) (hz : Zc (.ref (cA c)) (some d) oe) (hv : ∃ vs, oe.data = .fields vs) : Cok cA T.in N sc (X.suite a ((a, oe) :: pn)) k (M.at a d c) W0 where
  calm := fun z => by cases z
  room := fun z => by cases z
  room1 := fun z => by cases z
  ocs := fun cn fl ms h => let ⟨C, o, r⟩ := co.ocs cn fl ms h; ⟨C, ⟨o.at_, o.mg, o.cl, o.no⟩, r⟩
  two := co.two
  un := co.un
  tk := takes0
  po := PassesOwn.never
  hN := co.hN
  nd := co.nd
  vis := co.vis
  loc := co.loc
  glb := co.glb
  cap := co.cap
  blt := co.blt
  fns := co.fns
  gls := fun i n hi => by
    have hl : i < T.gl.length := (List.getElem?_eq_some_iff.mp hi).1
    have hx := (kn_of h hc).1
    obtain ⟨x, u, v, g1, g2⟩ := co.gls i n hi
    exact ⟨x, u, v, by unfold Mo.at; dsimp only; rw [if_neg (by omega)]; exact g1, g2⟩
  gds := co.gds
  cls := co.cls
  hotX := fun _ => ⟨a, d, c, ⟨X, oe, pn, rfl, hz, hv⟩, co.cat h hc, mo_at M a d c⟩
mutual
theorem sndC (T : Tab) : ∀ (s : C) (sc : Scope) (st : Stmt), chkC N T sc s st = true → SndC cA T N s sc st
  | .ret e, sc, st, h => by
    rw [chkC.eq_def] at h; dsimp only at h
    split at h
    · have q := sndE (cA := cA) e sc _ h
      intro X k M W c hsc hst
      have e1 : evC M (.ret e) = fun ρ S => (evE M e ρ S).out ρ .rt := by funext ρ S; simp only [evC]
      rw [e1]
      exact ss_ret (q c).1
    · cases h
  | .retN, sc, st, h => by
    rw [chkC.eq_def] at h; dsimp only at h
    split at h
    · intro X k M W c hsc hst
      have e1 : evC M .retN = fun ρ S => .rt (.p .non) S := by funext ρ S; simp only [evC]
      rw [e1]
      exact ss_retN
    · cases h
  | .dead, sc, st, h => by
    intro X k M W c hsc hst
    have e1 : evC M .dead = fun _ _ => .stuck := by funext ρ S; simp only [evC]
    rw [e1]
    exact ⟨fun pins s σ H T I ⟨m, ρ, S, rn, rs, h⟩ => h.elim⟩
  | .unl ts e, sc, st, h => by
    rw [chkC.eq_def] at h; dsimp only at h
    split at h
    · rename_i es kk q x pos
      simp only [Bool.and_eq_true, decide_eq_true_eq, Bool.not_eq_true'] at h
      obtain ⟨⟨⟨h1, h2⟩, h3⟩, hh⟩ := h
      have q := sndE (cA := cA) e sc _ h3
      intro X k M W c hsc hst
      have e1 : evC M (.unl ts e) = unlF ts (evE M e) := by funext ρ S; simp only [evC, unlF] <;> congr 1
      rw [e1]
      obtain ⟨p1, p2, p3⟩ := snd_Ts c hh ts _ h1
      obtain ⟨a1, a2⟩ := okAsg_tup (env := X.env) (l := pos.line) h2
      exact ss_unl (c.calm hh) (q c).1 p1 p2 p3 a1 a2
    · cases h
  | .rse cc fs es, sc, st, h => by
    rw [chkC.eq_def] at h; dsimp only at h
    split at h
    · simp only [Bool.and_eq_true, decide_eq_true_eq, Bool.not_eq_true'] at h
      obtain ⟨⟨⟨⟨⟨h1, h2⟩, h3⟩, h4⟩, h5⟩, hh⟩ := h
      obtain ⟨p, q⟩ := sndEs (cA := cA) es sc _ h5
      intro X k M W c hsc hst
      have e1 : evC M (.rse cc fs es) = fun ρ S => (evEs M es ρ S).out ρ fun ds S => if ds.length = fs.length then .exc ⟨cc, fs.zip ds⟩ ρ S else .stuck := by funext ρ S; simp only [evC]
      rw [e1]
      exact ss_rse (c.calm hh) c.tk ((c.room hh).mono c.two) ((c.cls _ _ _ h3).2 h4).1 (c.glb _ h1) h2 p (q c).1
    · cases h
  | .trx body kn c' i suite, sc, st, h => by
    rw [chkC.eq_def] at h; dsimp only at h
    split at h
    · simp only [Bool.and_eq_true, decide_eq_true_eq, Bool.not_eq_true'] at h
      obtain ⟨⟨⟨⟨⟨⟨⟨h1, h2⟩, h3⟩, h4⟩, h5⟩, h6⟩, h7⟩, hh⟩ := h
      have qb := sndCz T body sc _ h6
      have qs := sndCz T.in suite sc _ h7
      intro X k M W c hsc hst
      have e1 : evC M (.trx body kn c' i suite) = trxF kn c' i (evCz M body) (fun a d c => evCz (M.at a d c) suite) := by funext ρ S; simp only [evC]
      rw [e1]
      obtain ⟨⟨n1, n2, n3⟩, n4⟩ := clsB_of c h3
      exact ss_trx hst.1 hst.2 (by rw [c.hN]; exact c.nd) (by rw [c.hN]; exact h1) (by show X.env.scope.names.lookup _ = _; rw [hsc]; exact h2) ⟨n1, n2, .inl (n3.elim (fun z => z.2) fun z => absurd z.1 h4)⟩ c.tk (fun q hq => c.cat h5 hq) (n4.resolve_right h4)
        (fun W' pn xe tk po => qb (c.tr hh tk po) hsc hst) (fun a d q oe pn hq hz hv => qs (c.suite h5 hq hz hv) hsc hst)
    · cases h
  | .try0 body kn c' suite, sc, st, h => by
    rw [chkC.eq_def] at h; dsimp only at h
    split at h
    · simp only [Bool.and_eq_true, decide_eq_true_eq, Bool.not_eq_true'] at h
      obtain ⟨⟨⟨⟨⟨h3, h4⟩, h5⟩, h6⟩, h7⟩, hh⟩ := h
      have qb := sndCz T body sc _ h6
      have qs := sndCz T.in suite sc _ h7
      intro X k M W c hsc hst
      have e1 : evC M (.try0 body kn c' suite) = try0F kn c' (evCz M body) (fun a d c => evCz (M.at a d c) suite) := by funext ρ S; simp only [evC]
      rw [e1]
      obtain ⟨⟨n1, n2, n3⟩, n4⟩ := clsB_of c h3
      exact ss_try0 hst.1 hst.2 ⟨n1, n2, .inl (n3.elim (fun z => z.2) fun z => absurd z.1 h4)⟩ c.tk (fun q hq => c.cat h5 hq) (n4.resolve_right h4)
        (fun W' pn xe tk po => qb (c.tr hh tk po) hsc hst) (fun a d q oe pn hq hz hv => qs (c.suite h5 hq hz hv) hsc hst)
    · cases h
  | .pas, sc, st, h => by
    rw [chkC.eq_def] at h; dsimp only at h
    split at h
    · intro X k M W c hsc hst
      have e1 : evC M .pas = fun ρ S => .nx ρ S := by funext ρ S; simp only [evC]
      rw [e1]
      exact ss_pas
    · cases h
  | .brk, sc, st, h => by
    rw [chkC.eq_def] at h; dsimp only at h
    split at h
    · intro X k M W c hsc hst
      have e1 : evC M .brk = fun ρ S => .bk ρ S := by funext ρ S; simp only [evC]
      rw [e1]
      exact ss_brk
    · cases h
  | .cnt, sc, st, h => by
    rw [chkC.eq_def] at h; dsimp only at h
    split at h
    · intro X k M W c hsc hst
      have e1 : evC M .cnt = fun ρ S => .ct ρ S := by funext ρ S; simp only [evC]
      rw [e1]
      exact ss_cnt
    · cases h
  | .asg tg e, sc, st, h => by
    rw [chkC.eq_def] at h; dsimp only at h
    split at h
    · rename_i t x pos
      simp only [Bool.and_eq_true] at h
      obtain ⟨⟨⟨⟨h1, h2⟩, h3⟩, h4⟩, hh⟩ := h
      have hh : T.hot = false ∨ nmB tg = true := by
        rcases (Bool.or_eq_true _ _).mp hh with z | z
        · exact .inl (hot_of z)
        · exact .inr z
      have q := sndE (cA := cA) e sc _ h4
      cases t with
      | Name n np =>
        intro X k M W c hsc hst
        rcases okAsg_name (l := pos.line) h2 hsc with ⟨a1, a2⟩ | ⟨e', gs, scope, p, rfl, b1, b2, b3, b4⟩ | ⟨e', e'', gs, scope, p, rfl, b1, b2, b3, b4⟩
        · rw [evC_asg]
          exact ss_asg (q c).1 (snd_T c tg _ h3 hh) h1 a1 a2
        · exact snd_setLc h3 b1 b2 b3 b4 h4 c hsc hst
        · exact snd_setDc h3 b1 b2 b3 b4 h4 c hsc hst
      | Tuple es kk p =>
        intro X k M W c hsc hst
        rw [evC_asg]
        obtain ⟨a1, a2⟩ := okAsg_tup (env := X.env) (l := pos.line) h2
        exact ss_asg (q c).1 (snd_T c tg _ h3 hh) h1 a1 a2
      | _ => cases tg <;> rw [chkT.eq_def] at h3 <;> cases h3
    · cases h
  | .sat cn a f e, sc, st, h => by
    rw [chkC.eq_def] at h; dsimp only at h
    split at h
    · simp only [Bool.and_eq_true, decide_eq_true_eq] at h
      obtain ⟨⟨⟨⟨rfl, h1⟩, h2⟩, h3⟩, h4⟩ := h
      obtain ⟨fl, ms, hq, hf⟩ := ocB_of h1
      have qa := sndE (cA := cA) a sc _ h3
      have qe := sndE (cA := cA) e sc _ h4
      intro X k M W c hsc hst
      obtain ⟨C, o, _⟩ := c.ocs _ _ _ hq
      have e1 : evC M (.sat cn a f e) = fun ρ S => (evE M e ρ S).out ρ fun y S => (evE M a ρ S).out ρ fun x S => match setO cn f x y S with
        | some S' => .nx ρ S'
        | none => .stuck := by funext ρ S; simp only [evC] <;> congr 1
      rw [e1]
      exact ss_sat o (by simpa using hf) (qa c).1 (qe c).1 (at_sw h2)
    · cases h
  | .sub a i e, sc, st, h => by
    rw [chkC.eq_def] at h; dsimp only at h
    split at h
    · simp only [Bool.and_eq_true] at h
      obtain ⟨⟨⟨h1, h2⟩, h3⟩, h4⟩ := h
      have qa := sndE (cA := cA) a sc _ h2
      have qi := sndE (cA := cA) i sc _ h3
      have qe := sndE (cA := cA) e sc _ h4
      intro X k M W c hsc hst
      have e1 : evC M (.sub a i e) = fun ρ S => (evE M e ρ S).out ρ fun y S => (evE M a ρ S).out ρ fun x S => (evE M i ρ S).out ρ fun k S => match subI x k y S with
        | some S' => .nx ρ S'
        | none => .stuck := by funext ρ S; simp only [evC] <;> congr 1
      rw [e1]
      exact ss_sub (qe c).1 (qa c).1 (qi c).1 h1 sub_sw.1 (sub_sw (l := 0)).2
    · cases h
  | .dsu a i e, sc, st, h => by
    rw [chkC.eq_def] at h; dsimp only at h
    split at h
    · simp only [Bool.and_eq_true] at h
      obtain ⟨⟨h2, h3⟩, h4⟩ := h
      have qa := sndE (cA := cA) a sc _ h2
      have qi := sndE (cA := cA) i sc _ h3
      have qe := sndE (cA := cA) e sc _ h4
      intro X k M W c hsc hst
      have e1 : evC M (.dsu a i e) = fun ρ S => (evE M e ρ S).out ρ fun y S => (evE M a ρ S).out ρ fun x S => (evE M i ρ S).out ρ fun k S => match dPut x k y S with
        | some S' => .nx ρ S'
        | none => .stuck := by funext ρ S; simp only [evC] <;> congr 1
      rw [e1]
      exact ss_dsu (by have := c.un; omega) (qe c).1 (qa c).1 (qi c).1 sub_sw1
    · cases h
  | .ddl a i, sc, st, h => by
    rw [chkC.eq_def] at h; dsimp only at h
    split at h
    · simp only [Bool.and_eq_true] at h
      obtain ⟨h2, h3⟩ := h
      have qa := sndE (cA := cA) a sc _ h2
      have qi := sndE (cA := cA) i sc _ h3
      intro X k M W c hsc hst
      have e1 : evC M (.ddl a i) = fun ρ S => (evE M a ρ S).out ρ fun x S => (evE M i ρ S).out ρ fun k S => match dDel x k S with
        | some S' => .nx ρ S'
        | none => .stuck := by funext ρ S; simp only [evC] <;> congr 1
      rw [e1]
      exact ss_ddl (by have := c.un; omega) (qa c).1 (qi c).1
    · cases h
  | .ex e, sc, st, h => by
    rw [chkC.eq_def] at h; dsimp only at h
    split at h
    · simp only [Bool.and_eq_true] at h
      have q := sndE (cA := cA) e sc _ h.2
      intro X k M W c hsc hst
      have e1 : evC M (.ex e) = fun ρ S => (evE M e ρ S).out ρ fun _ S => .nx ρ S := by funext ρ S; simp only [evC]
      rw [e1]
      exact ss_ex (q c).1 (ex_sw h.1)
    · cases h
  | .ite d t f, sc, st, h => by
    rw [chkC.eq_def] at h; dsimp only at h
    split at h
    · simp only [Bool.and_eq_true] at h
      have q := sndE (cA := cA) d sc _ h.1.1
      have qt := sndCz T t sc _ h.1.2
      have qf := sndCz T f sc _ h.2
      intro X k M W c hsc hst
      have e1 : evC M (.ite d t f) = iteF (evE M d) (evCz M t) (evCz M f) := by funext ρ S; simp only [evC, iteF, evT]; rfl
      rw [e1]
      exact ss_if (q c).2 (qt c hsc hst) (qf c hsc hst)
    · cases h
  | .forr tg it body, sc, st, h => by
    rw [chkC.eq_def] at h; dsimp only at h
    split at h
    · simp only [Bool.and_eq_true] at h
      obtain ⟨⟨⟨⟨h1, h2⟩, h3⟩, h4⟩, hh⟩ := h
      have hh := hot_of hh
      have qi := sndW (cA := cA) it sc _ h3
      have qb := sndCz T body sc _ h4
      intro X k M W c hsc hst
      have e1 : evC M (.forr tg it body) = forF tg (evW M it) (evCz M body) := by funext ρ S; simp only [evC, forF]
      rw [e1]
      exact ss_for c.po (c.calm hh) (qi c _) (snd_T c tg _ h2 (.inl hh)) (qb c hsc hst) (fold_of h1)
    · cases h
  | .whl d body, sc, st, h => by
    rw [chkC.eq_def] at h; dsimp only at h
    split at h
    · simp only [Bool.and_eq_true] at h
      have q := sndE (cA := cA) d sc _ h.1
      have qb := sndCz T body sc _ h.2
      intro X k M W c hsc hst
      have e1 : evC M (.whl d body) = whlI (tK (evE M d)) (evCz M body) := by funext ρ S; simp only [evC]; rfl
      rw [e1]
      exact ss_whl c.po (q c).2 (qb c hsc hst)
    · cases h
theorem sndCz (T : Tab) : ∀ (s : Cz) (sc : Scope) (ss : List Stmt), chkCz N T sc s ss = true → SndCz cA T N s sc ss
  | .nil, sc, ss, h => by
    rw [chkCz.eq_def] at h; dsimp only at h
    cases ss with
    | nil =>
      intro X k M W c hsc hst
      have e1 : evCz M .nil = fun ρ S => .nx ρ S := by funext ρ S; simp only [evCz]
      rw [e1]
      exact ss_nil
    | cons x xs => cases h
  | .cons s cs, sc, ss, h => by
    rw [chkCz.eq_def] at h; dsimp only at h
    split at h
    · simp only [Bool.and_eq_true] at h
      have q := sndC T s sc _ h.1
      have qs := sndCz T cs sc _ h.2
      intro X k M W c hsc hst
      have e1 : evCz M (.cons s cs) = fun ρ S => (evC M s ρ S).seq (evCz M cs) := by funext ρ S; simp only [evCz]
      rw [e1]
      exact ss_cons (q c hsc hst) (qs c hsc hst)
    · cases h
end
end

/-! ### what a call leaves -/
section
variable {cA : Ca} {K : Fg} {H H' : Hp} {m t : List Addr} {S S' : Sto} {W : WX} {Q : VK}
mutual
theorem RelD.low {n : Nat} (hn : m.length = n) : ∀ {d : D} {v : V}, RelD K H (m ++ t) d v → d.bel n = true → RelD K H m d v
  | _, _, .p h, _ => .p h
  | _, _, .ref (n := j) h, b => .ref (by
      have : j < m.length := by simpa [D.bel, hn] using b
      rw [List.getElem?_append_left this] at h; exact h)
  | _, _, .mt h r, b => .mt h (RelDs.low hn r (by simpa [D.bel] using b))
  | _, _, .xv h r, _ => .xv h r
theorem RelDs.low {n : Nat} (hn : m.length = n) : ∀ {d : List D} {v : List V}, RelDs K H (m ++ t) d v → D.bels n d = true → RelDs K H m d v
  | _, _, .nil, _ => .nil
  | _, _, .cons h r, b => by
    simp only [D.bels, Bool.and_eq_true] at b
    exact .cons (RelD.low hn h b.1) (RelDs.low hn r b.2)
end
mutual
theorem RelD.bel : ∀ {d : D} {v : V}, RelD K H m d v → d.bel m.length = true
  | _, _, .p h => rfl
  | _, _, .ref (n := j) h => by simp [D.bel, (List.getElem?_eq_some_iff.mp h).1]
  | _, _, .mt h r => by simp [D.bel, RelDs.bels r]
  | _, _, .xv h r => rfl
theorem RelDs.bels : ∀ {d : List D} {v : List V}, RelDs K H m d v → D.bels m.length d = true
  | _, _, .nil => rfl
  | _, _, .cons h r => by simp [D.bels, RelD.bel h, RelDs.bels r]
end
theorem RelKs.bels : ∀ {kvs : List (PD × D)} {us : List (L2.Key × V)}, RelKs K H m kvs us → D.bels m.length (kvs.map (·.2)) = true
  | _, _, .nil => rfl
  | _, _, .cons _ _ h r => by simp only [List.map_cons, D.bels, h.bel, r.bels, Bool.and_true]
theorem RelKs.low {n : Nat} (hn : m.length = n) : ∀ {kvs : List (PD × D)} {us : List (L2.Key × V)}, RelKs K H (m ++ t) kvs us → D.bels n (kvs.map (·.2)) = true → RelKs K H m kvs us
  | _, _, .nil, _ => .nil
  | _, _, .cons hk rp h r, b => by
    simp only [List.map_cons, D.bels, Bool.and_eq_true] at b
    exact .cons hk rp (h.low hn b.1) (RelKs.low hn r b.2)
theorem RelTs.bels : ∀ {kvs : List (PD × D)} {xs : Ent3}, RelTs K H m kvs xs → D.bels m.length (kvs.map (·.2)) = true
  | _, _, .nil => rfl
  | _, _, .cons _ _ _ h r => by simp only [List.map_cons, D.bels, h.bel, r.bels, Bool.and_true]
theorem RelTs.low {n : Nat} (hn : m.length = n) : ∀ {kvs : List (PD × D)} {xs : Ent3}, RelTs K H (m ++ t) kvs xs → D.bels n (kvs.map (·.2)) = true → RelTs K H m kvs xs
  | _, _, .nil, _ => .nil
  | _, _, .cons hk ok rv h r, b => by
    simp only [List.map_cons, D.bels, Bool.and_eq_true] at b
    exact .cons hk ok rv (h.low hn b.1) (RelTs.low hn r b.2)
theorem RelFs.bels : ∀ {fs : List (String × D)} {vs : List (Str × V)}, RelFs K H m fs vs → D.bels m.length (fs.map (·.2)) = true
  | _, _, .nil => rfl
  | _, _, .cons h r => by simp only [List.map_cons, D.bels, h.bel, r.bels, Bool.and_true]
theorem RelFs.low {n : Nat} (hn : m.length = n) : ∀ {fs : List (String × D)} {vs : List (Str × V)}, RelFs K H (m ++ t) fs vs → D.bels n (fs.map (·.2)) = true → RelFs K H m fs vs
  | _, _, .nil, _ => .nil
  | _, _, .cons h r, b => by
    simp only [List.map_cons, D.bels, Bool.and_eq_true] at b
    exact .cons (h.low hn b.1) (RelFs.low hn r b.2)
theorem RelO.bel {o : O} {a : Addr} (h : RelO K H m a o) : o.bel m.length = true := by
  cases h with
  | pl _ _ => rfl
  | fz _ _ => rfl
  | ml _ r => exact r.bels
  | dc _ r => exact r.bels
  | ob _ _ r => exact r.bels
  | dt _ _ _ r => exact r.bels
  | dfk _ r => exact r.bels
  | dft _ _ _ r => exact r.bels
theorem RelO.low {o : O} {a : Addr} (h : RelO K H (m ++ t) a o) (b : o.bel m.length = true) : RelO K H m a o := by
  cases h with
  | pl h r => exact .pl h r
  | fz h r => exact .fz h r
  | ml h r => exact .ml h (r.low rfl b)
  | dc h r => exact .dc h (r.low rfl b)
  | ob h cl r => exact .ob h cl (r.low rfl b)
  | dt h nd z r => exact .dt h nd z (r.low rfl b)
  | dfk h r => exact .dfk h (r.low rfl b)
  | dft h nd z r => exact .dft h nd z (r.low rfl b)
theorem RelO.up {o : O} {a : Addr} (h : RelO K H m a o) : RelO K H (m ++ t) a o := by
  cases h with
  | pl h r => exact .pl h r
  | fz h r => exact .fz h r
  | ml h r => exact .ml h (r.mono .refl _)
  | dc h r => exact .dc h (r.mono .refl _)
  | ob h cl r => exact .ob h cl (r.mono .refl _)
  | dt h nd z r => exact .dt h nd z (r.mono .refl _)
  | dfk h r => exact .dfk h (r.mono .refl _)
  | dft h nd z r => exact .dft h nd z (r.mono .refl _)
theorem RelS.bel (R : RelS K H m S) : S.all (O.bel m.length) = true := by
  rw [List.all_eq_true]
  intro o ho
  obtain ⟨n, hn⟩ := List.getElem?_of_mem ho
  obtain ⟨a, _, r⟩ := R.ob n o hn
  exact r.bel
theorem RelS.cut (R : RelS K H (m ++ t) S) (hb : (S.take m.length).all (O.bel m.length) = true) : RelS K H m (S.take m.length) := by
  have hlen : (m ++ t).length = S.length := R.len
  refine ⟨by simp at hlen ⊢; omega, fun n o e => ?_, fun i j a o u hi hj e1 e2 m1 m2 => ?_⟩
  · have e0 := e
    rw [List.getElem?_take] at e
    split at e
    · rename_i hn
      obtain ⟨a, ea, r⟩ := R.ob n o e
      rw [List.getElem?_append_left hn] at ea
      exact ⟨a, ea, r.low (List.all_eq_true.mp hb _ (List.mem_of_getElem? e0))⟩
    · cases e
  · rw [List.getElem?_take] at e1 e2
    split at e1 <;> split at e2 <;> first | cases e1 | cases e2 | skip
    exact R.inj i j a o u (pre_get hi) (pre_get hj) e1 e2 m1 m2
theorem Ext.cut (e : Ext K H m H' (m ++ t)) : Ext K H m H' m := ⟨e.kp, [], by simp⟩
theorem RelS.put1 (R : RelS K H (m ++ t) S) (hb : (S.take m.length).all (O.bel m.length) = true) {j : Nat} {a : Addr} {nw : O} (hj : m.length ≤ j) (ha : (m ++ t)[j]? = some a) (ho : S[j]? = some nw) (hw : nw.bel m.length = true) : RelS K H (m ++ [a]) (S.take m.length ++ [nw]) := by
  have C := R.cut hb
  have hl : (S.take m.length).length = m.length := C.len.symm
  obtain ⟨b, eb, rb⟩ := R.ob j _ ho
  rw [ha] at eb; cases eb
  have cs : ∀ {n : Nat} {q : O}, (S.take m.length ++ [nw])[n]? = some q → (n < m.length ∧ (S.take m.length)[n]? = some q) ∨ (n = m.length ∧ q = nw) := fun {n q} e => by
    rw [List.getElem?_append] at e
    split at e
    · exact .inl ⟨by omega, e⟩
    · rename_i hn
      rcases Nat.lt_or_ge m.length n with h1 | h1
      · have : n - (S.take m.length).length ≠ 0 := by omega
        rw [List.getElem?_singleton, if_neg this] at e; cases e
      · have e1 : n = m.length := by omega
        subst e1
        rw [hl] at e
        simp at e
        exact .inr ⟨rfl, e.symm⟩
  have up : ∀ {n : Nat} {q : O}, n < m.length → (S.take m.length)[n]? = some q → S[n]? = some q := fun {n q} hn e => by
    rw [List.getElem?_take, if_pos hn] at e; exact e
  refine ⟨by rw [List.length_append, List.length_append, hl]; rfl, fun n o e => ?_, fun i k b o u hi hk e1 e2 m1 m2 => ?_⟩
  · rcases cs e with ⟨hn, e⟩ | ⟨rfl, rfl⟩
    · obtain ⟨c, ec, r⟩ := C.ob n o e
      exact ⟨c, pre_get ec, r.up⟩
    · exact ⟨a, by simp, (rb.low hw).up⟩
  · rcases cs e1 with ⟨h1, f1⟩ | ⟨g1, g2⟩ <;> rcases cs e2 with ⟨h2, f2⟩ | ⟨g3, g4⟩
    · rw [List.getElem?_append_left h1] at hi
      rw [List.getElem?_append_left h2] at hk
      exact C.inj i k b o u hi hk f1 f2 m1 m2
    · rw [List.getElem?_append_left h1] at hi
      rw [g3] at hk
      simp at hk
      rw [← hk] at hi
      have := R.inj i j a o _ (pre_get hi) ha (up h1 f1) ho m1 (by rw [← g4]; exact m2)
      omega
    · rw [List.getElem?_append_left h2] at hk
      rw [g1] at hi
      simp at hi
      rw [← hi] at hk
      have := R.inj k j a u _ (pre_get hk) ha (up h2 f2) ho m2 (by rw [← g2]; exact m1)
      omega
    · rw [g1, g3]
theorem tidy_bel (R : RelS K H m S) (h : S'.take S.length = S ∨ (S'.take S.length).all (O.bel S.length) = true) : (S'.take m.length).all (O.bel m.length) = true := by
  rw [R.len]
  rcases h with h | h
  · rw [h, ← R.len]; exact R.bel
  · exact h
theorem tidy_ok {m' : List Addr} {d : D} {v : V} (R : RelS K H m S) (hp : Post cA K m H [] W (tidy S S' d) Q) (e : Ext K H m H' m') (R' : RelS K H' m' S') (rd : RelD K H' m' d v) : Q v H' := by
  unfold tidy at hp
  split at hp
  · rename_i hc
    obtain ⟨t, rfl⟩ := e.pre
    have hb := tidy_bel R hc
    have C := R'.cut hb
    rw [← R.len] at hp
    cases d with
    | p x => cases rd with
      | p h => exact hp m H' v e.cut C (.p h)
    | ref j =>
      simp only at hp
      split at hp
      · rename_i hj
        exact hp m H' v e.cut C (rd.low rfl (by simp [D.bel, hj]))
      · rename_i hj
        cases rd with
        | ref hd =>
        split at hp
        · rename_i xs ho
          have hl : (S'.take m.length).length = m.length := C.len.symm
          refine hp (m ++ [_]) H' _ ⟨e.kp, _, rfl⟩ (R'.put1 hb (by omega) hd ho rfl) (.ref ?_)
          rw [hl]; simp
        · rename_i o _ ho
          have hl : (S'.take m.length).length = m.length := C.len.symm
          split at hp
          · rename_i hw
            simp only [Bool.and_eq_true] at hw
            refine hp (m ++ [_]) H' _ ⟨e.kp, _, rfl⟩ (R'.put1 hb (by omega) hd ho hw.2) (.ref ?_)
            rw [hl]; simp
          · exact hp _ H' _ e R' (.ref hd)
        · exact hp _ H' _ e R' (.ref hd)
    | mt xs => exact hp _ H' v e R' rd
    | xv _ _ _ _ => exact hp _ H' v e R' rd
  · exact hp _ H' v e R' rd
theorem lookup_all {α : Type} {p : String × α → Bool} : ∀ {l : List (String × α)} {f : String} {y : α}, l.all p = true → l.lookup f = some y → ∃ g, p (g, y) = true
  | [], _, _, _, h => by simp at h
  | (g, z) :: l, f, y, ha, h => by
    simp only [List.all_cons, Bool.and_eq_true] at ha
    rw [List.lookup_cons] at h
    split at h
    · cases h; exact ⟨g, ha.1⟩
    · exact lookup_all ha.2 h
theorem tidyX_ok {m' : List Addr} {x : Ex} {c : Value} {dx : Option Addr} (R : RelS K H m S) (hp : Post cA K m H [] W (tidyX S S' x) Q) (e : Ext K H m H' m') (R' : RelS K H' m' S') (rx : RelX cA K H' m' x c dx) : W c dx [] H' := by
  unfold tidyX at hp
  split at hp
  · rename_i hc
    obtain ⟨t, rfl⟩ := e.pre
    have hb := tidy_bel R hc.1
    have C := R'.cut hb
    rw [← R.len] at hp
    refine hp m H' c dx e.cut C ?_
    obtain ⟨h1, d, fs, h2, h3, h4⟩ := rx
    refine ⟨h1, d, fs, h2, h3, fun f y hy => ?_⟩
    obtain ⟨v, h5, h6⟩ := h4 f y hy
    obtain ⟨g, hg⟩ := lookup_all hc.2 hy
    exact ⟨v, h5, h6.low rfl (by rw [R.len]; exact hg)⟩
  · exact hp _ H' c dx e R' rx
end

/-! ### a table of defs -/
/-- a def of the text -/
structure Ent where
  nm : Str
  st : Stmt
  N : List Str
  ps : List Str
  df : Df
  /-- for a method: its class -/
  cls : String := ""
  qual : Str := nm
/-- the name under which it is called -/
def Ent.top (e : Ent) : Str := if e.cls = "" then e.nm else "__debug__"
def fnB (N ps : List Str) (sc : Scope) : Bool :=
  (match sc.kind with | .function => true | _ => false) && (!sc.isCoroutine) && (!sc.isGenerator) && decide N.Nodup && decide (N.take ps.length = ps) && (ps.all fun x => locB sc x) && sc.names.all fun y => (match y.2 with | .free => false | _ => true)
theorem fnB_of {N ps : List Str} {sc : Scope} (h : fnB N ps sc = true) : FnScope N ps sc := by
  unfold fnB at h
  simp only [Bool.and_eq_true, decide_eq_true_eq, List.all_eq_true, Bool.not_eq_true'] at h
  obtain ⟨⟨⟨⟨⟨⟨h1, h2⟩, h3⟩, h4⟩, h5⟩, h6⟩, h7⟩ := h
  refine ⟨?_, h2, h3, h4, h5, fun x hx => ?_, fun y hy e => ?_⟩
  · split at h1
    · assumption
    · cases h1
  · obtain ⟨k, h8, h9⟩ := locB_of (h6 x hx)
    rcases h9 with rfl | rfl
    · exact .inl h8
    · exact .inr h8
  · have := h7 y hy
    rw [e] at this
    cases this
def Ent.chk (T : Tab) (e : Ent) : Bool := fnB e.N e.ps (defScope e.st) && decide (e.df.np = e.ps.length) && decide (e.df.n = e.N.length) && chkCz e.N T (defScope e.st) e.df.body (defBody e.st)
theorem rel_start {K : Fg} {H : Hp} {m : List Addr} {ds : List D} {vs : List V} (h : RelDs K H m ds vs) (n : Nat) : RelN K H m (ds.map some ++ List.replicate n none) (vs.map some ++ List.replicate n none) := by
  refine ⟨by simp [h.length], fun i d e => ?_⟩
  rw [List.getElem?_append] at e
  split at e
  · rename_i hi
    rw [List.getElem?_map] at e
    obtain ⟨d', e1, e2⟩ := Option.map_eq_some_iff.mp e
    cases e2
    obtain ⟨v, e3, r⟩ := h.get e1
    refine ⟨v, ?_, r⟩
    rw [List.getElem?_append_left (by rw [List.length_map, ← h.length]; simpa using hi), List.getElem?_map, e3]
    rfl
  · rw [List.getElem?_replicate] at e
    split at e <;> cases e
section
variable {P : Program} {w : World} {K : PySem.W.Frag} {mg : Str → Option Value} {base : Heap} {cA : Ca} {T : Tab} {ents : List Ent} {gl : Nat → Option PD}
def dfs (ents : List Ent) (f : Nat) : Option Df := (ents[f]?).map (·.df)
theorem call_len (hchk : ents.all (Ent.chk T) = true) (k : Nat) {g : Nat} {e' : Ent} (he' : ents[g]? = some e') : ∀ ds S, ds.length ≠ e'.ps.length → callI (dfs ents) gl k g ds S = .stuck := fun ds S hne => by
  have hc' := List.all_eq_true.mp hchk e' (List.mem_of_getElem? he')
  simp only [Ent.chk, Bool.and_eq_true, decide_eq_true_eq] at hc'
  cases k with
  | zero => rfl
  | succ k =>
    show callI (dfs ents) gl (k + 1) g ds S = .stuck
    unfold callI
    simp only [dfs, he', Option.map_some]
    rw [if_neg]
    rw [hc'.1.1.2]; exact hne
def OcIn (K : PySem.W.Frag) (mg : Str → Option Value) (ents : List Ent) (c : String) (fl : List String) (ms : List (String × Nat)) : Prop := ∃ C, ClsAt K C c ∧ mg (Str.ofString c) = some (.ref C) ∧ Cls K C ∧ (∀ f ∈ fl, NoAttr K C (Str.ofString f)) ∧ ∀ mn fi, (mn, fi) ∈ ms → ∃ (e : Ent) (fa : Addr) (fd : FuncData) (qual : Str), ents[fi]? = some e ∧ Fun K e.nm qual e.st fa fd ∧ Binds K fd e.ps [] ∧ Meth K C (Str.ofString mn) fa ∧ (mn = "__init__" → Mk K C fa)
theorem level (hn : T.fn = ents.map Ent.top) (hfun : ∀ e ∈ ents, ∃ fa fd qual, Fun K e.nm qual e.st fa fd ∧ (e.cls = "" → mg e.nm = some (.ref fa)) ∧ Binds K fd e.ps []) (hchk : ents.all (Ent.chk T) = true) (hblt : ∀ n ∈ bltNames, mg n = none)
    (hgl : ∀ (i : Nat) n, T.gl[i]? = some n → ∃ x u v, gl i = some x ∧ mg n = some u ∧ RelV v u ∧ ∀ H, RelP ⟨K, w⟩ H x v) (hgd : ∀ n t, (n, t) ∈ T.gd → ∃ p : Addr, mg n = some (.ref p) ∧ ∀ z x, t.lookup z = some x → ∃ v, KDct K w p (mkS z) v ∧ ∀ H, RelP ⟨K, w⟩ H x v) (hcls : ∀ n c fs, (n, c, fs) ∈ T.cl → mg n = some (.ref (cA c)) ∧ (c < 1000 → ClsOk cA P w K mg base n c fs ∧ CatOk cA K T.fl T.ids c)) (hoc : ∀ c fl ms, (c, fl, ms) ∈ T.oc → OcIn K mg ents c fl ms) (hhot : T.hot = false) :
    ∀ (k f : Nat) (e : Ent) (fa : Addr) (fd : FuncData) (qual : Str), ents[f]? = some e → Fun K e.nm qual e.st fa fd → FnOk P w K mg base (L2.CX P w) (2 * k + 2) fa fd e.ps (spI cA ⟨K, w⟩ e.ps.length (callI (dfs ents) gl k f))
  | 0, f, e, fa, fd, qual, he, F => ⟨fun vs H Q E h => h.1, fun A outer s H args us vs Q E _ _ _ _ h => by obtain ⟨_, _, _, _, _, _, h⟩ := h; exact h.elim⟩
  | k + 1, f, e, fa, fd, qual, he, F => by
    have hmem : e ∈ ents := List.mem_of_getElem? he
    have hc := List.all_eq_true.mp hchk e hmem
    simp only [Ent.chk, Bool.and_eq_true, decide_eq_true_eq] at hc
    obtain ⟨⟨⟨h1, h2⟩, h3⟩, h4⟩ := hc
    have S0 := fnB_of h1
    refine F.okX S0 (fun vs H Q E h => h.1) fun cdv A outer s H vs Q E hr h => ?_
    obtain ⟨hl, m, S, ds, rs, rd, hp⟩ := h
    have co : Cok cA T e.N (defScope e.st) (cxOf (L2.CX P w) P w K mg base e.N qual (defScope e.st) fa cdv A outer s H E) (2 * k + 2) ⟨callI (dfs ents) gl k, gl⟩ (fun c d _ H => E c d H) :=
      { calm := fun _ => rfl, room := fun _ => hr.mono (by omega), room1 := fun _ => hr.mono (by omega), two := by omega, un := (by have := hr.un; show (A.deeper (envOfC qual (defScope e.st) s.heap.objs.size fa cdv)).units + 200 < cLine; omega), gds := hgd, cls := hcls, hotX := fun z => by { rw [hhot] at z; cases z }, tk := takes_of rfl rfl rfl rfl, po := passes_of rfl, hN := rfl, nd := S0.nd
        vis := fun n h => by
          obtain ⟨q, h1, h2⟩ := visB_of h
          rcases h2 with rfl | rfl | rfl
          · exact .inl h1
          · exact .inr (.inl h1)
          · exact .inr (.inr h1)
        loc := fun n h => by
          obtain ⟨q, h1, h2⟩ := locB_of h
          refine ⟨?_, .inl rfl⟩
          rcases h2 with rfl | rfl
          · exact .inl h1
          · exact .inr h1
        glb := fun n h => glbB_of h
        cap := fun n h => h
        blt := hblt
        ocs := fun cn fl ms hq => by
          obtain ⟨C, o1, o2, o3, o4, o5⟩ := hoc cn fl ms hq
          refine ⟨C, ⟨o1, o2, o3, o4⟩, fun mn fi hm => ?_⟩
          obtain ⟨e', fa', fd', qual', he', F', g2, g3, g4⟩ := o5 mn fi hm
          exact ⟨fa', fd', e'.ps, g3, level hn hfun hchk hblt hgl hgd hcls hoc hhot k fi e' fa' fd' qual' he' F', g2, call_len hchk k he', g4⟩
        fns := fun g n hg hdb => by
          rw [hn, List.getElem?_map] at hg
          obtain ⟨e', he', rfl⟩ := Option.map_eq_some_iff.mp hg
          have hmem' : e' ∈ ents := List.mem_of_getElem? he'
          obtain ⟨fa', fd', qual', F', g1, g2⟩ := hfun e' hmem'
          have hcl : e'.cls = "" := by
            by_cases z : e'.cls = ""
            · exact z
            · unfold Ent.top at hdb; rw [if_neg z] at hdb; exact absurd hdb (by decide)
          have htop : e'.top = e'.nm := by unfold Ent.top; rw [if_pos hcl]
          rw [htop]
          exact ⟨fa', fd', e'.ps, level hn hfun hchk hblt hgl hgd hcls hoc hhot k g e' fa' fd' qual' he' F', g1 hcl, F'.kp, g2, call_len hchk k he'⟩
        gls := hgl }
    have hb := sndCz (cA := cA) T e.df.body (defScope e.st) (defBody e.st) h4 co rfl ⟨rfl, rfl⟩
    refine ⟨_, hb, m, ds.map some ++ List.replicate (e.df.n - e.df.np) none, S, ?_, rs, ?_⟩
    · unfold L2.start
      rw [h3, h2, hl]
      exact rel_start rd _
    · have hp2 : Post cA ⟨K, w⟩ m H [] (fun c d _ H => E c d H) (runB ⟨callI (dfs ents) gl k, gl⟩ e.df ds S) Q := by
        unfold callI at hp
        simp only [dfs, he, Option.map_some] at hp
        rw [if_pos (by rw [h2, rd.length, hl])] at hp
        exact hp
      unfold runB at hp2
      cases q : evCz ⟨callI (dfs ents) gl k, gl⟩ e.df.body (ds.map some ++ List.replicate (e.df.n - e.df.np) none) S with
      | nx ρ S' => rw [q] at hp2; exact fun m' H' σ' e1 rn1 rs1 => tidy_ok rs hp2 e1 rs1 (.p .non)
      | rt d S' => rw [q] at hp2; exact fun m' H' v e1 rs1 rd1 => tidy_ok rs hp2 e1 rs1 rd1
      | exc x ρ S' => rw [q] at hp2; exact fun m' H' σ' c dx e1 rn1 rs1 rx1 => tidyX_ok rs hp2 e1 rs1 rx1
      | bk ρ S' => rw [q] at hp2; exact hp2.elim
      | ct ρ S' => rw [q] at hp2; exact hp2.elim
      | stuck => rw [q] at hp2; exact hp2.elim
end
end PH

set_option maxHeartbeats 8000000
/-! PH, part Z: the exception classes of a program, from checks on what is written out. -/
namespace PH
open L2 PySem PySem.Spec PyProof.Rows NdefX
/-- an exception class over ValueError -/
def exObj (C : Addr) (o : Obj) : Bool := match o with
  | ⟨.type t, _, .cls ⟨_, _, C' :: bm, _, _, hd, _, _, _, _, dl⟩, ⟨[_, _, _, _, some (.builtin b), _]⟩⟩ => t == "type" && C' == .ref C && hd && !dl && PySem.HandSPX.refsVE bm && b == "ValueError.__new__"
  | _ => false
theorem exObj_of {C : Addr} {o : Obj} (h : exObj C o = true) : ∃ nm q N bs bm sn sub ab col dd k0 k1 k2 k3 k5, o = excClassObj nm q C N bs bm true sn sub ab col dd k0 k1 k2 k3 k5 "ValueError.__new__" ∧ PySem.HandSPX.refsVE bm = true := by
  unfold exObj at h
  split at h
  · rename_i t dd nm bs C' bm N q hd sn sub ab col dl k0 k1 k2 k3 b k5
    simp only [Bool.and_eq_true, beq_iff_eq, Bool.not_eq_true'] at h
    obtain ⟨⟨⟨⟨⟨h1, h2⟩, h3⟩, h4⟩, h5⟩, h6⟩ := h
    subst h1 h2 h3 h4 h6
    exact ⟨nm, q, N, bs, bm, sn, sub, ab, col, dd, k0, k1, k2, k3, k5, rfl, h5⟩
  · cases h
def oexB (K : PySem.W.Frag) (C : Addr) (o : Obj) : Bool := exObj C o && decide (PySem.W.findIn K (.ref C) "__setattr__" = some (some (.builtin "object.__setattr__"))) && decide (PySem.W.subIn K (.ref C) (.type "BaseException") = some true) && decide (PySem.W.typeIn K (.ref C) = some (.type "type")) && PySem.W.keepIn K (.ref C)
theorem oexB_of {K : PySem.W.Frag} {C : Addr} {o : Obj} (l : K.lookup C = some o) (h : oexB K C o = true) : OexC K C := by
  unfold oexB at h
  simp only [Bool.and_eq_true, decide_eq_true_eq] at h
  obtain ⟨⟨⟨⟨h1, h2⟩, h3⟩, h4⟩, h5⟩ := h
  obtain ⟨nm, q, N, bs, bm, sn, sub, ab, col, dd, k0, k1, k2, k3, k5, e, hb⟩ := exObj_of h1
  exact ⟨⟨nm, q, N, bs, bm, sn, sub, ab, col, dd, k0, k1, k2, k3, k5, by rw [l, e], hb⟩, h2, h3, h4, h5⟩
def supB (K : PySem.W.Frag) (C : Addr) : Bool := decide (PySem.W.ks_superIn K C C "__init__" = some (some (.builtin "ValueError.__init__"))) && decide (PySem.W.subIn K (.ref C) (.type "ValueError") = some true) && decide (PySem.W.mroIn K C (.ref C) = some true) && decide (PySem.W.nsIn K mainGlobals "super" = some none) && decide (PySem.W.nsIn K cStatics "thirdparty.any" = some none)
theorem supB_of {K : PySem.W.Frag} {C : Addr} (o : OexC K C) (h : supB K C = true) : SupK K C := by
  unfold supB at h
  simp only [Bool.and_eq_true, decide_eq_true_eq] at h
  obtain ⟨⟨⟨⟨h1, h2⟩, h3⟩, h4⟩, h5⟩ := h
  exact ⟨o, h1, h2, h3, h4, h5⟩
/-- the function's parts -/
def nfOf (fd : FuncData) : NF := ⟨fd.name, fd.qualname, fd.params, match fd.body with | .stmts b => b | _ => [], fd.scope, fd.closure, match fd.code with | .ref c => c | _ => 0⟩
def slfOf (fd : FuncData) : Str := ((fd.params.posonlyargs ++ fd.params.args).head?.map (·.arg)).getD ⟨#[]⟩
def fdB (fd : FuncData) : Bool := (match fd.body with | .stmts _ => true | _ => false) && decide (fd.globals = mainGlobals) && (match fd.defaults with | .none => true | _ => false) && (match fd.kwdefaults with | .none => true | _ => false) && fd.annotations.isNone && (match fd.code with | .ref _ => true | _ => false) && decide (fd.builtins = builtinsNs)
theorem fdB_of {fd : FuncData} (h : fdB fd = true) : fd = (nfOf fd).fd fd.doc fd.pyModule fd.closureTuple := by
  obtain ⟨a1, a2, a3, a4, a5, a6, a7, a8, a9, a10, a11, a12, a13, a14, a15⟩ := fd
  unfold fdB at h
  simp only [Bool.and_eq_true, decide_eq_true_eq] at h
  obtain ⟨⟨⟨⟨⟨⟨h1, h2⟩, h3⟩, h4⟩, h5⟩, h6⟩, h7⟩ := h
  cases a4 <;> first | cases h1 | skip
  cases a8 <;> first | cases h3 | skip
  cases a9 <;> first | cases h4 | skip
  cases a12 <;> first | cases h5 | skip
  cases a13 <;> first | cases h6 | skip
  subst h2 h7
  rfl

def supFB (K : PySem.W.Frag) (P : Program) (C : Addr) (fd : FuncData) : Bool :=
  (match fd.closure with
    | [(n, cc)] => n == ("__class__" : Str) && (match List.lookup cc K with
      | some ⟨_, _, .cell (some (.ref C')), _⟩ => C' == C
      | _ => false)
    | _ => false) &&
  ((fd.params.posonlyargs ++ fd.params.args).head?.map (·.arg)).isSome &&
  (match List.lookup (nfOf fd).c K with
    | some ⟨_, _, .fields vs, _⟩ => (match (vs[2]? : Option Value) with
      | some (Value.str file _) => (P.main.file : Str) == file
      | _ => false)
    | _ => false) &&
  decide (fd.scope.kind = .function) && decide (fd.scope.names.lookup ("super" : Str) = some .globalImplicit) && decide (fd.scope.names.lookup ("__class__" : Str) = some .free) && decide (fd.scope.names.lookup (slfOf fd) = some .local) && !(P.main.scope.names.lookup ("super" : Str)).isSome
theorem supFB_of {K : PySem.W.Frag} {P : Program} {C fI : Addr} {fd : FuncData} {oc : Value} {od : Option Addr} {sl : Array (Option Value)} (l : K.lookup fI = some ⟨oc, od, .func fd, sl⟩) (hf : fdB fd = true) (h : supFB K P C fd = true) : ∃ cc, SupF K P C fI cc (nfOf fd) (slfOf fd) := by
  unfold supFB at h
  simp only [Bool.and_eq_true, decide_eq_true_eq, Bool.not_eq_true'] at h
  obtain ⟨⟨⟨⟨⟨⟨⟨h1, h2⟩, h3⟩, h4⟩, h5⟩, h6⟩, h7⟩, h8⟩ := h
  split at h1
  · rename_i n cc hcl
    simp only [Bool.and_eq_true, beq_iff_eq] at h1
    obtain ⟨rfl, h1⟩ := h1
    split at h1
    · rename_i c1 c2 C' c3 hc
      have hC := beq_iff_eq.mp h1
      subst hC
      split at h3
      · rename_i f1 f2 vs f3 hcode
        split at h3
        · rename_i file tf hv
          refine ⟨cc, ⟨hcl, ⟨oc, od, sl, fd.doc, fd.pyModule, fd.closureTuple, by rw [← fdB_of hf]; exact l⟩, ?_, ⟨_, _, _, _, _, _, hcode, hv, h3⟩, ⟨_, _, _, hc⟩, h4, h5, h6, h7, h8⟩⟩
          show (fd.params.posonlyargs ++ fd.params.args).head?.map (·.arg) = some (slfOf fd)
          unfold slfOf
          cases q : (fd.params.posonlyargs ++ fd.params.args).head?.map (·.arg) with
          | none => rw [q] at h2; cases h2
          | some z => rfl
        · cases h3
      · cases h3
    · cases h1
  · cases h1
/-- all of an __init__ -/
def iniB (K : PySem.W.Frag) (P : Program) (C : Addr) (fs : List Str) (fd : FuncData) : Bool :=
  fdB fd && supFB K P C fd && PySem.W.codeIn K fd.code fd.qualname && nscB (slfOf fd :: fs ++ [("__class__" : Str)]) (slfOf fd :: fs) [("__class__" : Str)] fd.scope && initB (slfOf fd) fs (nfOf fd).body && (slfOf fd :: fs).all (fun g => !(g == ("__debug__" : Str)) && !(g == ("__classdict__" : Str))) && decide (fs.length ≤ 800) && decide fs.Nodup && fs.all (fun g => decide (PySem.W.findIn K (.ref C) g = some none)) && !fs.isEmpty
def excB (K : PySem.W.Frag) (D : Addr) : Bool := decide (PySem.W.findIn K (.ref D) "__getattribute__" = some (some (.builtin "BaseException.__getattribute__"))) && decide (PySem.W.findIn K (.ref D) "__getattr__" = some none) && decide (PySem.W.subIn K (.ref D) (.type "BaseException") = some true) && PySem.W.hasDictIn K D && decide (PySem.W.findIn K (.ref D) "__class__" = some (some (.builtin "object.__class__"))) && decide (PySem.W.specialIn K (.builtin "object.__class__") "__get__" = some (some (.builtin "getset_descriptor.__get__"))) && decide (PySem.W.takesIn K (.builtin "object.__class__") = some true) && decide (PySem.W.mroIn K D (.type "object") = some true)
theorem excB_of {K : PySem.W.Frag} {D : Addr} (h : excB K D = true) : ExcC K D := by
  unfold excB at h
  simp only [Bool.and_eq_true, decide_eq_true_eq] at h
  obtain ⟨⟨⟨⟨⟨⟨⟨h1, h2⟩, h3⟩, h4⟩, h5⟩, h6⟩, h7⟩, h8⟩ := h
  exact ⟨h1, h2, h3, h4, h5, h6, h7, h8⟩
def catB (K : PySem.W.Frag) (cA : Ca) (fl : List String) (ids : List Nat) (c : Nat) : Bool :=
  xfB K (cA c) && fl.all (fun f => decide (PySem.W.findIn K (.ref (cA c)) (Str.ofString f) = some none)) && excB K (cA c) && (PySem.W.clsIn K (cA c)).isSome && ids.all (fun c' => decide (PySem.W.exmOne K (.ref (cA c)) (.ref (cA c')) = some (subX c c')) && decide (PySem.W.kitOne K (.ref (cA c)) (.ref (cA c')) = some (subX c c'))) && decide (PySem.W.kitOne K (.ref (cA c)) (.type "ValueError") = some true)
theorem catB_of {K : PySem.W.Frag} {cA : Ca} {fl : List String} {ids : List Nat} {c : Nat} (h : catB K cA fl ids c = true) : CatOk cA K fl ids c := by
  unfold catB at h
  simp only [Bool.and_eq_true, decide_eq_true_eq, List.all_eq_true] at h
  obtain ⟨⟨⟨⟨⟨h1, h2⟩, h3⟩, h4⟩, h5⟩, h6⟩ := h
  exact ⟨xfB_ok h1, h2, excB_of h3, h4, fun c' hc => (h5 c' hc).1, fun c' hc => (h5 c' hc).2, h6⟩
/-- a class of the table, written out -/
structure ClsIn (K : PySem.W.Frag) (P : Program) (cA : Ca) (fl : List String) (ids : List Nat) (n : Str) (c : Nat) (fs : List String) : Prop where
  nm : PySem.W.nsIn K mainGlobals n = some (some (.ref (cA c)))
  own : c < 1000 → ∃ o fI oc od fd sl, K.lookup (cA c) = some o ∧ PySem.W.findIn K (.ref (cA c)) "__init__" = some (some (.ref fI)) ∧ PySem.W.typeIn K (.ref fI) = some (.type "function") ∧ K.lookup fI = some ⟨oc, od, .func fd, sl⟩ ∧
    oexB K (cA c) o = true ∧ supB K (cA c) = true ∧ iniB K P (cA c) (fs.map Str.ofString) fd = true ∧ catB K cA fl ids c = true ∧ ∀ us : List Value, us.length = (slfOf fd :: fs.map Str.ofString).length → bindArgs fd ⟨us, []⟩ = pure ((slfOf fd :: fs.map Str.ofString).zip us)
theorem cls_ok {K : PySem.W.Frag} {P : Program} {w : World} {mgl : Str → Option Value} {base : Heap} {cA : Ca} {fl : List String} {ids : List Nat} {n : Str} {c : Nat} {fs : List String} (h : ClsIn K P cA fl ids n c fs) (hm : mgl n = some (.ref (cA c))) (hc : c < 1000) :
    ClsOk cA P w K mgl base n c fs ∧ CatOk cA K fl ids c := by
  obtain ⟨o, fI, oc, od, fd, sl, g1, g2, g3, g4, g5, g6, g7, g8, g9⟩ := h.own hc
  have ox := oexB_of g1 g5
  have su := supB_of ox g6
  have ca := catB_of g8
  unfold iniB at g7
  simp only [Bool.and_eq_true, decide_eq_true_eq, List.all_eq_true, Bool.not_eq_true'] at g7
  obtain ⟨⟨⟨⟨⟨⟨⟨⟨⟨i1, i2⟩, i3⟩, i4⟩, i5⟩, i6⟩, i7⟩, i8⟩, i9⟩, i10⟩ := g7
  obtain ⟨cc, G⟩ := supFB_of g4 i1 i2
  have efd := fdB_of i1
  have hcd : PySem.W.codeIn K (.ref (nfOf fd).c) (nfOf fd).qual = true := by
    have : fd.code = .ref (nfOf fd).c := by
      have := congrArg FuncData.code efd
      exact this
    rw [← this]; exact i3
  cases hfs : fs.map Str.ofString with
  | nil => rw [hfs] at i10; cases i10
  | cons f1 r =>
    rw [hfs] at i4 i5 i6 i7 i9
    have fn := init_fn (CX := L2.CX P w) (w := w) (mg := mgl) (base := base) (k := 0) su G (by rw [← efd]; exact g4) hcd (nscope_by i4) i5 i9 i6 (by simp at i7; omega)
    rw [← efd, ← hfs] at fn
    exact ⟨⟨hm, ox, ⟨slfOf fd, fI, fd, g2, g3, fn, .all g9⟩, i8, by rw [← List.length_map (f := Str.ofString), hfs]; exact i7, ca.xf, fun f hf => i9 _ (by rw [← hfs]; exact List.mem_map_of_mem hf)⟩, ca⟩
end PH

set_option maxHeartbeats 4000000
/-! PH, part N: from a table of defs to a law's promise. -/
namespace PH
open L2 PySem PySem.Spec PyProof.Rows
/-- what stands in a class -/
def clsBody (s : Stmt) : List Stmt := match s with
  | .ClassDef _ _ _ b _ _ _ _ _ _ _ => b
  | _ => []
section
variable {K : PySem.W.Frag}
/-- a def stands in the written part -/
def Where (K : PySem.W.Frag) (e : Ent) (f : Addr) : Prop := (e.cls = "" ∧ PySem.W.nsIn K mainGlobals e.nm = some (some (.ref f))) ∨ (e.cls ≠ "" ∧ ∃ C, ClsAt K C e.cls ∧ PySem.W.findIn K (.ref C) e.nm = some (some (.ref f)) ∧ PySem.W.isFn K (.ref f) = true)
def EntIn (K : PySem.W.Frag) (e : Ent) : Prop := ∃ (f : Addr) (oc : Value) (od an : Option Addr) (osl : Array (Option Value)) (kV doc pm cd ct : Value), Where K e f ∧
  K.lookup f = some ⟨oc, od, .func (PySem.W.fnOf e.nm e.qual (defArgs e.st) (defBody e.st) (defScope e.st) .none kV doc pm an cd ct), osl⟩ ∧ PySem.W.codeIn K cd e.qual = true ∧ PySem.W.keepIn K (.ref f) = true
theorem ent_in {e : Ent} {f : Addr} {oc : Value} {od an : Option Addr} {osl : Array (Option Value)} {kV doc pm cd ct : Value} (h0 : e.cls = "") (h1 : PySem.W.nsIn K mainGlobals e.nm = some (some (.ref f)))
    (h2 : K.lookup f = some ⟨oc, od, .func (PySem.W.fnOf e.nm e.qual (defArgs e.st) (defBody e.st) (defScope e.st) .none kV doc pm an cd ct), osl⟩) (h3 : PySem.W.codeIn K cd e.qual = true) (h4 : PySem.W.keepIn K (.ref f) = true) : EntIn K e :=
  ⟨f, oc, od, an, osl, kV, doc, pm, cd, ct, .inl ⟨h0, h1⟩, h2, h3, h4⟩
theorem ent_inM {e : Ent} {f C : Addr} {oc : Value} {od an : Option Addr} {osl : Array (Option Value)} {kV doc pm cd ct : Value} (h0 : e.cls ≠ "") (hC : PySem.W.nsIn K mainGlobals (Str.ofString e.cls) = some (some (.ref C))) (h1 : PySem.W.findIn K (.ref C) e.nm = some (some (.ref f)))
    (h2 : K.lookup f = some ⟨oc, od, .func (PySem.W.fnOf e.nm e.qual (defArgs e.st) (defBody e.st) (defScope e.st) .none kV doc pm an cd ct), osl⟩) (h3 : PySem.W.codeIn K cd e.qual = true) (h4 : PySem.W.keepIn K (.ref f) = true) (h5 : PySem.W.isFn K (.ref f) = true) : EntIn K e :=
  ⟨f, oc, od, an, osl, kV, doc, pm, cd, ct, .inr ⟨h0, C, hC, h1, h5⟩, h2, h3, h4⟩
/-- a class with instances -/
def ocsB (K : PySem.W.Frag) (C : Addr) (fl : List String) : Bool := PySem.W.plainGet K C Str.empty && PySem.W.hasDictIn K C && PySem.W.plainOver K C && decide (PySem.W.findIn K (.ref C) "__setattr__" = some (some (.builtin "object.__setattr__"))) && fl.all (fun f => decide (PySem.W.findIn K (.ref C) (Str.ofString f) = some none)) && PySem.W.makesIn K C && PySem.W.keepIn K (.ref C)
def OcsIn (K : PySem.W.Frag) (c : String) (fl : List String) : Prop := ∃ C, ClsAt K C c ∧ ocsB K C fl = true
def AllO (K : PySem.W.Frag) : List (String × List String × List (String × Nat)) → Prop
  | [] => True
  | (c, fl, _) :: r => OcsIn K c fl ∧ AllO K r
theorem AllO.mem : ∀ {l : List (String × List String × List (String × Nat))}, AllO K l → ∀ c fl ms, (c, fl, ms) ∈ l → OcsIn K c fl
  | (c', fl', ms') :: r, g, c, fl, ms, h => by
    rcases List.mem_cons.mp h with z | z
    · cases z; exact g.1
    · exact AllO.mem g.2 c fl ms z
theorem ocs_in {c : String} {fl : List String} {C : Addr} (h1 : PySem.W.nsIn K mainGlobals (Str.ofString c) = some (some (.ref C))) (h2 : ocsB K C fl = true) : OcsIn K c fl := ⟨C, h1, h2⟩
/-- the methods' numbers are right -/
def ocChk (ents : List Ent) (oc : List (String × List String × List (String × Nat))) : Bool := oc.all fun q => decide (q.1 ≠ "") && q.2.2.all fun p => match ents[p.2]? with
  | some e => decide (e.cls = q.1) && decide (e.nm = Str.ofString p.1)
  | none => false
def EntB (e : Ent) : Prop := ∀ (kV doc pm : Value) (an : Option Addr) (cdv ct : Value) (us : List Value), us.length = e.ps.length → bindArgs (PySem.W.fnOf e.nm e.qual (defArgs e.st) (defBody e.st) (defScope e.st) .none kV doc pm an cdv ct) ⟨us, []⟩ = pure (e.ps.zip us)
def AllE (p : Ent → Prop) : List Ent → Prop
  | [] => True
  | e :: es => p e ∧ AllE p es
theorem AllE.mem {p : Ent → Prop} : ∀ {l : List Ent}, AllE p l → ∀ e ∈ l, p e
  | _ :: _, h, e, hm => by
    rcases List.mem_cons.mp hm with rfl | z
    · exact h.1
    · exact AllE.mem h.2 e z
def GlIn (K : PySem.W.Frag) (n : Str) (x : PD) : Prop := ∃ u v, PySem.W.nsIn K mainGlobals n = some (some u) ∧ RelV v u ∧ ∀ w H, RelP ⟨K, w⟩ H x v
def AllG (K : PySem.W.Frag) : List (Str × PD) → Prop
  | [] => True
  | (n, x) :: r => GlIn K n x ∧ AllG K r
theorem AllG.get : ∀ {l : List (Str × PD)} {i : Nat} {n : Str}, AllG K l → (l.map (·.1))[i]? = some n → ∃ x, (l[i]?).map (·.2) = some x ∧ GlIn K n x
  | [], i, n, _, h => by simp at h
  | (m, x) :: r, 0, n, g, h => by
    simp at h; subst h
    exact ⟨x, rfl, g.1⟩
  | (m, x) :: r, i + 1, n, g, h => by
    obtain ⟨y, h1, h2⟩ := AllG.get (l := r) (i := i) (n := n) g.2 (by simpa using h)
    exact ⟨y, by simpa using h1, h2⟩
theorem gl_int {n : Str} {i : Int} {t : Tok} (h : PySem.W.nsIn K mainGlobals n = some (some (.int i t))) : GlIn K n (.int i) := ⟨_, .int i, h, ⟨t, rfl⟩, fun _ _ => .int i⟩
theorem gl_str {n : Str} {s : Cs} {t : Tok} (h : PySem.W.nsIn K mainGlobals n = some (some (.str (mkS s) t))) (h1 : s.length ≤ LINE) (h2 : s.all (fun c => decide (c < 1114112)) = true) : GlIn K n (.str s) :=
  ⟨_, .str (mkS s), h, ⟨t, rfl⟩, fun _ _ => .str s ⟨h1, fun c hc => by have := List.all_eq_true.mp h2 c hc; simpa using this⟩⟩
/-- a constant, item by item, in the written part -/
def tupOf : Obj → Option (List Value)
  | ⟨.type n, _, .seq its _, _⟩ => if n == "tuple" && decide (its.size ≤ sizeLine) then some its.toList else none
  | _ => none
mutual
def relB (K : PySem.W.Frag) : PD → Value → Bool
  | .non, .none => true
  | .bl a, .bool b => a == b
  | .int i, .int j _ => decide (i = j)
  | .str s, .str t _ => decide (t = mkS s) && decide (s.length ≤ LINE) && s.all fun c => decide (c < 1114112)
  | .tup xs, .ref a => match List.lookup a K with
    | some o => match tupOf o with
      | some us => relBs K xs us
      | none => false
    | none => false
  | _, _ => false
def relBs (K : PySem.W.Frag) : List PD → List Value → Bool
  | [], [] => true
  | x :: xs, u :: us => relB K x u && relBs K xs us
  | _, _ => false
end
mutual
theorem relB_ok : ∀ (x : PD) (u : Value), relB K x u = true → ∃ v, RelV v u ∧ ∀ w H, RelP ⟨K, w⟩ H x v
  | .non, u, h => by
    cases u <;> simp only [relB, Bool.false_eq_true] at h
    exact ⟨.non, rfl, fun _ _ => .non⟩
  | .bl a, u, h => by
    cases u <;> simp only [relB, Bool.false_eq_true] at h
    rw [beq_iff_eq] at h; subst h
    exact ⟨.bl a, rfl, fun _ _ => .bl a⟩
  | .int i, u, h => by
    cases u <;> simp only [relB, Bool.false_eq_true] at h
    rw [decide_eq_true_eq] at h; subst h
    exact ⟨.int i, ⟨_, rfl⟩, fun _ _ => .int i⟩
  | .str s, u, h => by
    cases u <;> simp only [relB, Bool.false_eq_true] at h
    simp only [Bool.and_eq_true, decide_eq_true_eq, List.all_eq_true] at h
    obtain ⟨⟨rfl, h1⟩, h2⟩ := h
    exact ⟨.str (mkS s), ⟨_, rfl⟩, fun _ _ => .str s ⟨h1, h2⟩⟩
  | .tup xs, u, h => by
    cases u <;> simp only [relB, Bool.false_eq_true] at h
    rename_i a
    split at h
    · rename_i o ho
      split at h
      · rename_i us hu
        obtain ⟨vs, h1, h2⟩ := relBs_ok xs us h
        refine ⟨.ref a, rfl, fun w H => .tup (.inr ?_) (h2 w H)⟩
        unfold tupOf at hu
        split at hu
        · rename_i n d its m sl
          split at hu
          · rename_i hc
            cases hu
            simp only [Bool.and_eq_true, beq_iff_eq, decide_eq_true_eq] at hc
            exact ⟨_, its, m, ho, by rw [hc.1], rfl, hc.2, h1⟩
          · cases hu
        · cases hu
      · cases h
    · cases h
theorem relBs_ok : ∀ (xs : List PD) (us : List Value), relBs K xs us = true → ∃ vs, Vals vs us ∧ ∀ w H, RelPs ⟨K, w⟩ H xs vs
  | [], us, h => by
    cases us <;> simp only [relBs, Bool.false_eq_true] at h
    exact ⟨[], .nil, fun _ _ => .nil⟩
  | x :: xs, us, h => by
    cases us <;> simp only [relBs, Bool.false_eq_true, Bool.and_eq_true] at h
    obtain ⟨v, a1, a2⟩ := relB_ok x _ h.1
    obtain ⟨vs, b1, b2⟩ := relBs_ok xs _ h.2
    exact ⟨v :: vs, .cons a1 b1, fun w H => .cons (a2 w H) (b2 w H)⟩
end
theorem gl_data {n : Str} {x : PD} {u : Value} (h : PySem.W.nsIn K mainGlobals n = some (some u)) (h2 : relB K x u = true) : GlIn K n x :=
  let ⟨v, a, b⟩ := relB_ok x u h2
  ⟨u, v, h, a, b⟩
def glOf (l : List (Str × PD)) (i : Nat) : Option PD := (l[i]?).map (·.2)
def NoBlt (K : PySem.W.Frag) : List Str → Prop
  | [] => True
  | n :: ns => PySem.W.nsIn K mainGlobals n = some none ∧ NoBlt K ns
theorem NoBlt.mem : ∀ {l : List Str}, NoBlt K l → ∀ n ∈ l, PySem.W.nsIn K mainGlobals n = some none
  | _ :: _, h, e, hm => by
    rcases List.mem_cons.mp hm with rfl | z
    · exact h.1
    · exact NoBlt.mem h.2 e z
def fnOfE (e : Ent) (kV doc pm cd ct : Value) (an : Option Addr) : FuncData := PySem.W.fnOf e.nm e.qual (defArgs e.st) (defBody e.st) (defScope e.st) .none kV doc pm an cd ct
/-- where classes lie, from a list -/
def caOf (l : List (Nat × Addr)) : Ca := fun c => (l.lookup c).getD 0
def AllC (K : PySem.W.Frag) (P : Program) (cA : Ca) (fl : List String) (ids : List Nat) : List (Str × Nat × List String) → Prop
  | [] => True
  | q :: r => ClsIn K P cA fl ids q.1 q.2.1 q.2.2 ∧ AllC K P cA fl ids r
theorem AllC.mem {P : Program} {cA : Ca} {fl : List String} {ids : List Nat} : ∀ {l : List (Str × Nat × List String)}, AllC K P cA fl ids l → ∀ q ∈ l, ClsIn K P cA fl ids q.1 q.2.1 q.2.2
  | _ :: _, h, q, hm => by
    rcases List.mem_cons.mp hm with rfl | z
    · exact h.1
    · exact AllC.mem h.2 q z
/-- the checks of a class in one -/
def oneB (K : PySem.W.Frag) (P : Program) (cA : Ca) (fl : List String) (ids : List Nat) (c : Nat) (fs : List String) (o : Obj) (fd : FuncData) : Bool := oexB K (cA c) o && supB K (cA c) && iniB K P (cA c) (fs.map Str.ofString) fd && catB K cA fl ids c
theorem cls_in {P : Program} {cA : Ca} {fl : List String} {ids : List Nat} {n : Str} {c m : Nat} {fs : List String} {C fI : Addr} {o : Obj} {oc : Value} {od : Option Addr} {fd : FuncData} {sl : Array (Option Value)} (h0 : cA c = C) (h1 : PySem.W.nsIn K mainGlobals n = some (some (.ref C))) (h2 : K.lookup C = some o)
    (h3 : PySem.W.findIn K (.ref C) "__init__" = some (some (.ref fI))) (h4 : PySem.W.typeIn K (.ref fI) = some (.type "function")) (h5 : K.lookup fI = some ⟨oc, od, .func fd, sl⟩) (h6 : oneB K P cA fl ids c fs o fd = true) (hm : m = fs.length + 1)
    (h7 : ∀ us : List Value, us.length = m → bindArgs fd ⟨us, []⟩ = pure ((slfOf fd :: fs.map Str.ofString).zip us)) : ClsIn K P cA fl ids n c fs := by
  subst h0
  unfold oneB at h6
  simp only [Bool.and_eq_true] at h6
  obtain ⟨⟨⟨g1, g2⟩, g3⟩, g4⟩ := h6
  exact ⟨h1, fun _ => ⟨o, fI, oc, od, fd, sl, h2, h3, h4, h5, g1, g2, g3, g4, fun us hl => h7 us (by rw [hl, hm]; simp)⟩⟩
theorem cls_top {P : Program} {cA : Ca} {fl : List String} {ids : List Nat} {n : Str} {c : Nat} {fs : List String} {C : Addr} (hc : ¬ c < 1000) (h0 : cA c = C) (h1 : PySem.W.nsIn K mainGlobals n = some (some (.ref C))) : ClsIn K P cA fl ids n c fs := by
  subst h0
  exact ⟨h1, fun z => absurd z hc⟩
/-- a dict of the top -/
def DctIn (K : PySem.W.Frag) (w : World) (n : Str) (t : List (Cs × PD)) : Prop := ∃ p : Addr, PySem.W.nsIn K mainGlobals n = some (some (.ref p)) ∧ ∀ z x, t.lookup z = some x → ∃ v, KDct K w p (mkS z) v ∧ ∀ H, RelP ⟨K, w⟩ H x v
def AllD (K : PySem.W.Frag) (w : World) : List (Str × List (Cs × PD)) → Prop
  | [] => True
  | (n, t) :: r => DctIn K w n t ∧ AllD K w r
theorem AllD.mem {w : World} : ∀ {l : List (Str × List (Cs × PD))}, AllD K w l → ∀ n t, (n, t) ∈ l → DctIn K w n t
  | (m, u) :: r, g, n, t, h => by
    rcases List.mem_cons.mp h with z | z
    · cases z; exact g.1
    · exact AllD.mem g.2 n t z
def tblB (K : PySem.W.Frag) (p : Addr) (t : List (Cs × PD)) : Bool := t.all fun zx => match PySem.W.nsIn K p (mkS zx.1) with
  | some (some u) => relB K zx.2 u
  | _ => false
theorem lookup_mem {t : List (Cs × PD)} {z : Cs} {x : PD} (h : t.lookup z = some x) : (z, x) ∈ t := by
  induction t with
  | nil => cases h
  | cons a r ih =>
    obtain ⟨y, u⟩ := a
    rw [List.lookup_cons] at h
    split at h
    · rename_i e
      rw [eq_of_beq e]
      cases h; exact List.mem_cons_self
    · exact List.mem_cons_of_mem _ (ih h)
theorem dct_in {w : World} {n : Str} {p : Addr} {t : List (Cs × PD)} {es : Array DictEntry} {j : Nat} (h1 : PySem.W.nsIn K mainGlobals n = some (some (.ref p))) (h2 : K.lookup p = some ⟨.type "dict", none, .dict es j, #[]⟩) (h3 : PySem.W.KeysLit w.params es.toList) (h4 : tblB K p t = true) : DctIn K w n t := by
  refine ⟨p, h1, fun z x hx => ?_⟩
  have := List.all_eq_true.mp h4 _ (lookup_mem hx)
  dsimp only at this
  split at this
  · rename_i u hu
    obtain ⟨v, a, b⟩ := relB_ok x u this
    exact ⟨v, ⟨es, j, u, h2, h3, hu, a⟩, b w⟩
  · cases this
/-- the law's def, from the table -/
theorem attach {P : Program} {w : World} {mg : Str → Option Value} {ents : List Ent} {gls : List (Str × PD)} {fa : Addr} {h : Heap} (k f : Nat) (e : Ent) (cl : List (Str × Nat × List String)) (gd : List (Str × List (Cs × PD))) (oc : List (String × List String × List (String × Nat))) (cA : Ca) (KX : K.In h) (G : h.Ns mainGlobals mg) (hent : AllE (EntIn K) ents) (hb : AllE EntB ents)
    (hblt : NoBlt K bltNames) (hgl : AllG K gls) (hgd : AllD K w gd) (hcl : AllC K P cA (cl.flatMap (·.2.2)) (cl.map (·.2.1)) cl) (hoc : AllO K oc) (hocc : ocChk ents oc = true) (hchk : ents.all (Ent.chk ⟨ents.map Ent.top, gls.map (·.1), cl, gd, oc, false⟩) = true) (he : ents[f]? = some e) (hps : e.ps = [("script" : Str)]) (hcls0 : e.cls = "") (hfa : mg e.nm = some (.ref fa)) :
    ∃ fd : FuncData, (∀ (s : Shared) (u : Value), BindsTo s fd ⟨[u], []⟩ [(("script" : Str), u)]) ∧
      ∀ base : Heap, K.In base → base.Ns mainGlobals mg → FnOk P w K mg base (L2.CX P w) (2 * k + 2) fa fd [("script" : Str)] (fun vs H Q E => ∀ cA, spI cA ⟨K, w⟩ 1 (callI (dfs ents) (glOf gls) k f) vs H Q E) := by
  have hmem : e ∈ ents := List.mem_of_getElem? he
  have mk : ∀ e ∈ ents, ∃ fa fd qual, Fun K e.nm qual e.st fa fd ∧ (e.cls = "" → mg e.nm = some (.ref fa)) ∧ Binds K fd e.ps [] := fun e hm => by
    obtain ⟨f, oc, od, an, osl, kV, doc, pm, cd, ct, h1, h2, h3, h4⟩ := hent.mem e hm
    have F := fun_mk (st := e.st) h2 h3 h4
    refine ⟨f, _, e.qual, F, fun hc => ?_, F.binds (hb.mem e hm)⟩
    rcases h1 with ⟨_, h1⟩ | ⟨h1, _⟩
    · exact PySem.W.mg_of KX G h1
    · exact absurd hc h1
  have mo : ∀ c fl ms, (c, fl, ms) ∈ oc → OcIn K mg ents c fl ms := fun c fl ms hq => by
    obtain ⟨C, hC, hB⟩ := hoc.mem c fl ms hq
    unfold ocsB at hB
    simp only [Bool.and_eq_true, decide_eq_true_eq, List.all_eq_true] at hB
    obtain ⟨⟨⟨⟨⟨⟨b1, b2⟩, b3⟩, b4⟩, b5⟩, b6⟩, b7⟩ := hB
    refine ⟨C, hC, PySem.W.mg_of KX G hC, ⟨b1, b2, b3, b4⟩, b5, fun mn fi hm => ?_⟩
    have hcc := List.all_eq_true.mp hocc _ hq
    simp only [Bool.and_eq_true, decide_eq_true_eq, List.all_eq_true] at hcc
    obtain ⟨hne, hcc⟩ := hcc
    have hcm := hcc _ hm
    dsimp only at hcm
    split at hcm
    · rename_i e' he'
      simp only [Bool.and_eq_true, decide_eq_true_eq] at hcm
      obtain ⟨hc1, hc2⟩ := hcm
      have hm' : e' ∈ ents := List.mem_of_getElem? he'
      obtain ⟨f, oc, od, an, osl, kV, doc, pm, cd, ct, h1, h2, h3, h4⟩ := hent.mem e' hm'
      have F := fun_mk (st := e'.st) h2 h3 h4
      rcases h1 with ⟨h1, _⟩ | ⟨_, C', hC', h1, h5⟩
      · exact absurd (hc1.symm.trans h1) hne
      · rw [hc1] at hC'
        cases hC.one hC'
        rw [hc2] at h1
        refine ⟨e', f, _, e'.qual, he', F, F.binds (hb.mem e' hm'), ⟨h1, h5, h4⟩, fun hi => ⟨b6, ?_, h5, b7⟩⟩
        subst hi
        exact h1
    · cases hcm
  obtain ⟨f', oc', od, an, osl, kV, doc, pm, cd, ct, h1, h2, h3, h4⟩ := hent.mem e hmem
  have F := fun_mk (st := e.st) h2 h3 h4
  replace h1 : PySem.W.nsIn K mainGlobals e.nm = some (some (.ref f')) := by
    rcases h1 with ⟨_, h1⟩ | ⟨h1, _⟩
    · exact h1
    · exact absurd hcls0 h1
  have e1 := hfa.symm.trans (PySem.W.mg_of KX G h1)
  cases e1
  refine ⟨_, fun s u => .of_eq (by rw [hb.mem e hmem kV doc pm an cd ct [u] (by rw [hps]; rfl), hps]; rfl), fun base KB GB => ?_⟩
  have L := level (P := P) (w := w) (base := base) (cA := cA) (T := ⟨ents.map Ent.top, gls.map (·.1), cl, gd, oc, false⟩) (ents := ents) (gl := glOf gls) rfl mk hchk (fun n hn => PySem.W.mg_none_of KX G (hblt.mem n hn))
    (fun i n hi => by
      obtain ⟨x, g1, u, v, g2, g3, g4⟩ := hgl.get hi
      exact ⟨x, u, v, g1, PySem.W.mg_of KX G g2, g3, g4 w⟩)
    (fun n t hq => by
      obtain ⟨p, g1, g2⟩ := hgd.mem n t hq
      exact ⟨p, PySem.W.mg_of KX G g1, g2⟩)
    (fun n c fs hq => by
      have hi := hcl.mem _ hq
      have hm := PySem.W.mg_of KX G hi.nm
      exact ⟨hm, fun hc => cls_ok hi hm hc⟩) mo rfl k f e fa _ e.qual he F
  rw [hps] at L
  exact L.imp fun vs H Q E z => z cA
theorem hCX_of {P : Program} {w : World} {H : Hp} {s : Shared} {e : Value} {s' : Shared} (h : L2.CX P w [] H s (fun _ _ _ => False) e s') : False := by
  obtain ⟨_, _, _, _, _, _, _, _, _, _, _, _, z⟩ := h
  exact z
/-- the script's heap -/
theorem fin_sp {w : World} {H : Hp} {a : Addr} {ns : List Int} {cA : Ca} {F : List D → Sto → Res D} {E : XK} (hO : Only H) (hS : SqL K H a (ns.map V.int)) (ht : ∃ S', F [.ref 0] [.fz (ns.map .int)] = .ok (.p (.bl true)) S') :
    spI cA ⟨K, w⟩ 1 F [.ref a] H (fun v _ => v = .bl true) E := by
  have fz : FzL ⟨K, w⟩ H a (ns.map V.int) := by
    rcases hS with (h | ⟨o, h⟩) | h
    · rcases hO a with z | ⟨o, xs, z⟩ <;> rw [h] at z <;> cases z
    · exact .inl ⟨o, h⟩
    · exact .inr h
  have rel : ∀ ns : List Int, RelPs ⟨K, w⟩ H (ns.map .int) (ns.map V.int) := fun ns => by
    induction ns with
    | nil => exact .nil
    | cons n ns ih => exact .cons (.int n) ih
  refine ⟨rfl, [a], [.fz (ns.map .int)], [.ref 0], ⟨rfl, fun n o h => ?_, fun i j b o u hi hj e1 e2 m1 m2 => ?_⟩, .cons (.ref rfl) .nil, ?_⟩
  · cases n with
    | zero => simp at h; subst h; exact ⟨a, rfl, .fz fz (rel ns)⟩
    | succ n => simp at h
  · cases i with
    | zero => simp at e1; subst e1; cases m1
    | succ n => simp at e1
  · obtain ⟨S', hS'⟩ := ht
    rw [hS']
    intro m' H' v e rs rd
    cases rd with
    | p h => cases h; rfl
end
end PH

set_option maxHeartbeats 4000000
/-! PH, part O: how a term is worked out: rules for simp, loops, comprehensions. -/
namespace PH
open L2 PySem PySem.Spec PyProof.Rows
section
variable {M : Mo} {ρ : Nv} {S : Sto}
@[simp] theorem Res.bind_ok' {α β : Type} (a : α) (S : Sto) (f : α → Sto → Res β) : (Res.ok a S).bind f = f a S := rfl
@[simp] theorem Res.out_ok {α : Type} (a : α) (S : Sto) (ρ : Nv) (f : α → Sto → Out) : (Res.ok a S).out ρ f = f a S := rfl
@[simp] theorem Res.bind_stuck {α β : Type} (f : α → Sto → Res β) : (Res.stuck : Res α).bind f = .stuck := rfl
@[simp] theorem Out.seq_nx (ρ : Nv) (S : Sto) (f : Nv → Sto → Out) : (Out.nx ρ S).seq f = f ρ S := rfl
@[simp] theorem Out.seq_rt (d : D) (S : Sto) (f : Nv → Sto → Out) : (Out.rt d S).seq f = .rt d S := rfl
@[simp] theorem Out.seq_bk (ρ : Nv) (S : Sto) (f : Nv → Sto → Out) : (Out.bk ρ S).seq f = .bk ρ S := rfl
@[simp] theorem Out.seq_ct (ρ : Nv) (S : Sto) (f : Nv → Sto → Out) : (Out.ct ρ S).seq f = .ct ρ S := rfl
@[simp] theorem ev_v (i) : evE M (.v i) ρ S = match ρ[i]? with
    | some (some d) => .ok d S
    | _ => .stuck := by first | (rw [evE]; done) | (rw [evE]; cases ρ[i]? with | none => rfl | some o => cases o <;> rfl)
@[simp] theorem ev_k (x) : evE M (.k x) ρ S = .ok (.p x) S := by rw [evE]; rfl
@[simp] theorem ev_g (i) : evE M (.g i) ρ S = match M.glob i with
    | some x => .ok (.p x) S
    | none => .stuck := by rw [evE]; rfl
@[simp] theorem ev_tp (es) : evE M (.tp es) ρ S = (evEs M es ρ S).bind fun ds S => .ok (mkT ds) S := by rw [evE]
@[simp] theorem ev_ls (es) : evE M (.ls es) ρ S = (evEs M es ρ S).bind fun ds S => .ok (.ref S.length) (S ++ [mkL ds]) := by rw [evE]; rfl
@[simp] theorem ev_d0 : evE M .d0 ρ S = .ok (.ref S.length) (S ++ [.dc []]) := by rw [evE]; rfl
@[simp] theorem ev_d0t : evE M .d0t ρ S = .ok (.ref S.length) (S ++ [.dt []]) := by rw [evE]; rfl
@[simp] theorem ev_dix (a i) : evE M (.dix a i) ρ S = (evE M a ρ S).bind fun x S => (evE M i ρ S).bind fun y S => dIx x y S := by rw [evE]
@[simp] theorem ev_din (neg i a) : evE M (.din neg i a) ρ S = (evE M i ρ S).bind fun y S => (evE M a ρ S).bind fun x S => dIn neg y x S := by rw [evE]
@[simp] theorem ev_dg1 (a k) : evE M (.dg1 a k) ρ S = (evE M a ρ S).bind fun x S => if recvD x S then (evE M k ρ S).bind fun y S => dGet2 x y (.p .non) S else .stuck := by rw [evE]
@[simp] theorem ev_dg2 (a k z) : evE M (.dg2 a k z) ρ S = (evE M a ρ S).bind fun x S => if recvD x S then (evE M k ρ S).bind fun y S => (evE M z ρ S).bind fun z S => dGet2 x y z S else .stuck := by rw [evE]
theorem ev_dcm (t own tg it kx vx) : evE M (.dcm t own tg it kx vx) ρ S = (evW M it ρ S).bind fun w S => dcI w tg (fun _ S => .ok true S) (evE M kx) (evE M vx) (wipeN ρ own) S.length w.ds (S ++ [newD t]) := by rw [evE]
theorem ev_dcmI (t own tg it c kx vx) : evE M (.dcmI t own tg it c kx vx) ρ S = (evW M it ρ S).bind fun w S => dcI w tg (fun ρ S => (evE M c ρ S).bind truI) (evE M kx) (evE M vx) (wipeN ρ own) S.length w.ds (S ++ [newD t]) := by rw [evE]
@[simp] theorem ev_bin (op a b) : evE M (.bin op a b) ρ S = (evE M a ρ S).bind fun x S => (evE M b ρ S).bind fun y S => binI op x y S := by rw [evE]
@[simp] theorem ev_neg (a) : evE M (.neg a) ρ S = (evE M a ρ S).bind negI := by rw [evE]
@[simp] theorem ev_cmp (op a b) : evE M (.cmp op a b) ρ S = (evE M a ρ S).bind fun x S => (evE M b ρ S).bind fun y S => cmpI op x y S := by rw [evE]
@[simp] theorem ev_chn (o1 o2 a b c) : evE M (.chn o1 o2 a b c) ρ S = (evE M a ρ S).bind fun x S => (evE M b ρ S).bind fun y S => (cmpI o1 x y S).bind fun t S => (truI t S).bind fun k S =>
    if k then (evE M c ρ S).bind fun z S => cmpI o2 y z S else ret1 (.bl false) S := by rw [evE]
@[simp] theorem ev_bo (o es) : evE M (.bo o es) ρ S = evB M o es ρ S := by rw [evE]
@[simp] theorem ev_no (a) : evE M (.no a) ρ S = (evE M a ρ S).bind fun x S => (truI x S).bind fun k S => .ok (.p (.bl (!k))) S := by rw [evE]; rfl
@[simp] theorem ev_ife (c a b) : evE M (.ife c a b) ρ S = (evE M c ρ S).bind fun x S => (truI x S).bind fun k S => if k then evE M a ρ S else evE M b ρ S := by rw [evE]
@[simp] theorem ev_ix (a i) : evE M (.ix a i) ρ S = (evE M a ρ S).bind fun x S => (evE M i ρ S).bind fun y S => ixI x y S := by rw [evE]
@[simp] theorem ev_slN (a) : evE M (.slN a) ρ S = (evE M a ρ S).bind fun x S => slI x none none S := by rw [evE]
@[simp] theorem ev_slL (a lo) : evE M (.slL a lo) ρ S = (evE M a ρ S).bind fun x S => (evE M lo ρ S).bind fun l S => asInt l S fun i => slI x (some i) none S := by rw [evE]
@[simp] theorem ev_slH (a hi) : evE M (.slH a hi) ρ S = (evE M a ρ S).bind fun x S => (evE M hi ρ S).bind fun l S => asInt l S fun i => slI x none (some i) S := by rw [evE]
@[simp] theorem ev_sl (a lo hi) : evE M (.sl a lo hi) ρ S = (evE M a ρ S).bind fun x S => (evE M lo ρ S).bind fun l S => asInt l S fun i => (evE M hi ρ S).bind fun l S => asInt l S fun j => slI x (some i) (some j) S := by rw [evE]
@[simp] theorem ev_call (f es) : evE M (.call f es) ρ S = (evEs M es ρ S).bind fun ds S => M.call f ds S := by rw [evE]
@[simp] theorem ev_blt (b es) : evE M (.blt b es) ρ S = (evEs M es ρ S).bind fun ds S => bltI b ds S := by rw [evE]
@[simp] theorem ev_isi (a t) : evE M (.isi a t) ρ S = (evE M a ρ S).bind fun x S => if known x S then .ok (.p (.bl (isTy x S t))) S else .stuck := by rw [evE]; rfl
@[simp] theorem ev_isT (a ts) : evE M (.isT a ts) ρ S = (evE M a ρ S).bind fun x S => if known x S then .ok (.p (.bl (ts.any (isTy x S)))) S else .stuck := by rw [evE]; rfl
@[simp] theorem ev_mth (m a es) : evE M (.mth m a es) ρ S = (evE M a ρ S).bind fun x S => if recv m x S then (evEs M es ρ S).bind fun ds S => mthI m x ds S else .stuck := by rw [evE]
@[simp] theorem ev_lc (own tg it elt) : evE M (.lc own tg it elt) ρ S = (evW M it ρ S).bind fun w S => if w.ds.length ≤ LINE then
      lcI w tg (fun _ S => .ok true S) (evE M elt) (wipeN ρ own) S.length (.pl []) w.ds (S ++ [.pl []]) else .stuck := by rw [evE]
@[simp] theorem ev_lcI (own tg it c elt) : evE M (.lcI own tg it c elt) ρ S = (evW M it ρ S).bind fun w S => if w.ds.length ≤ LINE then
      lcI w tg (fun ρ S => (evE M c ρ S).bind truI) (evE M elt) (wipeN ρ own) S.length (.pl []) w.ds (S ++ [.pl []]) else .stuck := by rw [evE]
@[simp] theorem evs_nil : evEs M .nil ρ S = .ok [] S := by rw [evEs]
@[simp] theorem evs_cons (e es) : evEs M (.cons e es) ρ S = (evE M e ρ S).bind fun d S => (evEs M es ρ S).bind fun ds S => .ok (d :: ds) S := by rw [evEs]
@[simp] theorem evb_one (o e) : evB M o (.cons e .nil) ρ S = evE M e ρ S := by rw [evB]
@[simp] theorem evb_and (e e2 es) : evB M .And (.cons e (.cons e2 es)) ρ S = (evE M e ρ S).bind fun d S => (truI d S).bind fun k S => if k = true then evB M .And (.cons e2 es) ρ S else .ok d S := by
  rw [evB]
  · congr 1; funext d S; congr 1; funext k S; cases k <;> rfl
  · intro h; cases h
@[simp] theorem evb_or (e e2 es) : evB M .Or (.cons e (.cons e2 es)) ρ S = (evE M e ρ S).bind fun d S => (truI d S).bind fun k S => if k = true then .ok d S else evB M .Or (.cons e2 es) ρ S := by
  rw [evB]
  · congr 1; funext d S; congr 1; funext k S; cases k <;> rfl
  · intro h; cases h
@[simp] theorem evw_of (e) : evW M (.of e) ρ S = (evE M e ρ S).bind wkOf := by rw [evW]
@[simp] theorem evw_rg1 (a) : evW M (.rg1 a) ρ S = (evE M a ρ S).bind fun x S => match x with
    | .p (.int n) => if small n then .ok ⟨rgS 0 1 n.toNat, none⟩ S else .stuck
    | _ => .stuck := by rw [evW] <;> congr 1
@[simp] theorem evw_rgL (a) : evW M (.rgL a) ρ S = (evE M a ρ S).bind fun x S => (bltI .len [x] S).bind fun n S => match n with
    | .p (.int n) => .ok ⟨rgS 0 1 n.toNat, none⟩ S
    | _ => .stuck := by rw [evW] <;> congr 1
@[simp] theorem evw_rg2 (a b) : evW M (.rg2 a b) ρ S = (evE M a ρ S).bind fun x S => (evE M b ρ S).bind fun y S => match x, y with
    | .p (.int i), .p (.int j) => if small i && small j then .ok ⟨rgS i 1 (j - i).toNat, none⟩ S else .stuck
    | _, _ => .stuck := by rw [evW] <;> congr 1
@[simp] theorem evc_ret (e) : evC M (.ret e) ρ S = (evE M e ρ S).out ρ .rt := by rw [evC]
@[simp] theorem evc_retN : evC M .retN ρ S = .rt (.p .non) S := by rw [evC]
@[simp] theorem evc_asg (tg e) : evC M (.asg tg e) ρ S = (evE M e ρ S).out ρ fun d S => match asgT tg d ρ with
    | some ρ' => .nx ρ' S
    | none => .stuck := by rw [evC] <;> congr 1
@[simp] theorem evc_ex (e) : evC M (.ex e) ρ S = (evE M e ρ S).out ρ fun _ S => .nx ρ S := by rw [evC]
@[simp] theorem evc_sub (a i e) : evC M (.sub a i e) ρ S = (evE M e ρ S).out ρ fun y S => (evE M a ρ S).out ρ fun x S => (evE M i ρ S).out ρ fun k S => match subI x k y S with
    | some S' => .nx ρ S'
    | none => .stuck := by rw [evC] <;> congr 1
@[simp] theorem evc_dsu (a i e) : evC M (.dsu a i e) ρ S = (evE M e ρ S).out ρ fun y S => (evE M a ρ S).out ρ fun x S => (evE M i ρ S).out ρ fun k S => match dPut x k y S with
    | some S' => .nx ρ S'
    | none => .stuck := by rw [evC] <;> congr 1
@[simp] theorem evc_ddl (a i) : evC M (.ddl a i) ρ S = (evE M a ρ S).out ρ fun x S => (evE M i ρ S).out ρ fun k S => match dDel x k S with
    | some S' => .nx ρ S'
    | none => .stuck := by rw [evC] <;> congr 1
@[simp] theorem evc_ite (c t f) : evC M (.ite c t f) ρ S = ((evE M c ρ S).bind truI).out ρ fun k S => if k then evCz M t ρ S else evCz M f ρ S := by rw [evC]; rfl
@[simp] theorem evc_for (tg it body) : evC M (.forr tg it body) ρ S = (evW M it ρ S).out ρ fun w S => forI w tg (evCz M body) w.ds ρ S := by rw [evC]
@[simp] theorem evc_whl (c body) : evC M (.whl c body) ρ S = whlI (fun ρ S => (evE M c ρ S).bind truI) (evCz M body) ρ S := by rw [evC]; rfl
@[simp] theorem evc_pas : evC M .pas ρ S = .nx ρ S := by rw [evC]
@[simp] theorem evc_brk : evC M .brk ρ S = .bk ρ S := by rw [evC]
@[simp] theorem ev_dead : evE M .dead ρ S = .stuck := by rw [evE]
@[simp] theorem evc_dead : evC M .dead ρ S = .stuck := by rw [evC]
@[simp] theorem Res.bind_exc {α β : Type} (x : Ex) (S : Sto) (f : α → Sto → Res β) : (Res.exc x S : Res α).bind f = .exc x S := rfl
@[simp] theorem Res.out_exc {α : Type} (x : Ex) (S : Sto) (ρ : Nv) (f : α → Sto → Out) : (Res.exc x S : Res α).out ρ f = .exc x ρ S := rfl
@[simp] theorem Out.seq_exc (x : Ex) (ρ : Nv) (S : Sto) (f : Nv → Sto → Out) : (Out.exc x ρ S).seq f = .exc x ρ S := rfl
theorem evc_unl {ts : List Tg} {e : E} {d : D} {xs : List D} {S1 : Sto} {ρ1 : Nv} (h : evE M e ρ S = .ok d S1) (hl : lsts d S1 = some xs) (ha : asgTs ts xs ρ = some ρ1) : evC M (.unl ts e) ρ S = .nx ρ1 S1 := by
  rw [evC, h]
  simp only [Res.out_ok, hl, ha]
@[simp] theorem evc_rse (c fs es) : evC M (.rse c fs es) ρ S = (evEs M es ρ S).out ρ fun ds S => if ds.length = fs.length then .exc ⟨c, fs.zip ds⟩ ρ S else .stuck := by rw [evC]
theorem ev_fld {i : Nat} {f : String} {a d c : Nat} {fs : List (String × PD)} {y : PD} (h : ρ[i]? = some (some (.xv a d c fs))) (hM : M.glob XC = some (.tup [.int a, .int d, .int c])) (hl : fs.lookup f = some y) : evE M (.fld i f) ρ S = .ok (.p y) S := by
  rw [evE, h, hM]
  simp only [and_self, if_true, hl]
  rfl
theorem ev_isx {i : Nat} {a d c : Nat} {fs : List (String × PD)} {cs : List Nat} (h : ρ[i]? = some (some (.xv a d c fs))) (hM : M.glob XC = some (.tup [.int a, .int d, .int c])) : evE M (.isx i cs) ρ S = .ok (.p (.bl (cs.any (subX c)))) S := by
  rw [evE, h, hM]
  simp only [and_self, if_true]
  rfl
theorem any_eq {F : Nat → Nat → Out} {r : Out} (h : ∀ a d, F a d = r) : anyAt F = r := by
  have hx : ∃ r, ∀ a d, F a d = r := ⟨r, h⟩
  unfold anyAt
  rw [dif_pos hx, ← hx.choose_spec 0 0, h]
/-- try: no exception -/
theorem trx_no {body suite : Cz} {kn : List Nat} {c i : Nat} {r : Out} (hb : evCz M body ρ S = r) (h : ∀ x ρ1 S1, r ≠ .exc x ρ1 S1) : evC M (.trx body kn c i suite) ρ S = r := by
  rw [evC]
  unfold trxF
  rw [hb]
  cases r with
  | exc x ρ1 S1 => exact absurd rfl (h x ρ1 S1)
  | _ => rfl
/-- try: an exception that is caught -/
theorem trx_exc {body suite : Cz} {kn : List Nat} {c i : Nat} {x : Ex} {ρ1 : Nv} {S1 : Sto} {fs : List (String × PD)} {r : Out} (hb : evCz M body ρ S = .exc x ρ1 S1) (hk : x.c ∈ kn) (hs : subX x.c c = true) (hf : allX x.fs = some fs)
    (h : ∀ a d, (evCz (M.at a d x.c) suite (ρ1.set i (some (.xv a d x.c fs))) S1).gone i = r) : evC M (.trx body kn c i suite) ρ S = r := by
  rw [evC]
  unfold trxF
  rw [hb]
  simp only [hk, hs, if_true, hf]
  exact any_eq h
theorem try0_no {body suite : Cz} {kn : List Nat} {c : Nat} {r : Out} (hb : evCz M body ρ S = r) (h : ∀ x ρ1 S1, r ≠ .exc x ρ1 S1) : evC M (.try0 body kn c suite) ρ S = r := by
  rw [evC]
  unfold try0F
  rw [hb]
  cases r with
  | exc x ρ1 S1 => exact absurd rfl (h x ρ1 S1)
  | _ => rfl
theorem try0_exc {body suite : Cz} {kn : List Nat} {c : Nat} {x : Ex} {ρ1 : Nv} {S1 : Sto} {r : Out} (hb : evCz M body ρ S = .exc x ρ1 S1) (hk : x.c ∈ kn) (hs : subX x.c c = true) (h : ∀ a d, (evCz (M.at a d x.c) suite ρ1 S1).noX = r) : evC M (.try0 body kn c suite) ρ S = r := by
  rw [evC]
  unfold try0F
  rw [hb]
  simp only [hk, hs, if_true]
  exact any_eq h
theorem evz_exc {c : C} {cs : Cz} {x : Ex} {ρ1 : Nv} {S1 : Sto} (h : evC M c ρ S = .exc x ρ1 S1) : evCz M (.cons c cs) ρ S = .exc x ρ1 S1 := by rw [evCz, h]; rfl
@[simp] theorem evc_cnt : evC M .cnt ρ S = .ct ρ S := by rw [evC]
@[simp] theorem evz_nil : evCz M .nil ρ S = .nx ρ S := by rw [evCz]
@[simp] theorem evz_cons (c cs) : evCz M (.cons c cs) ρ S = (evC M c ρ S).seq (evCz M cs) := by rw [evCz]
theorem evz_step {c : C} {cs : Cz} {ρ1 : Nv} {S1 : Sto} (h : evC M c ρ S = .nx ρ1 S1) : evCz M (.cons c cs) ρ S = evCz M cs ρ1 S1 := by rw [evz_cons, h]; rfl
theorem evz_end {c : C} {cs : Cz} {d : D} {S1 : Sto} (h : evC M c ρ S = .rt d S1) : evCz M (.cons c cs) ρ S = .rt d S1 := by rw [evz_cons, h]; rfl
@[simp] theorem asg_nm (i : Nat) (d : D) : asgT (.nm i) d ρ = some (ρ.set i (some d)) := rfl
theorem Out.seq_ite {p : Prop} [Decidable p] (a b : Out) (f : Nv → Sto → Out) : (if p then a else b).seq f = if p then a.seq f else b.seq f := by split <;> rfl

/-! ### operations -/
@[simp] theorem ret1_eq (x : PD) (S : Sto) : ret1 x S = .ok (.p x) S := rfl
@[simp] theorem new_eq (o : O) (S : Sto) : new o S = .ok (.ref S.length) (S ++ [o]) := rfl
@[simp] theorem asInt_int (i : Int) (S : Sto) (f : Int → Res D) : asInt (.p (.int i)) S f = f i := rfl
@[simp] theorem bin_add (i j : Int) : binI .Add (.p (.int i)) (.p (.int j)) S = .ok (.p (.int (i + j))) S := rfl
@[simp] theorem bin_sub (i j : Int) : binI .Sub (.p (.int i)) (.p (.int j)) S = .ok (.p (.int (i - j))) S := rfl
theorem bin_mul {i j : Int} (h : i.natAbs < 2 ^ 64 ∨ j.natAbs < 2 ^ 64) : binI .Mult (.p (.int i)) (.p (.int j)) S = .ok (.p (.int (i * j))) S := by simp only [binI, if_pos h]; rfl
@[simp] theorem bin_mulR (i : Int) {j : Int} (h : j.natAbs < 2 ^ 64) : binI .Mult (.p (.int i)) (.p (.int j)) S = .ok (.p (.int (i * j))) S := bin_mul (.inr h)
@[simp] theorem bin_mulL {i : Int} (j : Int) (h : i.natAbs < 2 ^ 64) : binI .Mult (.p (.int i)) (.p (.int j)) S = .ok (.p (.int (i * j))) S := bin_mul (.inl h)
@[simp] theorem bin_div {i j : Int} (h : 0 < j ∧ j < 1073741824) : binI .FloorDiv (.p (.int i)) (.p (.int j)) S = .ok (.p (.int (i / j))) S := by simp only [binI, if_pos h]; rfl
@[simp] theorem bin_mod {i j : Int} (h : 0 < j) : binI .Mod (.p (.int i)) (.p (.int j)) S = .ok (.p (.int (i % j))) S := by simp only [binI, if_pos h]; rfl
@[simp] theorem bin_pow {i j : Int} (h : 0 ≤ j ∧ j ≤ 1000000 ∧ i.natAbs < 2 ^ 64) : binI .Pow (.p (.int i)) (.p (.int j)) S = .ok (.p (.int (i ^ j.toNat))) S := by simp only [binI, if_pos h]; rfl
@[simp] theorem bin_addS {a b : Cs} (h : a.length + b.length ≤ LINE) : binI .Add (.p (.str a)) (.p (.str b)) S = .ok (.p (.str (a ++ b))) S := by simp only [binI, if_pos h]; rfl
@[simp] theorem bin_addT {a b : List PD} (h : a.length + b.length ≤ LINE) : binI .Add (.p (.tup a)) (.p (.tup b)) S = .ok (.p (.tup (a ++ b))) S := by simp only [binI, if_pos h]; rfl
theorem bin_addL {m n : Nat} {a b : List PD} (h1 : S[m]? = some (.pl a)) (h2 : S[n]? = some (.pl b)) (h : a.length + b.length ≤ LINE) : binI .Add (.ref m) (.ref n) S = .ok (.ref S.length) (S ++ [.pl (a ++ b)]) := by simp only [binI, h1, h2, if_pos h]; rfl
@[simp] theorem neg_int (i : Int) : negI (.p (.int i)) S = .ok (.p (.int (-i))) S := rfl
@[simp] theorem tru_bl (b : Bool) : truI (.p (.bl b)) S = .ok b S := rfl
@[simp] theorem tru_int (b : Int) : truI (.p (.int b)) S = .ok (b != 0) S := rfl
@[simp] theorem tru_str (b : Cs) : truI (.p (.str b)) S = .ok (!b.isEmpty) S := rfl
@[simp] theorem tru_tup (b : List PD) : truI (.p (.tup b)) S = .ok (!b.isEmpty) S := rfl
@[simp] theorem tru_non : truI (.p .non) S = .ok false S := rfl
@[simp] theorem cmp_lt (i j : Int) : cmpI .Lt (.p (.int i)) (.p (.int j)) S = .ok (.p (.bl (decide (i < j)))) S := by
  have h : ltP (.int i) (.int j) = some (decide (i < j)) := by
    unfold ltP
    rw [if_pos ⟨rfl, (fun z => by cases z), (by simp [PD.dep, PD.py, PyData.depth])⟩]
    exact congrArg some (PySem.W.dataLt_int i j)
  simp only [cmpI, h]; rfl
@[simp] theorem cmp_gt (i j : Int) : cmpI .Gt (.p (.int i)) (.p (.int j)) S = .ok (.p (.bl (decide (j < i)))) S := rfl
@[simp] theorem cmp_le (i j : Int) : cmpI .LtE (.p (.int i)) (.p (.int j)) S = .ok (.p (.bl (decide (i ≤ j)))) S := rfl
@[simp] theorem cmp_ge (i j : Int) : cmpI .GtE (.p (.int i)) (.p (.int j)) S = .ok (.p (.bl (decide (j ≤ i)))) S := rfl
@[simp] theorem cmp_isB (b c : Bool) : cmpI .Is (.p (.bl b)) (.p (.bl c)) S = .ok (.p (.bl (decide (b = c)))) S := rfl
@[simp] theorem cmp_isnB (b c : Bool) : cmpI .IsNot (.p (.bl b)) (.p (.bl c)) S = .ok (.p (.bl (!decide (b = c)))) S := rfl
@[simp] theorem cmp_isN : cmpI .Is (.p .non) (.p .non) S = .ok (.p (.bl true)) S := rfl
theorem cmp_in1 (c : Nat) (z : Cs) : cmpI .In (.p (.str [c])) (.p (.str z)) S = .ok (.p (.bl (decide (c ∈ z)))) S := rfl
theorem cmp_nin1 (c : Nat) (z : Cs) : cmpI .NotIn (.p (.str [c])) (.p (.str z)) S = .ok (.p (.bl (!decide (c ∈ z)))) S := rfl
@[simp] theorem eqv_int (i j : Int) : PyData.eqv (.int i) (.int j) = decide (i = j) := by
  show (i == j) = _
  rfl
/-- a number or text compared with == -/
@[simp] theorem eq_int (i j : Int) : cmpI .Eq (.p (.int i)) (.p (.int j)) S = .ok (.p (.bl (decide (i = j)))) S := by
  have h : eqI (.p (.int i)) (.p (.int j)) S = some (decide (i = j)) := by
    simp only [eqI, toPy, PD.py]
    rw [if_pos (.inl (by simp [PyData.depth])), eqv_int]
  simp only [cmpI, h]; rfl
@[simp] theorem ne_int (i j : Int) : cmpI .NotEq (.p (.int i)) (.p (.int j)) S = .ok (.p (.bl (!decide (i = j)))) S := by
  have h : eqI (.p (.int i)) (.p (.int j)) S = some (decide (i = j)) := by
    simp only [eqI, toPy, PD.py]
    rw [if_pos (.inl (by simp [PyData.depth])), eqv_int]
  simp only [cmpI, h]; rfl
@[simp] theorem len_str (s : Cs) : bltI .len [.p (.str s)] S = .ok (.p (.int s.length)) S := rfl
@[simp] theorem len_tup (s : List PD) : bltI .len [.p (.tup s)] S = .ok (.p (.int s.length)) S := rfl
theorem len_ref {n : Nat} {o : O} (h : S[n]? = some o) (hl : o.isL = true) : bltI .len [.ref n] S = .ok (.p (.int o.ds.length)) S := by simp only [bltI, Sto.lst, h, hl]; rfl
@[simp] theorem int_int (i : Int) : bltI .int [.p (.int i)] S = .ok (.p (.int i)) S := rfl
@[simp] theorem ord_str (i : Nat) : bltI .ord [.p (.str [i])] S = .ok (.p (.int i)) S := rfl
@[simp] theorem wk_str (s : Cs) : wkOf (.p (.str s)) S = .ok ⟨s.map fun c => .p (.str [c]), none⟩ S := rfl
@[simp] theorem wk_tup (s : List PD) : wkOf (.p (.tup s)) S = .ok ⟨s.map .p, none⟩ S := rfl
@[simp] theorem still_none (ds : List D) (S : Sto) : (Wk.mk ds none).still S = true := rfl
theorem wk_ref {n : Nat} {o : O} (h : S[n]? = some o) (hl : o.isL = true) : wkOf (.ref n) S = .ok ⟨o.ds, some (n, o)⟩ S := by simp only [wkOf, h, hl, if_true]
/-- a list or a tuple of data, walked -/
theorem wk_data {d : D} {xs : List PD} (h : dataOf d S = some xs) : ∃ w, wkOf d S = .ok w S ∧ w.ds = xs.map .p ∧ ∀ l, w.still (S ++ l) = true := by
  unfold dataOf at h
  split at h
  · cases h; exact ⟨_, rfl, rfl, fun _ => rfl⟩
  · rename_i n
    split at h
    · rename_i ys hn
      cases h
      exact ⟨⟨_, some (n, _)⟩, wk_ref hn rfl, rfl, fun l => by simp only [Wk.still]; exact decide_eq_true (pre_get hn)⟩
    · rename_i ys hn
      cases h
      exact ⟨⟨_, some (n, _)⟩, wk_ref hn rfl, rfl, fun l => by simp only [Wk.still]; exact decide_eq_true (pre_get hn)⟩
    · cases h
  · cases h
theorem sorted_ev {d : D} {xs ys : List PD} (h : dataOf d S = some xs) (hs : srtI xs = some ys) : bltI .sorted [d] S = .ok (.ref S.length) (S ++ [.pl ys]) := by simp only [bltI, h, hs]; rfl
theorem len_data {d : D} {xs : List PD} (h : dataOf d S = some xs) : bltI .len [d] S = .ok (.p (.int xs.length)) S := by
  unfold dataOf at h
  split at h
  · cases h; rfl
  · rename_i n
    split at h
    · rename_i ys hn; cases h; rw [len_ref hn rfl]; simp [O.ds]
    · rename_i ys hn; cases h; rw [len_ref hn rfl]; simp [O.ds]
    · cases h
  · cases h
theorem atI_map {α β : Type} (f : α → β) (xs : List α) (i : Int) : atI (xs.map f) i = (atI xs i).map f := by
  unfold atI
  rw [List.length_map]
  cases ixN xs.length i with
  | none => rfl
  | some j => simp
theorem atI_in {α : Type} [Inhabited α] {xs : List α} {i : Int} (h0 : 0 ≤ i) (h1 : i < xs.length) : atI xs i = some xs[i.toNat]! := by
  unfold atI ixN
  rw [if_pos h0, if_pos h1]
  have : i.toNat < xs.length := by omega
  simp [this]
theorem ix_data {d : D} {xs : List PD} {i : Int} {x : PD} (h : dataOf d S = some xs) (hi : atI xs i = some x) : ixI d (.p (.int i)) S = .ok (.p x) S := by
  unfold dataOf at h
  split at h
  · cases h; simp only [ixI, hi]; rfl
  · rename_i n
    split at h
    · rename_i ys hn; cases h; simp only [ixI, Sto.lst, hn, O.isL, O.ds, if_true, atI_map, hi]; rfl
    · rename_i ys hn; cases h; simp only [ixI, Sto.lst, hn, O.isL, O.ds, if_true, atI_map, hi]; rfl
    · cases h
  · cases h
theorem data_app {d : D} {xs : List PD} (h : dataOf d S = some xs) (l : Sto) : dataOf d (S ++ l) = some xs := by
  unfold dataOf at h ⊢
  split at h
  · exact h
  · rename_i n
    split at h
    · rename_i ys hn; cases h; simp only [pre_get hn]
    · rename_i ys hn; cases h; simp only [pre_get hn]
    · cases h
  · cases h
theorem ix_int {d : D} {xs : List Int} {i : Int} (h : dataOf d S = some (xs.map .int)) (h0 : 0 ≤ i) (h1 : i < xs.length) : ixI d (.p (.int i)) S = .ok (.p (.int xs[i.toNat]!)) S :=
  ix_data h (by rw [atI_map, atI_in h0 h1]; rfl)
theorem ix_str {s : Cs} {i : Int} (h0 : 0 ≤ i) (h1 : i < s.length) : ixI (.p (.str s)) (.p (.int i)) S = .ok (.p (.str [s[i.toNat]!])) S := by simp only [ixI, atI_in h0 h1]; rfl
theorem get_mem {α : Type} [Inhabited α] {xs : List α} {i : Nat} (h : i < xs.length) : xs[i]! ∈ xs := by simp [h]
theorem app_new {n : Nat} {xs : List PD} {x : PD} (h : S.length = n) (hl : xs.length < LINE) : mthI .append (.ref n) [.p x] (S ++ [.pl xs]) = .ok (.p .non) (S ++ [.pl (xs ++ [x])]) := by
  subst h
  have : (S ++ [O.pl xs])[S.length]? = some (.pl xs) := by simp
  simp only [mthI, this, O.ds, List.length_map, if_pos hl, O.push, ret1_eq]
  congr 1
  simp
@[simp] theorem recv_str (s : Cs) : recv .join (.p (.str s)) S = true := rfl
@[simp] theorem recv_str2 (s : Cs) : recv .find (.p (.str s)) S = true := rfl
theorem recv_new {n : Nat} {o : O} {m : Mt} (h : S[n]? = some o) (hl : o.isL = true) (hm : m.ofL = true) : recv m (.ref n) S = true := by simp only [recv, hm, Sto.lst, h, hl, if_true]; rfl

/-! ### what a call leaves -/
@[simp] theorem tidy_p (x : PD) : tidy S S (.p x) = .ok (.p x) S := by simp [tidy]
@[simp] theorem tidy_pa (l : Sto) (x : PD) : tidy S (S ++ l) (.p x) = .ok (.p x) S := by simp [tidy]
@[simp] theorem tidy_new (xs : List PD) : tidy S (S ++ [.pl xs]) (.ref S.length) = .ok (.ref S.length) (S ++ [.pl xs]) := by simp [tidy]
theorem tidy_new' {l : Sto} {j : Nat} {xs : List PD} (h : S.length ≤ j) (h1 : (S ++ l)[j]? = some (.pl xs)) : tidy S (S ++ l) (.ref j) = .ok (.ref S.length) (S ++ [.pl xs]) := by
  have : ¬ j < S.length := by omega
  simp [tidy, this, h1]
theorem runB_rt {df : Df} {ds : List D} {d : D} {S' : Sto} {r : Res D} (h : evCz M df.body (ds.map some ++ List.replicate (df.n - df.np) none) S = .rt d S') (ht : tidy S S' d = r) : runB M df ds S = r := by unfold runB; rw [h]; exact ht
theorem runB_exc {df : Df} {ds : List D} {x : Ex} {ρ' : Nv} {S' : Sto} {r : Res D} (h : evCz M df.body (ds.map some ++ List.replicate (df.n - df.np) none) S = .exc x ρ' S') (ht : tidyX S S' x = r) : runB M df ds S = r := by unfold runB; rw [h]; exact ht
theorem tidyX_same {x : Ex} (l : Sto) (h : x.fs.all (fun p => D.bel S.length p.2) = true) : tidyX S (S ++ l) x = .exc x S := by
  unfold tidyX
  rw [if_pos ⟨.inl (by simp), h⟩]
  simp
theorem call_of {ents : List Ent} {gl : Nat → Option PD} {k f : Nat} {e : Ent} {ds : List D} {r : Res D} (he : ents[f]? = some e) (hl : ds.length = e.df.np) (h : runB ⟨callI (dfs ents) gl k, gl⟩ e.df ds S = r) : callI (dfs ents) gl (k + 1) f ds S = r := by
  unfold callI
  simp only [dfs, he, Option.map_some, if_pos hl]
  exact h

/-! ### loops -/
theorem forI_inv {w : Wk} {tg : Tg} {body : Nv → Sto → Out} (P : List D → Nv → Sto → Prop) (R : Out → Prop) (B : Nv → Sto → Prop)
    (h1 : ∀ d ds ρ S, P (d :: ds) ρ S → w.still S = true ∧ ∃ ρ1, asgT tg d ρ = some ρ1 ∧ ((∃ ρ2 S2, (body ρ1 S = .nx ρ2 S2 ∨ body ρ1 S = .ct ρ2 S2) ∧ P ds ρ2 S2) ∨ (∃ ρ2 S2, body ρ1 S = .bk ρ2 S2 ∧ B ρ2 S2) ∨ (∃ d S2, body ρ1 S = .rt d S2 ∧ R (.rt d S2))))
    (h0 : ∀ ρ S, P [] ρ S → w.still S = true) : ∀ ds ρ S, P ds ρ S → (∃ ρ' S', forI w tg body ds ρ S = .nx ρ' S' ∧ (P [] ρ' S' ∨ B ρ' S')) ∨ ∃ d S', forI w tg body ds ρ S = .rt d S' ∧ R (.rt d S')
  | [], ρ, S, h => .inl ⟨ρ, S, by unfold forI; rw [if_pos (h0 ρ S h)], .inl h⟩
  | d :: ds, ρ, S, h => by
    obtain ⟨hs, ρ1, ha, hb⟩ := h1 d ds ρ S h
    rcases hb with ⟨ρ2, S2, hb | hb, hp⟩ | ⟨ρ2, S2, hb, hp⟩ | ⟨d2, S2, hb, hp⟩
    · rcases forI_inv P R B h1 h0 ds ρ2 S2 hp with ⟨ρ', S', e, q⟩ | ⟨d', S', e, q⟩
      · exact .inl ⟨ρ', S', by unfold forI; rw [if_pos hs]; simp only [ha, hb, e], q⟩
      · exact .inr ⟨d', S', by unfold forI; rw [if_pos hs]; simp only [ha, hb, e], q⟩
    · rcases forI_inv P R B h1 h0 ds ρ2 S2 hp with ⟨ρ', S', e, q⟩ | ⟨d', S', e, q⟩
      · exact .inl ⟨ρ', S', by unfold forI; rw [if_pos hs]; simp only [ha, hb, e], q⟩
      · exact .inr ⟨d', S', by unfold forI; rw [if_pos hs]; simp only [ha, hb, e], q⟩
    · exact .inl ⟨ρ2, S2, by unfold forI; rw [if_pos hs]; simp only [ha, hb], .inr hp⟩
    · exact .inr ⟨d2, S2, by unfold forI; rw [if_pos hs]; simp only [ha, hb], hp⟩
/-- a loop without an early end -/
theorem forI_nx {w : Wk} {tg : Tg} {body : Nv → Sto → Out} (P : List D → Nv → Sto → Prop)
    (h1 : ∀ d ds ρ S, P (d :: ds) ρ S → w.still S = true ∧ ∃ ρ1, asgT tg d ρ = some ρ1 ∧ ∃ ρ2 S2, (body ρ1 S = .nx ρ2 S2 ∨ body ρ1 S = .ct ρ2 S2) ∧ P ds ρ2 S2)
    (h0 : ∀ ρ S, P [] ρ S → w.still S = true) {ds ρ S} (h : P ds ρ S) : ∃ ρ' S', forI w tg body ds ρ S = .nx ρ' S' ∧ P [] ρ' S' := by
  rcases forI_inv P (fun _ => False) (fun _ _ => False) (fun d ds ρ S hp => let ⟨a, ρ1, b, c⟩ := h1 d ds ρ S hp; ⟨a, ρ1, b, .inl c⟩) h0 ds ρ S h with ⟨ρ', S', e, q | q⟩ | ⟨d, S', _, q⟩
  · exact ⟨ρ', S', e, q⟩
  · exact q.elim
  · exact q.elim
/-- a comprehension that makes data and leaves the store alone -/
theorem lcI_pure {w : Wk} {tg : Tg} {c : Nv → Sto → Res Bool} {elt : Nv → Sto → Res D} {ρ : Nv} {S0 : Sto} (p : D → Bool) (f : D → PD) (hs : ∀ l, w.still (S0 ++ l) = true) :
    ∀ (ds : List D) (acc : List PD), (∀ d ∈ ds, ∃ ρ1, asgT tg d ρ = some ρ1 ∧ ∀ l, c ρ1 (S0 ++ l) = .ok (p d) (S0 ++ l) ∧ (p d = true → elt ρ1 (S0 ++ l) = .ok (.p (f d)) (S0 ++ l))) →
      lcI w tg c elt ρ S0.length (.pl acc) ds (S0 ++ [.pl acc]) = .ok (.ref S0.length) (S0 ++ [.pl (acc ++ (ds.filter p).map f)])
  | [], acc, h => by unfold lcI; rw [if_pos (hs _)]; simp
  | d :: ds, acc, h => by
    obtain ⟨ρ1, ha, hb⟩ := h d List.mem_cons_self
    obtain ⟨hc, he⟩ := hb [.pl acc]
    have g : (S0 ++ [O.pl acc])[S0.length]? = some (.pl acc) := by simp
    unfold lcI
    rw [if_pos (hs _)]
    cases q : p d with
    | false =>
      rw [q] at hc
      simp only [ha, hc, g, if_true]
      rw [lcI_pure p f hs ds acc fun d hd => h d (List.mem_cons_of_mem _ hd)]
      simp [q]
    | true =>
      rw [q] at hc
      simp only [ha, hc, he q, g, if_true, O.push]
      have : (S0 ++ [O.pl acc]).set S0.length (.pl (acc ++ [f d])) = S0 ++ [.pl (acc ++ [f d])] := by simp
      rw [this, lcI_pure p f hs ds (acc ++ [f d]) fun d hd => h d (List.mem_cons_of_mem _ hd)]
      simp [q]
theorem lc_map {w : Wk} {tg : Tg} {elt : Nv → Sto → Res D} {ρ : Nv} {S0 : Sto} (f : D → PD) (hs : ∀ l, w.still (S0 ++ l) = true) (h : ∀ d ∈ w.ds, ∃ ρ1, asgT tg d ρ = some ρ1 ∧ ∀ l, elt ρ1 (S0 ++ l) = .ok (.p (f d)) (S0 ++ l)) :
    lcI w tg (fun _ S => .ok true S) elt ρ S0.length (.pl []) w.ds (S0 ++ [.pl []]) = .ok (.ref S0.length) (S0 ++ [.pl (w.ds.map f)]) := by
  rw [lcI_pure (fun _ => true) f hs w.ds [] fun d hd => let ⟨ρ1, a, b⟩ := h d hd; ⟨ρ1, a, fun l => ⟨rfl, fun _ => b l⟩⟩]
  rw [List.filter_eq_self.mpr (fun _ _ => rfl)]
  simp
theorem small_nat {n : Nat} (h : n ≤ LINE) : small (n : Int) = true := by
  have : n ≤ 16777216 := h
  simp only [small, Bool.and_eq_true, decide_eq_true_eq]
  constructor
  · exact Int.le_trans (by decide) (Int.natCast_nonneg n)
  · omega
@[simp] theorem rgS_len (a c : Int) (n : Nat) : (rgS a c n).length = n := by simp [rgS]
end
end PH

set_option maxHeartbeats 4000000
/-! PH, part P: the helper that all laws share: numbers out of the script. -/
namespace PH
open L2 PySem PySem.Spec PyProof.Rows
def numDf : Df := ⟨3, 9, (.cons (.asg (.nm 3) (.k (.int 0)))
  (.cons (.ite (.cmp .Lt (.v 1) (.blt .len (.cons (.v 0) .nil))) (.cons (.asg (.nm 3) (.ix (.v 0) (.v 1)))
    .nil) .nil)
  (.cons (.asg (.nm 4) (.ls .nil))
  (.cons (.ite (.cmp .GtE (.v 3) (.bin .Pow (.k (.int 10)) (.k (.int 18)))) (.cons (.asg (.nm 5) (.bin .Sub (.v 3) (.bin .Pow (.k (.int 10)) (.k (.int 18)))))
    (.cons (.forr (.nm 6) (.rg1 (.v 2)) (.cons (.ex (.mth .append (.v 4) (.cons (.bin .Mod (.blt .int (.cons (.v 5) .nil)) (.k (.int 1000000))) .nil)))
      (.cons (.asg (.nm 5) (.bin .FloorDiv (.v 5) (.k (.int 1000000))))
      .nil)))
    (.cons (.ret (.v 4))
    .nil))) .nil)
  (.cons (.asg (.nm 7) (.k (.int 0)))
  (.cons (.ite (.cmp .Gt (.blt .len (.cons (.v 0) .nil)) (.k (.int 0))) (.cons (.asg (.nm 7) (.bin .Mod (.blt .int (.cons (.ix (.v 0) (.k (.int 0))) .nil)) (.k (.int 2147483647))))
    .nil) .nil)
  (.cons (.asg (.nm 8) (.bin .Mod (.blt .int (.cons (.bin .Add (.bin .Add (.bin .Mult (.bin .Mod (.blt .int (.cons (.v 3) .nil)) (.k (.int 2147483647))) (.k (.int 69621))) (.bin .Mult (.bin .Add (.v 1) (.k (.int 1))) (.k (.int 40692)))) (.bin .Mult (.v 7) (.k (.int 16807)))) .nil)) (.k (.int 2147483647))))
  (.cons (.forr (.nm 6) (.rg1 (.v 2)) (.cons (.asg (.nm 8) (.bin .Mod (.blt .int (.cons (.bin .Add (.bin .Mult (.v 8) (.k (.int 48271))) (.k (.int 30011))) .nil)) (.k (.int 2147483647))))
    (.cons (.ex (.mth .append (.v 4) (.cons (.bin .Mod (.bin .FloorDiv (.v 8) (.k (.int 1024))) (.k (.int 1000000))) .nil)))
    .nil)))
  (.cons (.ret (.v 4))
  .nil)))))))))⟩
/-- numbers below a million -/
def Low (xs : List Int) : Prop := ∀ x ∈ xs, 0 ≤ x ∧ x < 1000000
theorem Low.snoc {xs : List Int} (h : Low xs) (y : Int) : Low (xs ++ [y % 1000000]) := fun x hx => by
  rcases List.mem_append.mp hx with z | z
  · exact h x z
  · simp only [List.mem_singleton] at z
    subst z
    exact ⟨Int.emod_nonneg _ (by decide), Int.emod_lt_of_pos _ (by decide)⟩
theorem Low.at {xs : List Int} (h : Low xs) {i : Nat} (hi : i < xs.length) : 0 ≤ xs[i]! ∧ xs[i]! < 1000000 := h _ (get_mem hi)
/-- what the loops keep -/
def NumP (S0 : Sto) (c : Nat) (f : Nv → Prop) (ds : List D) (ρ : Nv) (S : Sto) : Prop := f ρ ∧ ∃ xs : List Int, S = S0 ++ [.pl (xs.map .int)] ∧ xs.length + ds.length = c ∧ Low xs
theorem numbers_run (M : Mo) {S : Sto} {n : Nat} {ns : List Int} {k c : Int} (hn : S[n]? = some (.fz (ns.map .int))) (hk : 0 ≤ k) (h0 : 0 ≤ c) (hc : c ≤ 1000) :
    ∃ xs : List Int, xs.length = c.toNat ∧ Low xs ∧ runB M numDf [.ref n, .p (.int k), .p (.int c)] S = .ok (.ref S.length) (S ++ [.pl (xs.map .int)]) := by
  have hd : dataOf (.ref n) S = some (ns.map .int) := by simp only [dataOf, hn]
  have hd' : ∀ l, dataOf (.ref n) (S ++ l) = some (ns.map .int) := data_app hd
  have hlen : ∀ l, bltI .len [.ref n] (S ++ l) = .ok (.p (.int ns.length)) (S ++ l) := fun l => by rw [len_data (hd' l)]; simp
  have hlen0 : bltI .len [.ref n] S = .ok (.p (.int ns.length)) S := by rw [len_data hd]; simp
  have hsm : small c = true := by
    simp only [small, Bool.and_eq_true, decide_eq_true_eq]
    constructor <;> omega
  have g : ∀ xs : List PD, (S ++ [O.pl xs])[S.length]? = some (.pl xs) := fun xs => by simp
  have rc : ∀ xs : List PD, recv .append (.ref S.length) (S ++ [O.pl xs]) = true := fun xs => recv_new (g xs) rfl rfl
  have ap : ∀ (xs : List Int) (y : Int), xs.length < 1000 → mthI .append (.ref S.length) [.p (.int y)] (S ++ [O.pl (xs.map .int)]) = .ok (.p .non) (S ++ [.pl ((xs ++ [y]).map .int)]) := fun xs y h => by
    rw [app_new rfl (by simp [LINE]; omega)]; simp
  -- the cell
  have cell : ∃ z : Int, (evC M (.ite (.cmp .Lt (.v 1) (.blt .len (.cons (.v 0) .nil))) (.cons (.asg (.nm 3) (.ix (.v 0) (.v 1))) .nil) .nil) [some (.ref n), some (.p (.int k)), some (.p (.int c)), some (.p (.int 0)), none, none, none, none, none] S) = .nx [some (.ref n), some (.p (.int k)), some (.p (.int c)), some (.p (.int z)), none, none, none, none, none] S := by
    by_cases hl : k < ns.length
    · exact ⟨_, by simp [hlen0, hl, ix_int hd hk hl, asgT]; rfl⟩
    · exact ⟨0, by simp [hlen0, hl]⟩
  obtain ⟨z, hz⟩ := cell
  by_cases hb : (10 : Int) ^ 18 ≤ z
  · -- the figures of a great number
    have loop : ∀ (r : Int) , ∃ ρ' S', forI ⟨rgS 0 1 c.toNat, none⟩ (.nm 6) (evCz M (.cons (.ex (.mth .append (.v 4) (.cons (.bin .Mod (.blt .int (.cons (.v 5) .nil)) (.k (.int 1000000))) .nil))) (.cons (.asg (.nm 5) (.bin .FloorDiv (.v 5) (.k (.int 1000000)))) .nil)))
        (rgS 0 1 c.toNat) [some (.ref n), some (.p (.int k)), some (.p (.int c)), some (.p (.int z)), some (.ref S.length), some (.p (.int r)), none, none, none] (S ++ [.pl []]) = .nx ρ' S' ∧
        NumP S c.toNat (fun ρ => ∃ r j, ρ = [some (.ref n), some (.p (.int k)), some (.p (.int c)), some (.p (.int z)), some (.ref S.length), some (.p (.int r)), j, none, none]) [] ρ' S' := fun r => by
      refine forI_nx (NumP S c.toNat (fun ρ => ∃ r j, ρ = [some (.ref n), some (.p (.int k)), some (.p (.int c)), some (.p (.int z)), some (.ref S.length), some (.p (.int r)), j, none, none])) (fun d ds ρ S' h => ⟨rfl, ?_⟩) (fun _ _ _ => rfl) ⟨⟨r, none, rfl⟩, [], by simp, by simp, fun _ h => nomatch h⟩
      obtain ⟨⟨r, j, rfl⟩, xs, rfl, hl, hx⟩ := h
      have : xs.length < 1000 := by simp at hl; omega
      refine ⟨_, rfl, [some (.ref n), some (.p (.int k)), some (.p (.int c)), some (.p (.int z)), some (.ref S.length), some (.p (.int (r / 1000000))), some d, none, none], S ++ [.pl ((xs ++ [r % 1000000]).map .int)], .inl ?_, ⟨_, _, rfl⟩, _, rfl, ?_, hx.snoc r⟩
      · simp [rc, ap _ _ this, asgT]
      · simp at hl ⊢; omega
    obtain ⟨ρ', S', e, ⟨r', j', rfl⟩, xs, rfl, hl, hx⟩ := loop (z - 10 ^ 18)
    refine ⟨xs, by simpa using hl, hx, runB_rt (d := .ref S.length) (S' := S ++ [.pl (xs.map .int)]) ?_ (tidy_new _)⟩
    show evCz M numDf.body [some (.ref n), some (.p (.int k)), some (.p (.int c)), none, none, none, none, none, none] S = _
    refine (evz_step (ρ1 := [some (.ref n), some (.p (.int k)), some (.p (.int c)), some (.p (.int 0)), none, none, none, none, none]) (S1 := S) (by simp)).trans ?_
    refine (evz_step hz).trans ?_
    have hb' : (1000000000000000000 : Int) ≤ z := by simpa using hb
    simp [mkL, allP, hb', hsm, asgT]
    simp at e
    rw [e]
    simp
  · -- a row of remainders
    have hb' : ¬ (1000000000000000000 : Int) ≤ z := by simpa using hb
    have loop : ∀ (f r : Int), ∃ ρ' S', forI ⟨rgS 0 1 c.toNat, none⟩ (.nm 6) (evCz M (.cons (.asg (.nm 8) (.bin .Mod (.blt .int (.cons (.bin .Add (.bin .Mult (.v 8) (.k (.int 48271))) (.k (.int 30011))) .nil)) (.k (.int 2147483647))))
    (.cons (.ex (.mth .append (.v 4) (.cons (.bin .Mod (.bin .FloorDiv (.v 8) (.k (.int 1024))) (.k (.int 1000000))) .nil)))
    .nil)))
        (rgS 0 1 c.toNat) [some (.ref n), some (.p (.int k)), some (.p (.int c)), some (.p (.int z)), some (.ref S.length), none, none, some (.p (.int f)), some (.p (.int r))] (S ++ [.pl []]) = .nx ρ' S' ∧
        NumP S c.toNat (fun ρ => ∃ r j, ρ = [some (.ref n), some (.p (.int k)), some (.p (.int c)), some (.p (.int z)), some (.ref S.length), none, j, some (.p (.int f)), some (.p (.int r))]) [] ρ' S' := fun f r => by
      refine forI_nx (NumP S c.toNat (fun ρ => ∃ r j, ρ = [some (.ref n), some (.p (.int k)), some (.p (.int c)), some (.p (.int z)), some (.ref S.length), none, j, some (.p (.int f)), some (.p (.int r))])) (fun d ds ρ S' h => ⟨rfl, ?_⟩) (fun _ _ _ => rfl) ⟨⟨r, none, rfl⟩, [], by simp, by simp, fun _ h => nomatch h⟩
      obtain ⟨⟨r, j, rfl⟩, xs, rfl, hl, hx⟩ := h
      have : xs.length < 1000 := by simp at hl; omega
      refine ⟨_, rfl, [some (.ref n), some (.p (.int k)), some (.p (.int c)), some (.p (.int z)), some (.ref S.length), none, some d, some (.p (.int f)), some (.p (.int ((r * 48271 + 30011) % 2147483647)))], S ++ [.pl ((xs ++ [((r * 48271 + 30011) % 2147483647) / 1024 % 1000000]).map .int)], .inl ?_, ⟨_, _, rfl⟩, _, rfl, ?_, hx.snoc _⟩
      · simp [rc, ap _ _ this, asgT]
      · simp at hl ⊢; omega
    have first : ∃ f : Int, (evC M (.ite (.cmp .Gt (.blt .len (.cons (.v 0) .nil)) (.k (.int 0))) (.cons (.asg (.nm 7) (.bin .Mod (.blt .int (.cons (.ix (.v 0) (.k (.int 0))) .nil)) (.k (.int 2147483647)))) .nil) .nil) [some (.ref n), some (.p (.int k)), some (.p (.int c)), some (.p (.int z)), some (.ref S.length), none, none, some (.p (.int 0)), none] (S ++ [.pl []])) = .nx [some (.ref n), some (.p (.int k)), some (.p (.int c)), some (.p (.int z)), some (.ref S.length), none, none, some (.p (.int f)), none] (S ++ [.pl []]) := by
      by_cases hl : 0 < ns.length
      · have hl' : (0 : Int) < ns.length := by omega
        exact ⟨ns[(0 : Int).toNat]! % 2147483647, by simp [hlen, hl', ix_int (hd' _) (Int.le_refl 0) hl', asgT]; intro h; subst h; simp at hl'⟩
      · exact ⟨0, by simp [hlen, hl]⟩
    obtain ⟨f, hf⟩ := first
    obtain ⟨ρ', S', e, ⟨r', j', rfl⟩, xs, rfl, hl, hx⟩ := loop f ((z % 2147483647 * 69621 + (k + 1) * 40692 + f * 16807) % 2147483647)
    refine ⟨xs, by simpa using hl, hx, runB_rt (d := .ref S.length) (S' := S ++ [.pl (xs.map .int)]) ?_ (tidy_new _)⟩
    show evCz M numDf.body [some (.ref n), some (.p (.int k)), some (.p (.int c)), none, none, none, none, none, none] S = _
    refine (evz_step (ρ1 := [some (.ref n), some (.p (.int k)), some (.p (.int c)), some (.p (.int 0)), none, none, none, none, none]) (S1 := S) (by simp)).trans ?_
    refine (evz_step hz).trans ?_
    refine (evz_step (ρ1 := [some (.ref n), some (.p (.int k)), some (.p (.int c)), some (.p (.int z)), some (.ref S.length), none, none, none, none]) (S1 := S ++ [.pl []]) (by simp [mkL, allP])).trans ?_
    refine (evz_step (ρ1 := [some (.ref n), some (.p (.int k)), some (.p (.int c)), some (.p (.int z)), some (.ref S.length), none, none, none, none]) (S1 := S ++ [.pl []]) (by simp [hb'])).trans ?_
    refine (evz_step (ρ1 := [some (.ref n), some (.p (.int k)), some (.p (.int c)), some (.p (.int z)), some (.ref S.length), none, none, some (.p (.int 0)), none]) (S1 := S ++ [.pl []]) (by simp)).trans ?_
    refine (evz_step hf).trans ?_
    simp [hsm, asgT]
    rw [e]
    simp
end PH

set_option maxHeartbeats 4000000
/-! PH, part Q: == and in for data without truth values. -/
namespace PH
open L2 PySem PySem.Spec PyProof.Rows
mutual
/-- no truth value within, at most n deep -/
def PD.nice : Nat → PD → Bool
  | _, .non => true
  | _, .bl _ => false
  | _, .int _ => true
  | _, .str _ => true
  | 0, .tup _ => false
  | n + 1, .tup xs => PD.nices n xs
def PD.nices : Nat → List PD → Bool
  | _, [] => true
  | n, x :: xs => PD.nice n x && PD.nices n xs
end
mutual
theorem eqv_nice : ∀ (n k : Nat) (x y : PD), x.nice n = true → y.nice k = true → PD.eqv x y = decide (x = y)
  | n, k, x, y, hx, hy => by
    unfold PD.eqv
    cases x with
    | bl b => cases n <;> cases hx
    | non => cases y <;> first | (cases k <;> cases hy; done) | simp [PD.py, PyData.eqv]
    | int i => cases y <;> first | (cases k <;> cases hy; done) | simp [PD.py, PyData.eqv]
    | str s =>
      cases y with
      | str t =>
        simp only [PD.py, PyData.eqv, PD.str.injEq]
        by_cases h : s = t
        · subst h; simp
        · have : mkS s ≠ mkS t := fun z => h (mkS_inj z)
          simp [h, this]
      | bl b => cases k <;> cases hy
      | _ => simp [PD.py, PyData.eqv]
    | tup xs =>
      cases n with
      | zero => cases hx
      | succ n =>
        cases y with
        | tup ys =>
          cases k with
          | zero => cases hy
          | succ k =>
            simp only [PD.py, PyData.eqv, PD.tup.injEq]
            exact eqv_nices n k xs ys hx hy
        | bl b => cases k <;> cases hy
        | _ => simp [PD.py, PyData.eqv]
theorem eqv_nices : ∀ (n k : Nat) (x y : List PD), PD.nices n x = true → PD.nices k y = true → PyData.eqvAll (PD.pys x) (PD.pys y) = decide (x = y)
  | n, k, [], [], _, _ => by simp [PD.pys, PyData.eqvAll]
  | n, k, [], _ :: _, _, _ => by simp [PD.pys, PyData.eqvAll]
  | n, k, _ :: _, [], _, _ => by simp [PD.pys, PyData.eqvAll]
  | n, k, x :: xs, y :: ys, hx, hy => by
    simp only [PD.nices, Bool.and_eq_true] at hx hy
    simp only [PD.pys, PyData.eqvAll, List.cons.injEq]
    rw [eqv_nices n k xs ys hx.2 hy.2]
    have := eqv_nice n k x y hx.1 hy.1
    unfold PD.eqv at this
    rw [this]
    by_cases h1 : x = y <;> by_cases h2 : xs = ys <;> simp [h1, h2]
end
mutual
theorem dep_nice : ∀ (n : Nat) (x : PD), x.nice n = true → x.py.depth ≤ n
  | n, x, h => by
    cases x with
    | bl b => cases n <;> cases h
    | non => simp [PD.py, PyData.depth]
    | int i => simp [PD.py, PyData.depth]
    | str s => simp [PD.py, PyData.depth]
    | tup xs =>
      cases n with
      | zero => cases h
      | succ n => simp only [PD.py, PyData.depth]; have := dep_nices n xs h; omega
theorem dep_nices : ∀ (n : Nat) (x : List PD), PD.nices n x = true → PyData.depthAll (PD.pys x) ≤ n
  | n, [], _ => by simp [PD.pys, PyData.depthAll]
  | n, x :: xs, h => by
    simp only [PD.nices, Bool.and_eq_true] at h
    simp only [PD.pys, PyData.depthAll]
    have := dep_nice n x h.1
    have := dep_nices n xs h.2
    omega
end
theorem nices_ints (n : Nat) : ∀ xs : List Int, PD.nices n (xs.map .int) = true
  | [] => by rw [List.map_nil, PD.nices]
  | x :: xs => by rw [List.map_cons, PD.nices, nices_ints n xs]; cases n <;> rfl
theorem nices_strs (n : Nat) : ∀ xs : List Cs, PD.nices n (xs.map .str) = true
  | [] => by rw [List.map_nil, PD.nices]
  | x :: xs => by rw [List.map_cons, PD.nices, nices_strs n xs]; cases n <;> rfl
theorem nices_iff (n : Nat) : ∀ xs : List PD, PD.nices n xs = true ↔ ∀ x ∈ xs, x.nice n = true
  | [] => by simp [PD.nices]
  | x :: xs => by simp [PD.nices, nices_iff n xs]
theorem mapM_py (S : Sto) (k : Nat) : ∀ xs : List PD, (xs.map D.p).mapM (toPy S k) = some (PD.pys xs)
  | [] => by simp [PD.pys]
  | x :: xs => by
    have : toPy S k (.p x) = some x.py := by cases k <;> simp [toPy]
    simp [this, mapM_py S k xs, PD.pys]
theorem toPy_p (S : Sto) (k : Nat) (x : PD) : toPy S k (.p x) = some x.py := by cases k <;> simp [toPy]
/-- what an object of data is -/
def O.pd : O → Option (List PD)
  | .pl xs => some xs
  | .fz xs => some xs
  | _ => none
theorem toPy_ref {S : Sto} {n k : Nat} {o : O} {xs : List PD} (h : S[n]? = some o) (hx : o.pd = some xs) : toPy S (k + 1) (.ref n) = some (.list (PD.pys xs)) := by
  cases o with
  | pl ys => cases hx; simp only [toPy, Sto.lst, h, O.isL, O.ds, if_true, Option.bind_some, mapM_py]; rfl
  | fz ys => cases hx; simp only [toPy, Sto.lst, h, O.isL, O.ds, if_true, Option.bind_some, mapM_py]; rfl
  | ml ys => cases hx
  | dc ys => cases hx
  | ob c ys => cases hx
  | dt ys => cases hx
  | df t ys => cases hx
theorem eqI_refs {S : Sto} {a b n k : Nat} {o u : O} {xs ys : List PD} (h1 : S[a]? = some o) (h2 : S[b]? = some u) (e1 : o.pd = some xs) (e2 : u.pd = some ys) (hx : PD.nices n xs = true) (hy : PD.nices k ys = true) (hn : n ≤ 63) : eqI (.ref a) (.ref b) S = some (decide (xs = ys)) := by
  unfold eqI
  rw [toPy_ref h1 e1, toPy_ref h2 e2]
  have hd := dep_nices n xs hx
  have hd2 : (PyData.list (PD.pys xs)).depth ≤ 64 := by simp only [PyData.depth]; omega
  have he : PyData.eqv (.list (PD.pys xs)) (.list (PD.pys ys)) = decide (xs = ys) := by simp only [PyData.eqv]; exact eqv_nices n k xs ys hx hy
  simp only
  rw [if_pos (.inl hd2), he]
theorem eqI_p {S : Sto} {n k : Nat} {x y : PD} (hx : x.nice n = true) (hy : y.nice k = true) (hn : n ≤ 64) : eqI (.p x) (.p y) S = some (decide (x = y)) := by
  unfold eqI
  rw [toPy_p, toPy_p]
  have := dep_nice n x hx
  have e := eqv_nice n k x y hx hy
  unfold PD.eqv at e
  simp only
  rw [if_pos (.inl (by omega)), e]
theorem eq_of {S : Sto} {x y : D} {b : Bool} (h : eqI x y S = some b) : cmpI .Eq x y S = .ok (.p (.bl b)) S := by simp only [cmpI, h]; rfl
theorem ne_of {S : Sto} {x y : D} {b : Bool} (h : eqI x y S = some b) : cmpI .NotEq x y S = .ok (.p (.bl (!b))) S := by simp only [cmpI, h]; rfl
@[simp] theorem eq_str {S : Sto} (s t : Cs) : cmpI .Eq (.p (.str s)) (.p (.str t)) S = .ok (.p (.bl (decide (s = t)))) S := by
  rw [eq_of (eqI_p (n := 0) (k := 0) rfl rfl (by decide))]; simp
@[simp] theorem ne_str {S : Sto} (s t : Cs) : cmpI .NotEq (.p (.str s)) (.p (.str t)) S = .ok (.p (.bl (!decide (s = t)))) S := by
  rw [ne_of (eqI_p (n := 0) (k := 0) rfl rfl (by decide))]; simp
@[simp] theorem eq_bl {S : Sto} (s t : Bool) : cmpI .Eq (.p (.bl s)) (.p (.bl t)) S = .ok (.p (.bl (s == t))) S := by
  rw [eq_of (b := s == t)]
  unfold eqI
  rw [toPy_p, toPy_p]
  simp [PD.py, PyData.depth, PyData.eqv]
@[simp] theorem ne_bl {S : Sto} (s t : Bool) : cmpI .NotEq (.p (.bl s)) (.p (.bl t)) S = .ok (.p (.bl (!(s == t)))) S := by
  rw [ne_of (b := s == t)]
  unfold eqI
  rw [toPy_p, toPy_p]
  simp [PD.py, PyData.depth, PyData.eqv]
theorem in_tup {S : Sto} {n k : Nat} {x : PD} {ys : List PD} (hx : x.nice n = true) (hy : PD.nices k ys = true) (hn : n ≤ 64) (hs : ∀ c, x ≠ .str c ∨ True) : inI (.p x) (.p (.tup ys)) S = some (decide (x ∈ ys)) := by
  have hd : x.dep ≤ 64 := Nat.le_trans (dep_nice n x hx) hn
  have : (ys.any fun y => PD.eqv y x) = decide (x ∈ ys) := by
    rw [Bool.eq_iff_iff]
    simp only [List.any_eq_true, decide_eq_true_eq]
    constructor
    · rintro ⟨y, h1, h2⟩
      rw [eqv_nice k n y x ((nices_iff k ys).mp hy y h1) hx] at h2
      have := of_decide_eq_true h2
      exact this ▸ h1
    · intro h
      exact ⟨x, h, by rw [eqv_nice k n x x ((nices_iff k ys).mp hy x h) hx]; simp⟩
  cases x <;> simp only [inI, if_pos hd, this]
theorem in_ref {S : Sto} {m n k : Nat} {x : PD} {ys : List PD} (h : S[m]? = some (.pl ys)) (hx : x.nice n = true) (hy : PD.nices k ys = true) (hn : n ≤ 64) : inI (.p x) (.ref m) S = some (decide (x ∈ ys)) := by
  have hd : x.dep ≤ 64 := Nat.le_trans (dep_nice n x hx) hn
  have : (ys.any fun y => PD.eqv y x) = decide (x ∈ ys) := by
    rw [Bool.eq_iff_iff]
    simp only [List.any_eq_true, decide_eq_true_eq]
    constructor
    · rintro ⟨y, h1, h2⟩
      rw [eqv_nice k n y x ((nices_iff k ys).mp hy y h1) hx] at h2
      have := of_decide_eq_true h2
      exact this ▸ h1
    · intro h
      exact ⟨x, h, by rw [eqv_nice k n x x ((nices_iff k ys).mp hy x h) hx]; simp⟩
  cases x <;> simp only [inI, h, if_pos hd, this]
theorem cmp_in {S : Sto} {x y : D} {b : Bool} (h : inI x y S = some b) : cmpI .In x y S = .ok (.p (.bl b)) S := by simp only [cmpI, h]; rfl
theorem cmp_nin {S : Sto} {x y : D} {b : Bool} (h : inI x y S = some b) : cmpI .NotIn x y S = .ok (.p (.bl (!b))) S := by simp only [cmpI, h]; rfl
/-- signs joined without a space between -/
theorem joinL_nil : ∀ ys : List Cs, TL.joinL [] ys = ys.flatten
  | [] => by simp [TL.joinL]
  | [y] => by simp [TL.joinL]
  | y :: z :: r => by
    have ih := joinL_nil (z :: r)
    simp only [TL.joinL, List.nil_append, List.flatten_cons] at ih ⊢
    rw [ih]
theorem strs_map : ∀ ys : List Cs, strsOf (ys.map .str) = some ys
  | [] => rfl
  | y :: ys => by simp [strsOf, strs_map ys]
/-- ''.join of single signs -/
theorem join_signs {S : Sto} {n : Nat} {s : Cs} (h : S[n]? = some (.pl (s.map fun c => .str [c]))) (hl : s.length ≤ LINE) : mthI .join (.p (.str [])) [.ref n] S = .ok (.p (.str s)) S := by
  have e : (s.map fun c => PD.str [c]) = (s.map fun c => [c]).map .str := by simp
  have hd : dataOf (.ref n) S = some ((s.map fun c => [c]).map .str) := by simp only [dataOf, h, e]
  have sm : ((s.map fun c => [c]).map (·.length)).sum = s.length := by
    clear h e hd hl
    induction s with
    | nil => rfl
    | cons c s ih => simp only [List.map_cons, List.sum_cons, ih]; simp; omega
  have fl : (s.map fun c => [c]).flatten = s := by
    clear h e hd hl sm
    induction s with
    | nil => rfl
    | cons c s ih => simp [ih]
  simp only [mthI, hd, Option.bind_some, strs_map, sm]
  rw [if_pos (by simpa using hl)]
  simp only [joinS, joinL_nil, fl]; rfl
/-- a loop over the images of a list, by what has been walked; it may return -/
theorem forI_listR {α : Type} {w : Wk} {tg : Tg} {body : Nv → Sto → Out} {ρ : Nv} {S : Sto} (g : α → D) (xs : List α) (P : List α → Nv → Sto → Prop) (R : D → Sto → Prop)
    (h1 : ∀ ps x qs ρ S, xs = ps ++ x :: qs → P ps ρ S → w.still S = true ∧ ∃ ρ1, asgT tg (g x) ρ = some ρ1 ∧ ((∃ ρ2 S2, (body ρ1 S = .nx ρ2 S2 ∨ body ρ1 S = .ct ρ2 S2) ∧ P (ps ++ [x]) ρ2 S2) ∨ ∃ d S2, body ρ1 S = .rt d S2 ∧ R d S2)) (h0 : ∀ ρ S, P xs ρ S → w.still S = true) (h : P [] ρ S) :
    (∃ ρ' S', forI w tg body (xs.map g) ρ S = .nx ρ' S' ∧ P xs ρ' S') ∨ ∃ d S', forI w tg body (xs.map g) ρ S = .rt d S' ∧ R d S' := by
  have := forI_inv (w := w) (tg := tg) (body := body) (fun ds ρ S => ∃ ps qs, xs = ps ++ qs ∧ ds = qs.map g ∧ P ps ρ S) (fun o => ∃ d S2, o = .rt d S2 ∧ R d S2) (fun _ _ => False) (fun d ds ρ S ⟨ps, qs, e1, e2, hp⟩ => by
    cases qs with
    | nil => cases e2
    | cons x qs =>
      rw [List.map_cons, List.cons.injEq] at e2
      obtain ⟨rfl, rfl⟩ := e2
      obtain ⟨a, ρ1, b, c⟩ := h1 ps x qs ρ S e1 hp
      refine ⟨a, ρ1, b, ?_⟩
      rcases c with ⟨ρ2, S2, c1, c2⟩ | ⟨d, S2, c1, c2⟩
      · exact .inl ⟨ρ2, S2, c1, ps ++ [x], qs, by simp [e1], rfl, c2⟩
      · exact .inr (.inr ⟨d, S2, c1, d, S2, rfl, c2⟩)) (fun ρ S ⟨ps, qs, e1, e2, hp⟩ => by
    cases qs with
    | nil => rw [List.append_nil] at e1; subst e1; exact h0 ρ S hp
    | cons x qs => cases e2) (xs.map g) ρ S ⟨[], xs, rfl, rfl, h⟩
  rcases this with ⟨ρ', S', e, ⟨ps, qs, e1, e2, hp⟩ | z⟩ | ⟨d, S', e, d', S2, e2, hr⟩
  · cases qs with
    | nil => rw [List.append_nil] at e1; subst e1; exact .inl ⟨ρ', S', e, hp⟩
    | cons x qs => cases e2
  · exact z.elim
  · cases e2; exact .inr ⟨d, S', e, hr⟩
theorem forI_list {α : Type} {w : Wk} {tg : Tg} {body : Nv → Sto → Out} {ρ : Nv} {S : Sto} (g : α → D) (xs : List α) (P : List α → Nv → Sto → Prop)
    (h1 : ∀ ps x qs ρ S, xs = ps ++ x :: qs → P ps ρ S → w.still S = true ∧ ∃ ρ1, asgT tg (g x) ρ = some ρ1 ∧ ∃ ρ2 S2, (body ρ1 S = .nx ρ2 S2 ∨ body ρ1 S = .ct ρ2 S2) ∧ P (ps ++ [x]) ρ2 S2) (h0 : ∀ ρ S, P xs ρ S → w.still S = true) (h : P [] ρ S) :
    ∃ ρ' S', forI w tg body (xs.map g) ρ S = .nx ρ' S' ∧ P xs ρ' S' := by
  rcases forI_listR g xs P (fun _ _ => False) (fun ps x qs ρ S e hp => let ⟨a, ρ1, b, c⟩ := h1 ps x qs ρ S e hp; ⟨a, ρ1, b, .inl c⟩) h0 h with z | ⟨_, _, _, z⟩
  · exact z
  · exact z.elim
theorem rgS01 (n : Nat) : rgS 0 1 n = (List.range n).map fun (k : Nat) => D.p (.int (k : Int)) := by simp [rgS]
theorem lcI_listF {α : Type} {w : Wk} {tg : Tg} {c : Nv → Sto → Res Bool} {elt : Nv → Sto → Res D} {ρ : Nv} {S0 : Sto} (g : α → D) (p : α → Bool) (f : α → PD) (hs : ∀ l, w.still (S0 ++ l) = true) :
    ∀ (xs : List α) (acc : List PD), (∀ x ∈ xs, ∃ ρ1, asgT tg (g x) ρ = some ρ1 ∧ ∀ l, c ρ1 (S0 ++ l) = .ok (p x) (S0 ++ l) ∧ (p x = true → elt ρ1 (S0 ++ l) = .ok (.p (f x)) (S0 ++ l))) →
      lcI w tg c elt ρ S0.length (.pl acc) (xs.map g) (S0 ++ [.pl acc]) = .ok (.ref S0.length) (S0 ++ [.pl (acc ++ (xs.filter p).map f)])
  | [], acc, h => by rw [List.map_nil]; unfold lcI; rw [if_pos (hs _)]; simp
  | d :: ds, acc, h => by
    obtain ⟨ρ1, ha, hb⟩ := h d List.mem_cons_self
    obtain ⟨hc, he⟩ := hb [.pl acc]
    have g' : (S0 ++ [O.pl acc])[S0.length]? = some (.pl acc) := by simp
    rw [List.map_cons]
    unfold lcI
    rw [if_pos (hs _)]
    cases q : p d with
    | false =>
      rw [q] at hc
      simp only [ha, hc, g', if_true]
      rw [lcI_listF g p f hs ds acc fun d hd => h d (List.mem_cons_of_mem _ hd)]
      simp [q]
    | true =>
      rw [q] at hc
      simp only [ha, hc, he q, g', if_true, O.push]
      have : (S0 ++ [O.pl acc]).set S0.length (.pl (acc ++ [f d])) = S0 ++ [.pl (acc ++ [f d])] := by simp
      rw [this, lcI_listF g p f hs ds (acc ++ [f d]) fun d hd => h d (List.mem_cons_of_mem _ hd)]
      simp [q]
/-- a comprehension over the images of a list that makes data and leaves the store alone -/
theorem lc_ev {M : Mo} {α : Type} {own : List Nat} {tg : Tg} {it : W} {elt : E} {ρ : Nv} {S : Sto} {w : Wk} (g : α → D) (f : α → PD) (xs : List α) (hw : evW M it ρ S = .ok w S) (hl : xs.length ≤ LINE) (hx : w.ds = xs.map g) (hs : ∀ l, w.still (S ++ l) = true)
    (h : ∀ x ∈ xs, ∃ ρ1, asgT tg (g x) (wipeN ρ own) = some ρ1 ∧ ∀ l, evE M elt ρ1 (S ++ l) = .ok (.p (f x)) (S ++ l)) : evE M (.lc own tg it elt) ρ S = .ok (.ref S.length) (S ++ [.pl (xs.map f)]) := by
  rw [ev_lc, hw, Res.bind_ok', hx, List.length_map, if_pos hl]
  rw [lcI_listF g (fun _ => true) f hs xs [] fun x hx => let ⟨ρ1, a, b⟩ := h x hx; ⟨ρ1, a, fun l => ⟨rfl, fun _ => b l⟩⟩]
  rw [List.filter_eq_self.mpr (fun _ _ => rfl)]
  simp
theorem lcI_ev {M : Mo} {α : Type} {own : List Nat} {tg : Tg} {it : W} {c elt : E} {ρ : Nv} {S : Sto} {w : Wk} (g : α → D) (p : α → Bool) (f : α → PD) (xs : List α) (hw : evW M it ρ S = .ok w S) (hl : xs.length ≤ LINE) (hx : w.ds = xs.map g) (hs : ∀ l, w.still (S ++ l) = true)
    (h : ∀ x ∈ xs, ∃ ρ1, asgT tg (g x) (wipeN ρ own) = some ρ1 ∧ ∀ l, (evE M c ρ1 (S ++ l)).bind truI = .ok (p x) (S ++ l) ∧ (p x = true → evE M elt ρ1 (S ++ l) = .ok (.p (f x)) (S ++ l))) : evE M (.lcI own tg it c elt) ρ S = .ok (.ref S.length) (S ++ [.pl ((xs.filter p).map f)]) := by
  rw [ev_lcI, hw, Res.bind_ok', hx, List.length_map, if_pos hl]
  rw [lcI_listF g p f hs xs [] h]
  simp
/-- .. over a range -/
theorem lc_rg {M : Mo} {own : List Nat} {tg : Tg} {it : W} {elt : E} {ρ : Nv} {S : Sto} {n : Nat} (f : Nat → PD) (hw : evW M it ρ S = .ok ⟨rgS 0 1 n, none⟩ S) (hl : n ≤ LINE)
    (h : ∀ k, k < n → ∃ ρ1, asgT tg (.p (.int (k : Int))) (wipeN ρ own) = some ρ1 ∧ ∀ l, evE M elt ρ1 (S ++ l) = .ok (.p (f k)) (S ++ l)) : evE M (.lc own tg it elt) ρ S = .ok (.ref S.length) (S ++ [.pl ((List.range n).map f)]) :=
  lc_ev (fun k : Nat => D.p (.int (k : Int))) f (List.range n) hw (by simpa using hl) (rgS01 n) (fun _ => rfl) fun x hx => h x (by simpa using hx)
/-- .. over a text -/
theorem lc_txt {M : Mo} {own : List Nat} {tg : Tg} {e elt : E} {ρ : Nv} {S : Sto} {s : Cs} (f : Nat → PD) (hw : evE M e ρ S = .ok (.p (.str s)) S) (hl : s.length ≤ LINE)
    (h : ∀ c ∈ s, ∃ ρ1, asgT tg (.p (.str [c])) (wipeN ρ own) = some ρ1 ∧ ∀ l, evE M elt ρ1 (S ++ l) = .ok (.p (f c)) (S ++ l)) : evE M (.lc own tg (.of e) elt) ρ S = .ok (.ref S.length) (S ++ [.pl (s.map f)]) :=
  lc_ev (w := ⟨s.map fun c => .p (.str [c]), none⟩) (fun c : Nat => D.p (.str [c])) f s (by rw [evw_of, hw]; rfl) hl rfl (fun _ => rfl) h
theorem small_rg {i : Int} (h0 : 0 ≤ i) (h1 : i ≤ 1000000) : small i = true := by
  simp only [small, Bool.and_eq_true, decide_eq_true_eq]
  constructor <;> omega
@[simp] theorem get_app0 {α : Type} (S l : List α) : (S ++ l)[S.length]? = l[0]? := by rw [List.getElem?_append_right (Nat.le_refl _)]; simp
@[simp] theorem get_appk {α : Type} (S l : List α) (k : Nat) : (S ++ l)[S.length + k]? = l[k]? := by rw [List.getElem?_append_right (by omega)]; congr 1; omega
theorem cut_hi {α : Type} {xs : List α} {i : Int} (h0 : 0 ≤ i) (h1 : i ≤ xs.length) : cut xs none (some i) = xs.take i.toNat := by
  unfold cut
  have : HT.sIx xs.length xs.length (some i) = i.toNat := by
    show (if i < 0 then (i + (xs.length : Int)).toNat else min i.toNat xs.length) = _
    rw [if_neg (by omega)]; omega
  rw [this, HT.sIx_none]; simp
theorem cut_lo {α : Type} {xs : List α} {i : Int} (h0 : 0 ≤ i) : cut xs (some i) none = xs.drop i.toNat := by
  unfold cut
  have : HT.sIx xs.length 0 (some i) = min i.toNat xs.length := by
    show (if i < 0 then (i + (xs.length : Int)).toNat else min i.toNat xs.length) = _
    rw [if_neg (by omega)]
  rw [this, HT.sIx_none]
  rcases Nat.le_total i.toNat xs.length with h | h
  · rw [Nat.min_eq_left h, List.take_of_length_le (by simp)]
  · rw [Nat.min_eq_right h, List.drop_of_length_le h]; simp
theorem cut_map {α β : Type} (f : α → β) (xs : List α) (lo hi : Option Int) : cut (xs.map f) lo hi = (cut xs lo hi).map f := by
  unfold cut; simp [List.map_take, List.map_drop]
theorem sl_ref {S : Sto} {n : Nat} {xs : List PD} {lo hi : Option Int} (h : S[n]? = some (.pl xs)) : slI (.ref n) lo hi S = .ok (.ref S.length) (S ++ [.pl (cut xs lo hi)]) := by simp only [slI, h]; rfl
theorem split_at {α : Type} [Inhabited α] {xs : List α} {i : Nat} (h : i < xs.length) : xs = xs.take i ++ [xs[i]!] ++ xs.drop (i + 1) := by
  have : xs[i]! = xs[i] := by simp [h]
  rw [this, List.append_assoc, List.singleton_append, List.getElem_cons_drop, List.take_append_drop]
end PH

set_option maxHeartbeats 4000000
/-! PH, part R: a law's body, statement by statement, to True. -/
namespace PH
open L2 PySem PySem.Spec PyProof.Rows
/-- the rest of the body returns True -/
def Ends (M : Mo) (cs : Cz) (ρ : Nv) (S : Sto) : Prop := ∃ S', evCz M cs ρ S = .rt (.p (.bl true)) S'
theorem ends_step {M : Mo} {c : C} {cs : Cz} {ρ ρ1 : Nv} {S S1 : Sto} (h : evC M c ρ S = .nx ρ1 S1) (h2 : Ends M cs ρ1 S1) : Ends M (.cons c cs) ρ S := by
  obtain ⟨S', e⟩ := h2
  exact ⟨S', (evz_step h).trans e⟩
theorem ends_ret {M : Mo} {c : C} {cs : Cz} {ρ : Nv} {S S1 : Sto} (h : evC M c ρ S = .rt (.p (.bl true)) S1) : Ends M (.cons c cs) ρ S := ⟨S1, evz_end h⟩
theorem tidy_any (S S' : Sto) (x : PD) : ∃ S'', tidy S S' (.p x) = .ok (.p x) S'' := by
  unfold tidy
  split <;> exact ⟨_, rfl⟩
theorem ends_call {ents : List Ent} {gl : Nat → Option PD} {k f : Nat} {e : Ent} {ds : List D} {S : Sto} (he : ents[f]? = some e) (hl : ds.length = e.df.np) (h : Ends ⟨callI (dfs ents) gl k, gl⟩ e.df.body (ds.map some ++ List.replicate (e.df.n - e.df.np) none) S) :
    ∃ S', callI (dfs ents) gl (k + 1) f ds S = .ok (.p (.bl true)) S' := by
  obtain ⟨S', h⟩ := h
  obtain ⟨S'', h2⟩ := tidy_any S S' (.bl true)
  exact ⟨S'', call_of he hl (runB_rt h h2)⟩
theorem choice {α β : Type} {r : α → β → Prop} (h : ∀ x, ∃ y, r x y) : ∃ f : α → β, ∀ x, r x (f x) := ⟨fun x => (h x).choose, fun x => (h x).choose_spec⟩
/-- the numbers, called -/
theorem numbers_call {ents : List Ent} {gl : Nat → Option PD} {j f n : Nat} {e : Ent} {S : Sto} {ns : List Int} {k c : Int} (he : ents[f]? = some e) (hd : e.df = numDf) (hn : S[n]? = some (.fz (ns.map .int))) (hk : 0 ≤ k) (h0 : 0 ≤ c) (hc : c ≤ 1000) :
    ∃ xs : List Int, xs.length = c.toNat ∧ Low xs ∧ callI (dfs ents) gl (j + 1) f [.ref n, .p (.int k), .p (.int c)] S = .ok (.ref S.length) (S ++ [.pl (xs.map .int)]) := by
  obtain ⟨xs, h1, h2, h3⟩ := numbers_run ⟨callI (dfs ents) gl j, gl⟩ hn hk h0 hc
  exact ⟨xs, h1, h2, call_of he (by rw [hd]; rfl) (by rw [hd]; exact h3)⟩
theorem log_small {i : Int} (h0 : 0 ≤ i) (h1 : i < 1000000) : i.natAbs.log2 < 1920 := by
  by_cases z : i.natAbs = 0
  · rw [z]; decide
  · rw [Nat.log2_lt z]
    have : i.natAbs < 2 ^ 20 := by omega
    exact Nat.lt_of_lt_of_le this (Nat.pow_le_pow_right (by decide) (by decide))
theorem atI_mem {α : Type} {xs : List α} {i : Int} (h0 : 0 ≤ i) (h1 : i < xs.length) : ∃ x, atI xs i = some x ∧ x ∈ xs := by
  have hi : i.toNat < xs.length := by omega
  refine ⟨xs[i.toNat], ?_, List.getElem_mem hi⟩
  unfold atI ixN
  rw [if_pos h0, if_pos h1]
  simp [hi]
theorem ix_ml {S : Sto} {n : Nat} {xs : List D} {i : Int} {x : D} (h : S[n]? = some (.ml xs)) (hx : atI xs i = some x) : ixI (.ref n) (.p (.int i)) S = .ok x S := by simp only [ixI, Sto.lst, h, O.isL, O.ds, if_true, hx]
end PH

set_option maxHeartbeats 4000000
/-! PH, part S: texts in order, each once; all, any, sorted; writing into the store. -/
namespace PH
open L2 PySem PySem.Spec PyProof.Rows
section
variable {S : Sto}
@[simp] theorem set_appk {α : Type} (S l : List α) (k : Nat) (x : α) : (S ++ l).set (S.length + k) x = S ++ l.set k x := by rw [List.set_append_right _ _ (by omega)]; congr 2; omega
@[simp] theorem set_app0 {α : Type} (S l : List α) (x : α) : (S ++ l).set S.length x = S ++ l.set 0 x := by rw [List.set_append_right _ _ (by omega)]; congr 2; omega
theorem bools_map : ∀ bs : List Bool, boolsOf (bs.map .bl) = some bs
  | [] => rfl
  | b :: bs => by simp [boolsOf, bools_map bs]
theorem all_ref {n : Nat} {bs : List Bool} (h : S[n]? = some (.pl (bs.map .bl))) : bltI .all [.ref n] S = .ok (.p (.bl (bs.all id))) S := by simp only [bltI, h, bools_map]; rfl
theorem any_ref {n : Nat} {bs : List Bool} (h : S[n]? = some (.pl (bs.map .bl))) : bltI .any [.ref n] S = .ok (.p (.bl (bs.any id))) S := by simp only [bltI, h, bools_map]; rfl
/-- all([..]) and any([..]) over a fresh list of truth values -/
theorem all_new {α : Type} (xs : List α) (p : α → Bool) : bltI .all [.ref S.length] (S ++ [.pl (xs.map fun x => .bl (p x))]) = .ok (.p (.bl (xs.all p))) (S ++ [.pl (xs.map fun x => .bl (p x))]) := by
  rw [all_ref (bs := xs.map p) (by simp)]; simp [List.all_map, Function.comp_def]
theorem any_new {α : Type} (xs : List α) (p : α → Bool) : bltI .any [.ref S.length] (S ++ [.pl (xs.map fun x => .bl (p x))]) = .ok (.p (.bl (xs.any p))) (S ++ [.pl (xs.map fun x => .bl (p x))]) := by
  rw [any_ref (bs := xs.map p) (by simp)]; simp [List.any_map, Function.comp_def]

/-! ### each once -/
def add1 (f : List Cs) (w : Cs) : List Cs := if w ∈ f then f else f ++ [w]
def once (f xs : List Cs) : List Cs := xs.foldl add1 f
theorem once_snoc (f xs : List Cs) (x : Cs) : once f (xs ++ [x]) = add1 (once f xs) x := by simp [once]
theorem mem_add1 {f : List Cs} {w x : Cs} : x ∈ add1 f w ↔ x ∈ f ∨ x = w := by
  unfold add1
  split
  · constructor
    · exact .inl
    · rintro (h | rfl) <;> assumption
  · simp
theorem mem_once {f : List Cs} {x : Cs} : ∀ {xs : List Cs}, x ∈ once f xs ↔ x ∈ f ∨ x ∈ xs := fun {xs} => by
  unfold once
  induction xs generalizing f with
  | nil => simp
  | cons y ys ih => rw [List.foldl_cons, ih, mem_add1]; simp [or_assoc]
/-- what is new, after what was -/
theorem once_split (f : List Cs) (xs : List Cs) : ∀ n, ∀ ps : List Cs, ps.length = n → once f ps = f ++ (once [] ps).filter fun w => !decide (w ∈ f) := fun n => by
  induction n with
  | zero => intro ps h; cases ps with | nil => simp [once] | cons _ _ => simp at h
  | succ n ih =>
    intro ps h
    have hne : ps ≠ [] := fun z => by subst z; simp at h
    obtain ⟨qs, x, rfl⟩ : ∃ qs x, ps = qs ++ [x] := ⟨ps.dropLast, ps.getLast hne, (List.dropLast_concat_getLast hne).symm⟩
    have hq := ih qs (by simpa using h)
    rw [once_snoc, once_snoc]
    by_cases hf : x ∈ f
    · have h1 : x ∈ once f qs := mem_once.mpr (.inl hf)
      rw [add1, if_pos h1, hq]
      unfold add1
      split
      · rfl
      · simp [hf]
    · by_cases hx : x ∈ qs
      · have h1 : x ∈ once f qs := mem_once.mpr (.inr hx)
        have h2 : x ∈ once [] qs := mem_once.mpr (.inr hx)
        rw [add1, if_pos h1, add1, if_pos h2, hq]
      · have h1 : x ∉ once f qs := fun z => by rcases mem_once.mp z with z | z <;> contradiction
        have h2 : x ∉ once [] qs := fun z => by rcases mem_once.mp z with z | z <;> simp_all
        rw [add1, if_neg h1, add1, if_neg h2, hq]
        simp [hf]
theorem once_eq (f xs : List Cs) : once f xs = f ++ (once [] xs).filter fun w => !decide (w ∈ f) := once_split f xs xs.length xs rfl

/-! ### in order -/
def leC (a b : Cs) : Bool := PD.le (.str a) (.str b)
theorem leC_iff {a b : Cs} : leC a b = true ↔ a ≤ b := by
  unfold leC PD.le PD.lt
  have : PySem.W.dataLt (PD.str b).py (PD.str a).py = decide (b < a) := PySem.W.dataLt_str (mkS b) (mkS a)
  rw [this, Bool.not_eq_true', decide_eq_false_iff_not]
  exact List.not_lt
def srt (xs : List Cs) : List Cs := xs.mergeSort leC
theorem srt_pw (xs : List Cs) : (srt xs).Pairwise fun a b => a ≤ b := by
  have := List.pairwise_mergeSort (le := leC) (fun a b c h1 h2 => leC_iff.mpr (List.le_trans (leC_iff.mp h1) (leC_iff.mp h2))) (fun a b => by
    rcases List.le_total a b with h | h
    · rw [leC_iff.mpr h]; rfl
    · rw [leC_iff.mpr h, Bool.or_true]) xs
  exact this.imp fun h => leC_iff.mp h
theorem srtI_strs (xs : List Cs) : srtI (xs.map .str) = some ((srt xs).map .str) := by
  unfold srtI
  rw [if_pos]
  · congr 1
    unfold srt
    exact (List.map_mergeSort (f := PD.str) (r := leC) (s := PD.le) (fun a _ b _ => rfl)).symm
  · refine ⟨fun x hx y hy => ?_, .inr fun x hx => ?_, fun x hx => ?_⟩
    · obtain ⟨a, _, rfl⟩ := List.mem_map.mp hx
      obtain ⟨b, _, rfl⟩ := List.mem_map.mp hy
      show PySem.W.alike (.str (mkS a)) (.str (mkS b)) = true
      simp only [PySem.W.alike]
    · obtain ⟨a, _, rfl⟩ := List.mem_map.mp hx
      rfl
    · obtain ⟨a, _, rfl⟩ := List.mem_map.mp hx
      simp [PD.dep, PD.py, PyData.depth]
theorem sorted_strs {d : D} {xs : List Cs} (h : dataOf d S = some (xs.map .str)) : bltI .sorted [d] S = .ok (.ref S.length) (S ++ [.pl ((srt xs).map .str)]) := by
  exact sorted_ev h (srtI_strs _)
/-- within a sorted row: what was before is the last -/
theorem last_iff {ps : List Cs} {x : Cs} {qs : List Cs} (h : (ps ++ x :: qs).Pairwise fun a b => a ≤ b) : x ∈ ps ↔ ps.getLast? = some x := by
  constructor
  · intro hx
    have hne : ps ≠ [] := fun z => by subst z; simp at hx
    have e := List.dropLast_concat_getLast hne
    rw [List.getLast?_eq_some_getLast hne]
    congr 1
    rw [List.pairwise_append] at h
    have h1 : ps.getLast hne ≤ x := h.2.2 _ (List.getLast_mem hne) _ List.mem_cons_self
    by_cases z : x = ps.getLast hne
    · exact z.symm
    · have hd : x ∈ ps.dropLast := by
        rw [← e] at hx
        rcases List.mem_append.mp hx with q | q
        · exact q
        · simp at q; exact absurd q z
      have h2 := h.1
      rw [← e, List.pairwise_append] at h2
      exact List.le_antisymm h1 (h2.2.2 x hd _ (by simp))
  · exact fun h => List.mem_of_getLast? h
theorem once_last {ps : List Cs} : ∀ n, ∀ ps : List Cs, ps.length = n → (ps.Pairwise fun a b => a ≤ b) → (once [] ps).getLast? = ps.getLast? := fun n => by
  induction n with
  | zero => intro ps h _; cases ps with | nil => rfl | cons _ _ => simp at h
  | succ n ih =>
    intro ps h hp
    have hne : ps ≠ [] := fun z => by subst z; simp at h
    obtain ⟨qs, x, rfl⟩ : ∃ qs x, ps = qs ++ [x] := ⟨ps.dropLast, ps.getLast hne, (List.dropLast_concat_getLast hne).symm⟩
    have hq := ih qs (by simpa using h) (List.pairwise_append.mp hp).1
    rw [once_snoc]
    unfold add1
    split
    · rename_i hm
      rw [hq]
      have : x ∈ qs := by rcases mem_once.mp hm with z | z; · cases z
                          · exact z
      rw [(last_iff (qs := []) hp).mp this]; simp
    · simp
theorem once_last' {ps : List Cs} (h : ps.Pairwise fun a b => a ≤ b) : (once [] ps).getLast? = ps.getLast? := once_last (ps := ps) ps.length ps rfl h
end
end PH

set_option maxHeartbeats 4000000
/-! PH, part T: rows in order, each once, for any data that are alike; merged. -/
namespace PH
open L2 PySem PySem.Spec PyProof.Rows
/-- a kind of data that can be put in order -/
structure Emb (α : Type) [DecidableEq α] where
  f : α → PD
  inj : ∀ a b, f a = f b → a = b
  n : Nat
  nice : ∀ a, (f a).nice n = true
  hn : n ≤ 60
  like : ∀ a b, PD.like (f a) (f b) = true
  flat : (∀ a, isTup1 (f a) = true) ∨ ∀ a, isFlat (f a) = true
  trans : ∀ a b c, PD.le (f a) (f b) = true → PD.le (f b) (f c) = true → PD.le (f a) (f c) = true
  total : ∀ a b, (PD.le (f a) (f b) || PD.le (f b) (f a)) = true
  anti : ∀ a b, PD.le (f a) (f b) = true → PD.le (f b) (f a) = true → a = b
section
variable {α : Type} [DecidableEq α] (E : Emb α) {S : Sto}
def gadd (f : List α) (w : α) : List α := if w ∈ f then f else f ++ [w]
def gonce (f xs : List α) : List α := xs.foldl gadd f
theorem gonce_snoc (f xs : List α) (x : α) : gonce f (xs ++ [x]) = gadd (gonce f xs) x := by simp [gonce]
theorem mem_gadd {f : List α} {w x : α} : x ∈ gadd f w ↔ x ∈ f ∨ x = w := by
  unfold gadd
  split
  · constructor
    · exact .inl
    · rintro (h | rfl) <;> assumption
  · simp
theorem mem_gonce {f : List α} {x : α} {xs : List α} : x ∈ gonce f xs ↔ x ∈ f ∨ x ∈ xs := by
  unfold gonce
  induction xs generalizing f with
  | nil => simp
  | cons y ys ih => rw [List.foldl_cons, ih, mem_gadd]; simp [or_assoc]
theorem gonce_len : ∀ (xs f : List α), (gonce f xs).length ≤ f.length + xs.length
  | [], f => by simp [gonce]
  | x :: xs, f => by
    have := gonce_len xs (gadd f x)
    have h2 : (gadd f x).length ≤ f.length + 1 := by unfold gadd; split <;> simp
    simp only [gonce, List.foldl_cons, List.length_cons] at this ⊢
    omega
def Emb.le (a b : α) : Bool := PD.le (E.f a) (E.f b)
def gsrt (xs : List α) : List α := xs.mergeSort E.le
theorem gsrt_len (xs : List α) : (gsrt E xs).length = xs.length := by simp [gsrt, List.length_mergeSort]
theorem mem_gsrt {xs : List α} {x : α} : x ∈ gsrt E xs ↔ x ∈ xs := List.mem_mergeSort
theorem gsrt_pw (xs : List α) : (gsrt E xs).Pairwise fun a b => E.le a b = true := List.pairwise_mergeSort (fun a b c => E.trans a b c) (fun a b => E.total a b) xs
theorem gsrtI (xs : List α) : srtI (xs.map E.f) = some ((gsrt E xs).map E.f) := by
  unfold srtI
  rw [if_pos]
  · congr 1
    unfold gsrt
    exact (List.map_mergeSort (f := E.f) (r := E.le) (s := PD.le) (fun a _ b _ => rfl)).symm
  · refine ⟨fun x hx y hy => ?_, ?_, fun x hx => ?_⟩
    · obtain ⟨a, _, rfl⟩ := List.mem_map.mp hx
      obtain ⟨b, _, rfl⟩ := List.mem_map.mp hy
      exact E.like a b
    · rcases E.flat with h | h
      · refine .inl fun x hx => ?_
        obtain ⟨a, _, rfl⟩ := List.mem_map.mp hx
        exact h a
      · refine .inr fun x hx => ?_
        obtain ⟨a, _, rfl⟩ := List.mem_map.mp hx
        exact h a
    · obtain ⟨a, _, rfl⟩ := List.mem_map.mp hx
      have := dep_nice E.n (E.f a) (E.nice a)
      have := E.hn
      show (E.f a).py.depth ≤ 64
      omega
theorem gsorted {d : D} {xs : List α} (h : dataOf d S = some (xs.map E.f)) : bltI .sorted [d] S = .ok (.ref S.length) (S ++ [.pl ((gsrt E xs).map E.f)]) := by
  exact sorted_ev h (gsrtI E _)
theorem glast_iff {ps : List α} {x : α} {qs : List α} (h : (ps ++ x :: qs).Pairwise fun a b => E.le a b = true) : x ∈ ps ↔ ps.getLast? = some x := by
  constructor
  · intro hx
    have hne : ps ≠ [] := fun z => by subst z; simp at hx
    have e := List.dropLast_concat_getLast hne
    rw [List.getLast?_eq_some_getLast hne]
    congr 1
    rw [List.pairwise_append] at h
    have h1 : E.le (ps.getLast hne) x = true := h.2.2 _ (List.getLast_mem hne) _ List.mem_cons_self
    by_cases z : x = ps.getLast hne
    · exact z.symm
    · have hd : x ∈ ps.dropLast := by
        rw [← e] at hx
        rcases List.mem_append.mp hx with q | q
        · exact q
        · simp at q; exact absurd q z
      have h2 := h.1
      rw [← e, List.pairwise_append] at h2
      exact E.anti _ _ h1 (h2.2.2 x hd _ (by simp))
  · exact fun h => List.mem_of_getLast? h
theorem gonce_last : ∀ n, ∀ ps : List α, ps.length = n → (ps.Pairwise fun a b => E.le a b = true) → (gonce [] ps).getLast? = ps.getLast? := fun n => by
  induction n with
  | zero => intro ps h _; cases ps with | nil => rfl | cons _ _ => simp at h
  | succ n ih =>
    intro ps h hp
    have hne : ps ≠ [] := fun z => by subst z; simp at h
    obtain ⟨qs, x, rfl⟩ : ∃ qs x, ps = qs ++ [x] := ⟨ps.dropLast, ps.getLast hne, (List.dropLast_concat_getLast hne).symm⟩
    have hq := ih qs (by simpa using h) (List.pairwise_append.mp hp).1
    rw [gonce_snoc]
    unfold gadd
    split
    · rename_i hm
      rw [hq]
      have : x ∈ qs := by rcases mem_gonce.mp hm with z | z; · cases z
                          · exact z
      rw [(glast_iff E (qs := []) hp).mp this]; simp
    · simp
/-- each once of a row in order: in strict order -/
theorem gonce_strict : ∀ n, ∀ ps : List α, ps.length = n → (ps.Pairwise fun a b => E.le a b = true) → (gonce [] ps).Pairwise fun a b => E.le a b = true ∧ a ≠ b := fun n => by
  induction n with
  | zero => intro ps h _; cases ps with | nil => simp [gonce] | cons _ _ => simp at h
  | succ n ih =>
    intro ps h hp
    have hne : ps ≠ [] := fun z => by subst z; simp at h
    obtain ⟨qs, x, rfl⟩ : ∃ qs x, ps = qs ++ [x] := ⟨ps.dropLast, ps.getLast hne, (List.dropLast_concat_getLast hne).symm⟩
    have hq := ih qs (by simpa using h) (List.pairwise_append.mp hp).1
    rw [gonce_snoc]
    unfold gadd
    split
    · exact hq
    · rename_i hm
      rw [List.pairwise_append]
      refine ⟨hq, by simp, fun a ha b hb => ?_⟩
      simp at hb; subst hb
      have haq : a ∈ qs := by rcases mem_gonce.mp ha with z | z; · cases z
                              · exact z
      exact ⟨(List.pairwise_append.mp hp).2.2 a haq b (by simp), fun z => hm (z ▸ ha)⟩
/-- rows in strict order with the same members are the same -/
theorem strict_ext : ∀ {xs ys : List α}, (xs.Pairwise fun a b => E.le a b = true ∧ a ≠ b) → (ys.Pairwise fun a b => E.le a b = true ∧ a ≠ b) → (∀ a, a ∈ xs ↔ a ∈ ys) → xs = ys
  | [], [], _, _, _ => rfl
  | [], y :: ys, _, _, h => absurd ((h y).mpr List.mem_cons_self) (by simp)
  | x :: xs, [], _, _, h => absurd ((h x).mp List.mem_cons_self) (by simp)
  | x :: xs, y :: ys, hx, hy, h => by
    rw [List.pairwise_cons] at hx hy
    have e : x = y := by
      rcases List.mem_cons.mp ((h x).mp List.mem_cons_self) with z | z
      · exact z
      · rcases List.mem_cons.mp ((h y).mpr List.mem_cons_self) with q | q
        · exact q.symm
        · exact E.anti _ _ (hx.1 y q).1 (hy.1 x z).1
    subst e
    congr 1
    refine strict_ext hx.2 hy.2 fun a => ?_
    have := h a
    simp only [List.mem_cons] at this
    constructor
    · intro ha
      rcases this.mp (.inr ha) with z | z
      · exact absurd z.symm (hx.1 a ha).2
      · exact z
    · intro ha
      rcases this.mpr (.inr ha) with z | z
      · exact absurd z.symm (hy.1 a ha).2
      · exact z
/-- in order, each once -/
def gset (xs : List α) : List α := gonce [] (gsrt E xs)
theorem gset_strict (xs : List α) : (gset E xs).Pairwise fun a b => E.le a b = true ∧ a ≠ b := gonce_strict E _ _ rfl (gsrt_pw E xs)
theorem mem_gset {xs : List α} {a : α} : a ∈ gset E xs ↔ a ∈ xs := by unfold gset; rw [mem_gonce, mem_gsrt]; simp
theorem gset_ext {xs ys : List α} (h : ∀ a, a ∈ xs ↔ a ∈ ys) : gset E xs = gset E ys := strict_ext E (gset_strict E xs) (gset_strict E ys) fun a => by rw [mem_gset, mem_gset]; exact h a
theorem gset_len (xs : List α) : (gset E xs).length ≤ xs.length := by
  have := gonce_len (gsrt E xs) []
  rw [gsrt_len] at this
  simpa [gset] using this
theorem tru_ref' {n : Nat} {o : O} (h : S[n]? = some o) (hl : o.isL = true) : truI (.ref n) S = .ok (!o.ds.isEmpty) S := by simp only [truI, Sto.lst, h, hl, if_true]
theorem app_at' {n : Nat} {xs : List PD} {y : PD} (h : S[n]? = some (.pl xs)) (hl : xs.length < LINE) : mthI .append (.ref n) [.p y] S = .ok (.p .non) (S.set n (.pl (xs ++ [y]))) := by
  simp only [mthI, h, O.ds, List.length_map, if_pos hl, O.push]; rfl
theorem ix_last' {n : Nat} {xs : List PD} {y : PD} (h : S[n]? = some (.pl (xs ++ [y]))) : ixI (.ref n) (.p (.int (-1))) S = .ok (.p y) S :=
  ix_data (xs := xs ++ [y]) (by simp only [dataOf, h]) (atI_last xs y)
def mergedDf : Df := ⟨1, 3, (.cons (.asg (.nm 1) (.ls .nil))
  (.cons (.forr (.nm 2) (.of (.blt .sorted (.cons (.v 0) .nil))) (.cons (.ite (.bo .Or (.cons (.no (.v 1)) (.cons (.cmp .NotEq (.ix (.v 1) (.neg (.k (.int 1)))) (.v 2)) .nil))) (.cons (.ex (.mth .append (.v 1) (.cons (.v 2) .nil)))
      .nil) .nil)
    .nil))
  (.cons (.ret (.blt .tuple (.cons (.v 1) .nil)))
  .nil)))⟩
theorem merged_run (M : Mo) {d : D} {xs : List α} (h : dataOf d S = some (xs.map E.f)) (hl : xs.length ≤ 10000) : runB M mergedDf [d] S = .ok (.p (.tup ((gset E xs).map E.f))) S := by
  have hw : wkOf (.ref (S.length + 1)) (S ++ [.pl [], .pl ((gsrt E xs).map E.f)]) = .ok ⟨((gsrt E xs).map E.f).map .p, some (S.length + 1, .pl ((gsrt E xs).map E.f))⟩ (S ++ [.pl [], .pl ((gsrt E xs).map E.f)]) := wk_ref (o := .pl ((gsrt E xs).map E.f)) (by rw [get_appk]; rfl) rfl
  obtain ⟨ρ', S', e, rfl, j, rfl⟩ := forI_list (w := ⟨((gsrt E xs).map E.f).map .p, some (S.length + 1, .pl ((gsrt E xs).map E.f))⟩) (tg := .nm 2) (body := evCz M (.cons (.ite (.bo .Or (.cons (.no (.v 1)) (.cons (.cmp .NotEq (.ix (.v 1) (.neg (.k (.int 1)))) (.v 2)) .nil))) (.cons (.ex (.mth .append (.v 1) (.cons (.v 2) .nil))) .nil) .nil) .nil))
    (ρ := [some d, some (.ref S.length), none]) (S := S ++ [.pl [], .pl ((gsrt E xs).map E.f)]) (fun x => D.p (E.f x)) (gsrt E xs) (fun ps ρ S' => S' = S ++ [.pl ((gonce [] ps).map E.f), .pl ((gsrt E xs).map E.f)] ∧ ∃ j, ρ = [some d, some (.ref S.length), j])
    (fun ps x qs ρ S' e ⟨h1, j, h2⟩ => by
      subst h1 h2
      have pw := gsrt_pw E xs
      rw [e] at pw
      have pl := gonce_last E ps.length ps rfl (List.pairwise_append.mp pw).1
      have li := glast_iff E pw
      have ol := gonce_len ps []
      have sl := gsrt_len E xs
      have pl2 : ps.length ≤ 10000 := by rw [e] at sl; simp at sl; omega
      refine ⟨by simp [Wk.still], _, rfl, [some d, some (.ref S.length), some (.p (E.f x))], S ++ [.pl ((gonce [] (ps ++ [x])).map E.f), .pl ((gsrt E xs).map E.f)], .inl ?_, rfl, _, rfl⟩
      have g0 : (S ++ [O.pl ((gonce [] ps).map E.f), O.pl ((gsrt E xs).map E.f)])[S.length]? = some (.pl ((gonce [] ps).map E.f)) := by simp
      have t0 := tru_ref' g0 rfl
      have ap := app_at' (y := E.f x) g0 (by simp [LINE] at ol ⊢; omega)
      have rv : recv .append (.ref S.length) (S ++ [O.pl ((gonce [] ps).map E.f), O.pl ((gsrt E xs).map E.f)]) = true := recv_new g0 rfl rfl
      have mo : x ∈ gonce [] ps ↔ x ∈ ps := by simp [mem_gonce]
      rw [gonce_snoc]
      unfold gadd
      generalize gonce [] ps = o at *
      by_cases ho : o = []
      · have t1 : truI (.ref S.length) (S ++ [O.pl (o.map E.f), O.pl ((gsrt E xs).map E.f)]) = .ok false (S ++ [O.pl (o.map E.f), O.pl ((gsrt E xs).map E.f)]) := by rw [t0, ho]; simp [O.ds]
        have : ¬ x ∈ o := by rw [ho]; simp
        simp [t1, rv, ap, this]
      · have ez := List.dropLast_concat_getLast ho
        generalize hz0 : o.getLast ho = z at ez
        have il : ixI (.ref S.length) (.p (.int (-1))) (S ++ [O.pl (o.map E.f), O.pl ((gsrt E xs).map E.f)]) = .ok (.p (E.f z)) (S ++ [O.pl (o.map E.f), O.pl ((gsrt E xs).map E.f)]) := ix_last' (xs := o.dropLast.map E.f) (by
          rw [get_app0, List.getElem?_cons_zero]
          conv => lhs; rw [← ez]
          simp)
        have lz : ps.getLast? = some z := by rw [← pl, ← ez]; simp
        rw [lz] at li
        have t1 : truI (.ref S.length) (S ++ [O.pl (o.map E.f), O.pl ((gsrt E xs).map E.f)]) = .ok true (S ++ [O.pl (o.map E.f), O.pl ((gsrt E xs).map E.f)]) := by rw [t0]; simp [O.ds, ho]
        have ne : ∀ S, cmpI .NotEq (.p (E.f z)) (.p (E.f x)) S = .ok (.p (.bl (!decide (E.f z = E.f x)))) S := fun S => ne_of (eqI_p (E.nice z) (E.nice x) (by have := E.hn; omega))
        by_cases hz : z = x
        · have : x ∈ o := mo.mpr (li.mpr (by rw [hz]))
          subst hz
          simp [t1, il, ne, this]
        · have hx : ¬ x ∈ o := fun q => hz (Option.some.inj (li.mp (mo.mp q)))
          have hf : ¬ E.f z = E.f x := fun q => hz (E.inj _ _ q)
          simp [t1, il, ne, hf, hx, rv, ap])
    (fun ρ S' ⟨h1, _⟩ => by subst h1; simp [Wk.still]) ⟨by simp [gonce], none, rfl⟩
  refine runB_rt (S' := S ++ [.pl ((gset E xs).map E.f), .pl ((gsrt E xs).map E.f)]) (d := .p (.tup ((gset E xs).map E.f))) ?_ (tidy_pa _ _)
  have hs' : bltI .sorted [d] (S ++ [.pl []]) = .ok (.ref (S.length + 1)) (S ++ [.pl [], .pl ((gsrt E xs).map E.f)]) := by simpa using gsorted E (data_app h [.pl []])
  have tp : bltI .tuple [.ref S.length] (S ++ [.pl ((gset E xs).map E.f), .pl ((gsrt E xs).map E.f)]) = .ok (.p (.tup ((gset E xs).map E.f))) (S ++ [.pl ((gset E xs).map E.f), .pl ((gsrt E xs).map E.f)]) := by simp [bltI, dataOf]
  have e' : (List.map (fun x => D.p (E.f x)) (gsrt E xs)) = ((gsrt E xs).map E.f).map .p := by simp
  rw [e'] at e
  simp [mergedDf, mkL, allP, hs', hw, -List.map_map]
  rw [e]
  simp only [Out.seq_nx]
  show evCz M _ _ (S ++ [.pl ((gset E xs).map E.f), .pl ((gsrt E xs).map E.f)]) = _
  simp [tp]
end
/-- whole numbers -/
def intE : Emb Int where
  f := .int
  inj _ _ h := by cases h; rfl
  n := 0
  nice _ := rfl
  hn := by decide
  like a b := by show PySem.W.alike (.int a) (.int b) = true; simp only [PySem.W.alike]
  flat := .inr fun _ => rfl
  trans a b c h1 h2 := by
    have e : ∀ a b : Int, PD.le (.int a) (.int b) = !decide (b < a) := fun a b => by
      unfold PD.le PD.lt; rw [show PySem.W.dataLt (PD.int b).py (PD.int a).py = decide (b < a) from PySem.W.dataLt_int b a]
    rw [e] at *
    simp at *
    omega
  total a b := by
    have e : ∀ a b : Int, PD.le (.int a) (.int b) = !decide (b < a) := fun a b => by
      unfold PD.le PD.lt; rw [show PySem.W.dataLt (PD.int b).py (PD.int a).py = decide (b < a) from PySem.W.dataLt_int b a]
    rw [e, e]
    by_cases h : b < a
    · have : ¬ a < b := by omega
      simp [h, this]
    · simp [h]
  anti a b h1 h2 := by
    have e : ∀ a b : Int, PD.le (.int a) (.int b) = !decide (b < a) := fun a b => by
      unfold PD.le PD.lt; rw [show PySem.W.dataLt (PD.int b).py (PD.int a).py = decide (b < a) from PySem.W.dataLt_int b a]
    rw [e] at *
    simp at *
    omega
theorem intE_le {a b : Int} : intE.le a b = true ↔ a ≤ b := by
  show PD.le (.int a) (.int b) = true ↔ _
  unfold PD.le PD.lt
  rw [show PySem.W.dataLt (PD.int b).py (PD.int a).py = decide (b < a) from PySem.W.dataLt_int b a]
  simp
end PH

set_option maxHeartbeats 4000000
/-! PH, part U: while, by a measure. -/
namespace PH
open L2 PySem PySem.Spec PyProof.Rows
section
variable {c : Nv → Sto → Res Bool} {body : Nv → Sto → Out}
theorem whlN_more : ∀ (n : Nat) (ρ : Nv) (S : Sto) (r : Out), whlN c body n ρ S = some r → ∀ m, n ≤ m → whlN c body m ρ S = some r
  | 0, _, _, _, h, _, _ => by cases h
  | n + 1, ρ, S, r, h, m, hm => by
    obtain ⟨m, rfl⟩ : ∃ m', m = m' + 1 := ⟨m - 1, by omega⟩
    unfold whlN at h ⊢
    cases q : c ρ S with
    | stuck => rw [q] at h; exact h
    | exc x S1 => rw [q] at h; exact h
    | ok b S1 =>
      rw [q] at h
      cases b with
      | false => exact h
      | true =>
        simp only at h ⊢
        cases q2 : body ρ S1 with
        | nx ρ2 S2 => rw [q2] at h; exact whlN_more n ρ2 S2 r h m (by omega)
        | ct ρ2 S2 => rw [q2] at h; exact whlN_more n ρ2 S2 r h m (by omega)
        | bk ρ2 S2 => rw [q2] at h; exact h
        | rt d S2 => rw [q2] at h; exact h
        | exc x ρ2 S2 => rw [q2] at h; exact h
        | stuck => rw [q2] at h; exact h
theorem whlI_of {n : Nat} {ρ : Nv} {S : Sto} {r : Out} (h : whlN c body n ρ S = some r) : whlI c body ρ S = r := by
  unfold whlI
  have hex : ∃ r n, whlN c body n ρ S = some r := ⟨r, n, h⟩
  rw [dif_pos hex]
  obtain ⟨m, hm⟩ := hex.choose_spec
  have h1 := whlN_more n ρ S r h (max n m) (Nat.le_max_left _ _)
  have h2 := whlN_more m ρ S _ hm (max n m) (Nat.le_max_right _ _)
  rw [h1] at h2
  exact (Option.some.inj h2).symm
/-- a while without an early end: P by a measure, at the end Q -/
theorem whl_nx (P : Nat → Nv → Sto → Prop) (Q : Nv → Sto → Prop)
    (h1 : ∀ m ρ S, P m ρ S → (∃ S1, c ρ S = .ok false S1 ∧ Q ρ S1) ∨ ∃ S1, c ρ S = .ok true S1 ∧ ∃ ρ2 S2, (body ρ S1 = .nx ρ2 S2 ∨ body ρ S1 = .ct ρ2 S2) ∧ ∃ m', m' < m ∧ P m' ρ2 S2) :
    ∀ (m : Nat) (ρ : Nv) (S : Sto), P m ρ S → ∃ n ρ' S', whlN c body n ρ S = some (.nx ρ' S') ∧ Q ρ' S' := fun m => by
  induction m using Nat.strongRecOn with
  | _ m ih =>
    intro ρ S hp
    rcases h1 m ρ S hp with ⟨S1, e, q⟩ | ⟨S1, e, ρ2, S2, hb, m', hm, hp2⟩
    · exact ⟨1, ρ, S1, by unfold whlN; rw [e], q⟩
    · obtain ⟨n, ρ', S', e2, q⟩ := ih m' hm ρ2 S2 hp2
      refine ⟨n + 1, ρ', S', ?_, q⟩
      unfold whlN
      rw [e]
      rcases hb with hb | hb <;> simp only [hb, e2]
theorem whl_rule (P : Nat → Nv → Sto → Prop) (Q : Nv → Sto → Prop) {m : Nat} {ρ : Nv} {S : Sto}
    (h1 : ∀ m ρ S, P m ρ S → (∃ S1, c ρ S = .ok false S1 ∧ Q ρ S1) ∨ ∃ S1, c ρ S = .ok true S1 ∧ ∃ ρ2 S2, (body ρ S1 = .nx ρ2 S2 ∨ body ρ S1 = .ct ρ2 S2) ∧ ∃ m', m' < m ∧ P m' ρ2 S2) (h : P m ρ S) :
    ∃ ρ' S', whlI c body ρ S = .nx ρ' S' ∧ Q ρ' S' := by
  obtain ⟨n, ρ', S', e, q⟩ := whl_nx P Q h1 m ρ S h
  exact ⟨ρ', S', whlI_of e, q⟩
end
/-! ### ranges by what they hold -/
end PH

set_option maxHeartbeats 8000000
/-! Steps by lemma: what an expression or a statement does, from what its parts do. -/
namespace PH
open L2 PySem PySem.Spec PyProof.Rows
section
variable {M : Mo} {ρ ρ1 : Nv} {S S1 S2 S3 S4 : Sto} {d d1 d2 d3 d4 : D}
theorem evv {i : Nat} {S : Sto} (h : ρ[i]? = some (some d)) : evE M (.v i) ρ S = .ok d S := by rw [ev_v, h]
theorem es0 : evEs M .nil ρ S = .ok [] S := evs_nil ..
theorem es1 {a : E} {as : Es} {ds : List D} (h1 : evE M a ρ S = .ok d1 S1) (h2 : evEs M as ρ S1 = .ok ds S2) : evEs M (.cons a as) ρ S = .ok (d1 :: ds) S2 := by rw [evs_cons, h1, Res.bind_ok', h2, Res.bind_ok']
theorem ecall {f : Nat} {as : Es} {ds : List D} {r : Res D} (h1 : evEs M as ρ S = .ok ds S1) (h2 : M.call f ds S1 = r) : evE M (.call f as) ρ S = r := by rw [ev_call, h1, Res.bind_ok', h2]
theorem ecall1 {f : Nat} {a : E} {r : Res D} (h1 : evE M a ρ S = .ok d1 S1) (h2 : M.call f [d1] S1 = r) : evE M (.call f (.cons a .nil)) ρ S = r := ecall (es1 h1 es0) h2
theorem ecall2 {f : Nat} {a b : E} {r : Res D} (h1 : evE M a ρ S = .ok d1 S1) (h2 : evE M b ρ S1 = .ok d2 S2) (h3 : M.call f [d1, d2] S2 = r) : evE M (.call f (.cons a (.cons b .nil))) ρ S = r := ecall (es1 h1 (es1 h2 es0)) h3
theorem ecall3 {f : Nat} {a b c : E} {r : Res D} (h1 : evE M a ρ S = .ok d1 S1) (h2 : evE M b ρ S1 = .ok d2 S2) (h3 : evE M c ρ S2 = .ok d3 S3) (h4 : M.call f [d1, d2, d3] S3 = r) : evE M (.call f (.cons a (.cons b (.cons c .nil)))) ρ S = r := ecall (es1 h1 (es1 h2 (es1 h3 es0))) h4
theorem eblt1 {b : Bf} {a : E} {r : Res D} (h1 : evE M a ρ S = .ok d1 S1) (h2 : bltI b [d1] S1 = r) : evE M (.blt b (.cons a .nil)) ρ S = r := by rw [ev_blt, es1 h1 es0, Res.bind_ok', h2]
theorem eblt2 {b : Bf} {a c : E} {r : Res D} (h1 : evE M a ρ S = .ok d1 S1) (h2 : evE M c ρ S1 = .ok d2 S2) (h3 : bltI b [d1, d2] S2 = r) : evE M (.blt b (.cons a (.cons c .nil))) ρ S = r := by rw [ev_blt, es1 h1 (es1 h2 es0), Res.bind_ok', h3]
theorem enot {a : E} {b : Bool} (h1 : evE M a ρ S = .ok (.p (.bl b)) S1) : evE M (.no a) ρ S = .ok (.p (.bl (!b))) S1 := by rw [ev_no, h1, Res.bind_ok', tru_bl, Res.bind_ok']
theorem eix {a b : E} {r : Res D} (h1 : evE M a ρ S = .ok d1 S1) (h2 : evE M b ρ S1 = .ok d2 S2) (h3 : ixI d1 d2 S2 = r) : evE M (.ix a b) ρ S = r := by rw [ev_ix, h1, Res.bind_ok', h2, Res.bind_ok', h3]
theorem ecmp {o : CmpOp} {a b : E} {r : Res D} (h1 : evE M a ρ S = .ok d1 S1) (h2 : evE M b ρ S1 = .ok d2 S2) (h3 : cmpI o d1 d2 S2 = r) : evE M (.cmp o a b) ρ S = r := by rw [ev_cmp, h1, Res.bind_ok', h2, Res.bind_ok', h3]
theorem ebin {o : Operator} {a b : E} {r : Res D} (h1 : evE M a ρ S = .ok d1 S1) (h2 : evE M b ρ S1 = .ok d2 S2) (h3 : binI o d1 d2 S2 = r) : evE M (.bin o a b) ρ S = r := by rw [ev_bin, h1, Res.bind_ok', h2, Res.bind_ok', h3]
theorem egd {t : List (Cs × PD)} {n : Nat} {a : E} {z : Cs} {x : PD} (h1 : evE M a ρ S = .ok (.p (.str z)) S1) (h2 : t.lookup z = some x) : evE M (.gd t n a) ρ S = .ok (.p x) S1 := by
  rw [evE, h1, Res.bind_ok']
  simp only [h2]
  rfl
theorem eor0 {a b : E} {bs : Es} {r : Res D} (h1 : evE M a ρ S = .ok (.p (.bl false)) S1) (h2 : evE M (.bo .Or (.cons b bs)) ρ S1 = r) : evE M (.bo .Or (.cons a (.cons b bs))) ρ S = r := by
  rw [ev_bo] at h2
  rw [ev_bo, evb_or, h1, Res.bind_ok', tru_bl, Res.bind_ok', if_neg (by decide), h2]
theorem eor1 {a b : E} {bs : Es} (h1 : evE M a ρ S = .ok (.p (.bl true)) S1) : evE M (.bo .Or (.cons a (.cons b bs))) ρ S = .ok (.p (.bl true)) S1 := by
  rw [ev_bo, evb_or, h1, Res.bind_ok', tru_bl, Res.bind_ok', if_pos rfl]
theorem eand1 {a b : E} {bs : Es} {r : Res D} (h1 : evE M a ρ S = .ok (.p (.bl true)) S1) (h2 : evE M (.bo .And (.cons b bs)) ρ S1 = r) : evE M (.bo .And (.cons a (.cons b bs))) ρ S = r := by
  rw [ev_bo] at h2
  rw [ev_bo, evb_and, h1, Res.bind_ok', tru_bl, Res.bind_ok', if_pos rfl, h2]
theorem eand0 {a b : E} {bs : Es} (h1 : evE M a ρ S = .ok (.p (.bl false)) S1) : evE M (.bo .And (.cons a (.cons b bs))) ρ S = .ok (.p (.bl false)) S1 := by
  rw [ev_bo, evb_and, h1, Res.bind_ok', tru_bl, Res.bind_ok', if_neg (by decide)]
theorem ebo1 {o : BoolOp} {a : E} {r : Res D} (h : evE M a ρ S = r) : evE M (.bo o (.cons a .nil)) ρ S = r := by rw [ev_bo, evb_one, h]
theorem eor2 {a b : E} {x y : Bool} (h1 : evE M a ρ S = .ok (.p (.bl x)) S) (h2 : evE M b ρ S = .ok (.p (.bl y)) S) : evE M (.bo .Or (.cons a (.cons b .nil))) ρ S = .ok (.p (.bl (x || y))) S := by
  cases x with
  | true => exact eor1 h1
  | false => exact eor0 h1 (ebo1 h2)
theorem eand2 {a b : E} {x y : Bool} (h1 : evE M a ρ S = .ok (.p (.bl x)) S) (h2 : evE M b ρ S = .ok (.p (.bl y)) S) : evE M (.bo .And (.cons a (.cons b .nil))) ρ S = .ok (.p (.bl (x && y))) S := by
  cases x with
  | true => exact eand1 h1 (ebo1 h2)
  | false => exact eand0 h1
theorem eisi {a : E} {t : Ty} {b : Bool} (h1 : evE M a ρ S = .ok d S1) (h2 : known d S1 = true) (h3 : isTy d S1 t = b) : evE M (.isi a t) ρ S = .ok (.p (.bl b)) S1 := by rw [ev_isi, h1, Res.bind_ok', if_pos h2, h3]
theorem eat {c f : String} {a : E} {n : Nat} {fs : List (String × D)} (h1 : evE M a ρ S = .ok (.ref n) S1) (h2 : S1[n]? = some (.ob c fs)) (h3 : fs.lookup f = some d) : evE M (.at c a f) ρ S = .ok d S1 := by
  rw [evE, h1, Res.bind_ok']
  unfold fldO
  simp only [h2, if_true, h3]
theorem emcl {c m : String} {fi n : Nat} {a : E} {as : Es} {ds : List D} {fs : List (String × D)} {r : Res D} (h1 : evE M a ρ S = .ok (.ref n) S1) (h2 : S1[n]? = some (.ob c fs)) (h3 : fs.lookup m = none) (h4 : evEs M as ρ S1 = .ok ds S2) (h5 : M.call fi (.ref n :: ds) S2 = r) :
    evE M (.mcl c m fi a as) ρ S = r := by
  rw [evE, h1, Res.bind_ok', if_pos (by unfold isOb; simp [h2, h3]), h4, Res.bind_ok', h5]
theorem emk {c : String} {fi : Nat} {as : Es} {ds : List D} (h1 : evEs M as ρ S = .ok ds S1) (h2 : M.call fi (.ref S1.length :: ds) (S1 ++ [.ob c []]) = .ok (.p .non) S2) : evE M (.mk c fi as) ρ S = .ok (.ref S1.length) S2 := by
  rw [evE, h1, Res.bind_ok']
  unfold mkO
  rw [h2]
  rfl
theorem stsat {c f : String} {a e : E} {n : Nat} {fs : List (String × D)} (h1 : evE M e ρ S = .ok d S1) (h2 : evE M a ρ S1 = .ok (.ref n) S2) (h3 : S2[n]? = some (.ob c fs)) (h4 : fs.length < 1000) :
    evC M (.sat c a f e) ρ S = .nx ρ (S2.set n (.ob c (putS f d fs))) := by
  rw [evC, h1, Res.out_ok, h2, Res.out_ok]
  unfold setO
  simp only [h3, h4, and_self, if_true]
theorem stex {e : E} (h : evE M e ρ S = .ok d S1) : evC M (.ex e) ρ S = .nx ρ S1 := by rw [evc_ex, h, Res.out_ok]
theorem stexX {e : E} {x : Ex} (h : evE M e ρ S = .exc x S1) : evC M (.ex e) ρ S = .exc x ρ S1 := by rw [evc_ex, h, Res.out_exc]
theorem stasgX {tg : Tg} {e : E} {x : Ex} (h : evE M e ρ S = .exc x S1) : evC M (.asg tg e) ρ S = .exc x ρ S1 := by rw [evc_asg, h, Res.out_exc]
theorem stifX {c : E} {t f : Cz} {x : Ex} (h : evE M c ρ S = .exc x S1) : evC M (.ite c t f) ρ S = .exc x ρ S1 := by rw [evc_ite, h, Res.bind_exc, Res.out_exc]
theorem strse {c : Nat} {fs : List String} {es : Es} {ds : List D} (h : evEs M es ρ S = .ok ds S1) (hl : ds.length = fs.length) : evC M (.rse c fs es) ρ S = .exc ⟨c, fs.zip ds⟩ ρ S1 := by rw [evc_rse, h, Res.out_ok, if_pos hl]
theorem stif0 {c : E} {t : Cz} (h : evE M c ρ S = .ok (.p (.bl false)) S1) : evC M (.ite c t .nil) ρ S = .nx ρ S1 := by
  rw [evc_ite, h, Res.bind_ok', tru_bl, Res.out_ok, if_neg (by decide), evz_nil]
theorem stif1 {c : E} {t f : Cz} {r : Out} (h : evE M c ρ S = .ok (.p (.bl true)) S1) (h2 : evCz M t ρ S1 = r) : evC M (.ite c t f) ρ S = r := by
  rw [evc_ite, h, Res.bind_ok', tru_bl, Res.out_ok, if_pos rfl, h2]
theorem stif2 {c : E} {t f : Cz} {r : Out} (h : evE M c ρ S = .ok (.p (.bl false)) S1) (h2 : evCz M f ρ S1 = r) : evC M (.ite c t f) ρ S = r := by
  rw [evc_ite, h, Res.bind_ok', tru_bl, Res.out_ok, if_neg (by decide), h2]
theorem stasg {i : Nat} {e : E} (h : evE M e ρ S = .ok d S1) (hr : ρ1 = ρ.set i (some d)) : evC M (.asg (.nm i) e) ρ S = .nx ρ1 S1 := by
  rw [evc_asg, h, Res.out_ok, asg_nm, hr]
theorem stret {e : E} (h : evE M e ρ S = .ok d S1) : evC M (.ret e) ρ S = .rt d S1 := by rw [evc_ret, h, Res.out_ok]
theorem rg1_ev {e : E} {z : Int} (he : evE M e ρ S = .ok (.p (.int z)) S) (h : small z = true) : evW M (.rg1 e) ρ S = .ok ⟨rgS 0 1 z.toNat, none⟩ S := by
  rw [evw_rg1, he]
  simp only [Res.bind_ok', h, if_true]
/-- the same, the turns counted -/
theorem rg1_nat {e : E} {n : Nat} (he : evE M e ρ S = .ok (.p (.int (n : Int))) S) (h : n ≤ 1000000) : evW M (.rg1 e) ρ S = .ok ⟨rgS 0 1 n, none⟩ S := by
  have := rg1_ev he (small_rg (by omega) (by omega))
  rw [this, Int.toNat_natCast]
theorem rgL_ev {e : E} {n : Nat} (he : evE M e ρ S = .ok d S) (h : bltI .len [d] S = .ok (.p (.int (n : Int))) S) : evW M (.rgL e) ρ S = .ok ⟨rgS 0 1 n, none⟩ S := by
  rw [evw_rgL, he]
  simp only [Res.bind_ok', h, Int.toNat_natCast]
theorem of_ev {e : E} {w : Wk} (he : evE M e ρ S = .ok d S1) (h : wkOf d S1 = .ok w S2) : evW M (.of e) ρ S = .ok w S2 := by rw [evw_of, he, Res.bind_ok', h]
theorem stfor {tg : Tg} {it : W} {body : Cz} {w : Wk} {r : Out} (hw : evW M it ρ S = .ok w S1) (h : forI w tg (evCz M body) w.ds ρ S1 = r) : evC M (.forr tg it body) ρ S = r := by rw [evc_for, hw, Res.out_ok, h]
section
variable {w : Wk} {tg : Tg} {body : Nv → Sto → Out} {ds : List D} {ρ2 : Nv}
theorem forI_nx1 (hs : w.still S = true) (ha : asgT tg d ρ = some ρ1) (h : body ρ1 S = .nx ρ2 S2) : forI w tg body (d :: ds) ρ S = forI w tg body ds ρ2 S2 := by
  rw [forI, if_pos hs, ha]
  simp only [h]
theorem forI_rt1 (hs : w.still S = true) (ha : asgT tg d ρ = some ρ1) (h : body ρ1 S = .rt d2 S2) : forI w tg body (d :: ds) ρ S = .rt d2 S2 := by
  rw [forI, if_pos hs, ha]
  simp only [h]
theorem forI_exc1 {x : Ex} (hs : w.still S = true) (ha : asgT tg d ρ = some ρ1) (h : body ρ1 S = .exc x ρ2 S2) : forI w tg body (d :: ds) ρ S = .exc x ρ2 S2 := by
  rw [forI, if_pos hs, ha]
  simp only [h]
end
/-- a row of truth values -/
def rowB (m : Nat) (f : Nat → Bool) : List PD := (List.range m).map fun i => .bl (f i)
theorem rowB_len (m : Nat) (f : Nat → Bool) : (rowB m f).length = m := by simp [rowB]
theorem ix_rowB {m i : Nat} {f : Nat → Bool} (h : dataOf d S = some (rowB m f)) (hi : i < m) : ixI d (.p (.int (i : Int))) S = .ok (.p (.bl (f i))) S := by
  refine ix_data h (atI_nat ?_)
  simp [rowB, hi]
theorem list_ev {xs : List PD} (h : dataOf d S = some xs) : bltI .list [d] S = .ok (.ref S.length) (S ++ [.pl xs]) := by simp only [bltI, h]; rfl
theorem tuple_ev {xs : List PD} (h : dataOf d S = some xs) : bltI .tuple [d] S = .ok (.p (.tup xs)) S := by simp only [bltI, h]; rfl
end
end PH

namespace PH
open L2 PySem PySem.Spec PyProof.Rows
/-- the text, statement by statement -/
abbrev k46_top (i : Nat) : Stmt := PySem.Challenge.pw_pinharbor_k46_differences.main.body.getD i (.Pass ⟨0, 0, 0, 0⟩)
def k46_merged : Df := ⟨1, 3, (.cons (.asg (.nm 1) (.ls .nil))
  (.cons (.forr (.nm 2) (.of (.blt .sorted (.cons (.v 0) .nil))) (.cons (.ite (.bo .Or (.cons (.no (.v 1)) (.cons (.cmp .NotEq (.ix (.v 1) (.neg (.k (.int 1)))) (.v 2)) .nil))) (.cons (.ex (.mth .append (.v 1) (.cons (.v 2) .nil)))
      .nil) .nil)
    .nil))
  (.cons (.ret (.blt .tuple (.cons (.v 1) .nil)))
  .nil)))⟩
def k46_E_merged : Ent := ⟨"merged", k46_top 8, ["items", "found", "item"], ["items"], k46_merged, "", "merged"⟩
def k46_slot_things : Df := ⟨1, 5, (.cons (.asg (.nm 1) (.dcm true [2] (.nm 2) (.of (.ix (.v 0) (.k (.int 0)))) (.tp (.cons (.k (.str [112, 97, 99, 107, 97, 103, 101])) (.cons (.ix (.v 2) (.k (.int 0))) .nil))) (.v 2)))
  (.cons (.forr (.tp [(.nm 3), (.nm 4)]) (.of (.ix (.v 0) (.k (.int 1)))) (.cons (.dsu (.v 1) (.tp (.cons (.k (.str [112, 105, 101, 99, 101])) (.cons (.v 3) .nil))) (.v 4))
    .nil))
  (.cons (.ret (.v 1))
  .nil)))⟩
def k46_E_slot_things : Ent := ⟨"slot_things", k46_top 10, ["place", "things", "entry", "piece", "name"], ["place"], k46_slot_things, "", "slot_things"⟩
def k46_difference_between : Df := ⟨2, 6, (.cons (.asg (.nm 2) (.call 1 (.cons (.v 0) .nil)))
  (.cons (.asg (.nm 3) (.call 1 (.cons (.v 1) .nil)))
  (.cons (.asg (.nm 4) (.ls .nil))
  (.cons (.forr (.nm 5) (.of (.call 0 (.cons (.bin .Add (.blt .list (.cons (.v 2) .nil)) (.blt .list (.cons (.v 3) .nil))) .nil))) (.cons (.ite (.cmp .NotEq (.dg1 (.v 2) (.v 5)) (.dg1 (.v 3) (.v 5))) (.cons (.ex (.mth .append (.v 4) (.cons (.tp (.cons (.v 5) (.cons (.dg2 (.v 2) (.v 5) (.tp .nil)) (.cons (.dg2 (.v 3) (.v 5) (.tp .nil)) .nil)))) .nil)))
      .nil) .nil)
    .nil))
  (.cons (.ret (.blt .tuple (.cons (.v 4) .nil)))
  .nil)))))⟩
def k46_E_difference_between : Ent := ⟨"difference_between", k46_top 12, ["old", "new", "before", "after", "found", "slot"], ["old", "new"], k46_difference_between, "", "difference_between"⟩
def k46_place_of_things : Df := ⟨1, 8, (.cons (.asg (.nm 1) (.lcI [2] (.nm 2) (.of (.blt .sorted (.cons (.v 0) .nil))) (.cmp .Eq (.ix (.v 2) (.k (.int 0))) (.k (.str [112, 97, 99, 107, 97, 103, 101]))) (.dix (.v 0) (.v 2))))
  (.cons (.asg (.nm 3) (.lcI [2] (.nm 2) (.of (.blt .sorted (.cons (.v 0) .nil))) (.cmp .Eq (.ix (.v 2) (.k (.int 0))) (.k (.str [112, 105, 101, 99, 101]))) (.tp (.cons (.ix (.v 2) (.k (.int 1))) (.cons (.dix (.v 0) (.v 2)) .nil)))))
  (.cons (.asg (.nm 4) (.lc [5] (.nm 5) (.of (.v 1)) (.ix (.v 5) (.k (.int 0)))))
  (.cons (.forr (.tp [(.nm 6), (.nm 7)]) (.of (.v 3)) (.cons (.ite (.cmp .NotIn (.v 7) (.v 4)) (.cons (.rse 4 ["slot"] (.cons (.tp (.cons (.k (.str [112, 105, 101, 99, 101])) (.cons (.v 6) .nil))) .nil))
      .nil) .nil)
    .nil))
  (.cons (.ret (.tp (.cons (.blt .tuple (.cons (.v 1) .nil)) (.cons (.blt .tuple (.cons (.v 3) .nil)) .nil))))
  .nil)))))⟩
def k46_E_place_of_things : Ent := ⟨"place_of_things", k46_top 13, ["things", "entries", "slot", "serves", "names", "entry", "piece", "name"], ["things"], k46_place_of_things, "", "place_of_things"⟩
def k46_apply_difference : Df := ⟨2, 7, (.cons (.asg (.nm 2) (.call 1 (.cons (.v 0) .nil)))
  (.cons (.forr (.tp [(.nm 3), (.nm 4), (.nm 5)]) (.of (.v 1)) (.cons (.ite (.cmp .NotEq (.dg2 (.v 2) (.v 3) (.tp .nil)) (.v 4)) (.cons (.rse 4 ["slot"] (.cons (.v 3) .nil))
      .nil) .nil)
    .nil))
  (.cons (.asg (.nm 6) (.dcm true [3] (.nm 3) (.of (.v 2)) (.v 3) (.dix (.v 2) (.v 3))))
  (.cons (.forr (.tp [(.nm 3), (.nm 4), (.nm 5)]) (.of (.v 1)) (.cons (.ite (.cmp .NotEq (.v 5) (.tp .nil)) (.cons (.dsu (.v 6) (.v 3) (.v 5))
      .nil) (.cons (.ite (.din false (.v 3) (.v 6)) (.cons (.ddl (.v 6) (.v 3))
        .nil) .nil)
      .nil))
    .nil))
  (.cons (.ret (.call 3 (.cons (.v 6) .nil)))
  .nil)))))⟩
def k46_E_apply_difference : Ent := ⟨"apply_difference", k46_top 14, ["place", "change", "things", "slot", "before", "after", "result"], ["place", "change"], k46_apply_difference, "", "apply_difference"⟩
def k46_inverse_difference : Df := ⟨1, 4, (.cons (.ret (.blt .tuple (.cons (.lc [1, 2, 3] (.tp [(.nm 1), (.nm 2), (.nm 3)]) (.of (.v 0)) (.tp (.cons (.v 1) (.cons (.v 3) (.cons (.v 2) .nil))))) .nil)))
  .nil)⟩
def k46_E_inverse_difference : Ent := ⟨"inverse_difference", k46_top 15, ["change", "slot", "before", "after"], ["change"], k46_inverse_difference, "", "inverse_difference"⟩
def k46_joined_difference : Df := ⟨2, 8, (.cons (.asg (.nm 2) (.dcm true [3, 4, 5] (.tp [(.nm 3), (.nm 4), (.nm 5)]) (.of (.v 0)) (.v 3) (.tp (.cons (.v 4) (.cons (.v 5) .nil)))))
  (.cons (.asg (.nm 6) (.dcm true [3, 4, 5] (.tp [(.nm 3), (.nm 4), (.nm 5)]) (.of (.v 1)) (.v 3) (.tp (.cons (.v 4) (.cons (.v 5) .nil)))))
  (.cons (.asg (.nm 7) (.ls .nil))
  (.cons (.forr (.nm 3) (.of (.call 0 (.cons (.bin .Add (.blt .list (.cons (.v 2) .nil)) (.blt .list (.cons (.v 6) .nil))) .nil))) (.cons (.ite (.din true (.v 3) (.v 6)) (.cons (.ex (.mth .append (.v 7) (.cons (.tp (.cons (.v 3) (.cons (.ix (.dix (.v 2) (.v 3)) (.k (.int 0))) (.cons (.ix (.dix (.v 2) (.v 3)) (.k (.int 1))) .nil)))) .nil)))
      .nil) (.cons (.ite (.din true (.v 3) (.v 2)) (.cons (.ex (.mth .append (.v 7) (.cons (.tp (.cons (.v 3) (.cons (.ix (.dix (.v 6) (.v 3)) (.k (.int 0))) (.cons (.ix (.dix (.v 6) (.v 3)) (.k (.int 1))) .nil)))) .nil)))
        .nil) (.cons (.ite (.cmp .NotEq (.ix (.dix (.v 2) (.v 3)) (.k (.int 1))) (.ix (.dix (.v 6) (.v 3)) (.k (.int 0)))) (.cons (.rse 4 ["slot"] (.cons (.v 3) .nil))
          .nil) (.cons (.ite (.cmp .NotEq (.ix (.dix (.v 2) (.v 3)) (.k (.int 0))) (.ix (.dix (.v 6) (.v 3)) (.k (.int 1)))) (.cons (.ex (.mth .append (.v 7) (.cons (.tp (.cons (.v 3) (.cons (.ix (.dix (.v 2) (.v 3)) (.k (.int 0))) (.cons (.ix (.dix (.v 6) (.v 3)) (.k (.int 1))) .nil)))) .nil)))
            .nil) .nil)
          .nil))
        .nil))
      .nil))
    .nil))
  (.cons (.ret (.blt .tuple (.cons (.v 7) .nil)))
  .nil)))))⟩
def k46_E_joined_difference : Ent := ⟨"joined_difference", k46_top 16, ["first", "second", "one", "slot", "before", "after", "two", "found"], ["first", "second"], k46_joined_difference, "", "joined_difference"⟩
def k46_law_numbers : Df := ⟨3, 9, (.cons (.asg (.nm 3) (.k (.int 0)))
  (.cons (.ite (.cmp .Lt (.v 1) (.blt .len (.cons (.v 0) .nil))) (.cons (.asg (.nm 3) (.ix (.v 0) (.v 1)))
    .nil) .nil)
  (.cons (.asg (.nm 4) (.ls .nil))
  (.cons (.ite (.cmp .GtE (.v 3) (.bin .Pow (.k (.int 10)) (.k (.int 18)))) (.cons (.asg (.nm 5) (.bin .Sub (.v 3) (.bin .Pow (.k (.int 10)) (.k (.int 18)))))
    (.cons (.forr (.nm 6) (.rg1 (.v 2)) (.cons (.ex (.mth .append (.v 4) (.cons (.bin .Mod (.blt .int (.cons (.v 5) .nil)) (.k (.int 1000000))) .nil)))
      (.cons (.asg (.nm 5) (.bin .FloorDiv (.v 5) (.k (.int 1000000))))
      .nil)))
    (.cons (.ret (.v 4))
    .nil))) .nil)
  (.cons (.asg (.nm 7) (.k (.int 0)))
  (.cons (.ite (.cmp .Gt (.blt .len (.cons (.v 0) .nil)) (.k (.int 0))) (.cons (.asg (.nm 7) (.bin .Mod (.blt .int (.cons (.ix (.v 0) (.k (.int 0))) .nil)) (.k (.int 2147483647))))
    .nil) .nil)
  (.cons (.asg (.nm 8) (.bin .Mod (.blt .int (.cons (.bin .Add (.bin .Add (.bin .Mult (.bin .Mod (.blt .int (.cons (.v 3) .nil)) (.k (.int 2147483647))) (.k (.int 69621))) (.bin .Mult (.bin .Add (.v 1) (.k (.int 1))) (.k (.int 40692)))) (.bin .Mult (.v 7) (.k (.int 16807)))) .nil)) (.k (.int 2147483647))))
  (.cons (.forr (.nm 6) (.rg1 (.v 2)) (.cons (.asg (.nm 8) (.bin .Mod (.blt .int (.cons (.bin .Add (.bin .Mult (.v 8) (.k (.int 48271))) (.k (.int 30011))) .nil)) (.k (.int 2147483647))))
    (.cons (.ex (.mth .append (.v 4) (.cons (.bin .Mod (.bin .FloorDiv (.v 8) (.k (.int 1024))) (.k (.int 1000000))) .nil)))
    .nil)))
  (.cons (.ret (.v 4))
  .nil)))))))))⟩
def k46_E_law_numbers : Ent := ⟨"_law_numbers", k46_top 18, ["script", "k", "count", "cell", "found", "rest", "j", "first", "state"], ["script", "k", "count"], k46_law_numbers, "", "_law_numbers"⟩
def k46_law_names : Df := ⟨3, 7, (.cons (.ite (.cmp .Eq (.bin .Mod (.blt .int (.cons (.v 0) .nil)) (.k (.int 2))) (.k (.int 0))) (.cons (.asg (.nm 3) (.ls (.cons (.k (.str [108, 105, 98])) (.cons (.k (.str [122])) (.cons (.k (.str [97, 112, 112, 45, 99, 111, 114, 101])) (.cons (.k (.str [98, 50])) (.cons (.k (.str [109, 97, 105, 108, 45, 101, 114, 57])) (.cons (.k (.str [99])) (.cons (.k (.str [108, 105, 98, 50])) (.cons (.k (.str [97, 98])) .nil))))))))))
    (.cons (.ret (.lc [4] (.nm 4) (.rg1 (.v 2)) (.ix (.v 3) (.bin .Mod (.blt .int (.cons (.bin .Add (.v 1) (.bin .Mult (.k (.int 3)) (.v 4))) .nil)) (.k (.int 8))))))
    .nil)) .nil)
  (.cons (.asg (.nm 5) (.ix (.ls (.cons (.k (.str [])) (.cons (.k (.str [120])) (.cons (.k (.str [112, 97, 99, 107, 45])) (.cons (.k (.str [109, 48, 45, 109])) .nil))))) (.bin .Mod (.blt .int (.cons (.v 1) .nil)) (.k (.int 4)))))
  (.cons (.asg (.nm 6) (.ix (.ls (.cons (.k (.str [])) (.cons (.k (.str [45, 121])) (.cons (.k (.str [57])) .nil)))) (.bin .Mod (.bin .FloorDiv (.blt .int (.cons (.v 1) .nil)) (.k (.int 4))) (.k (.int 3)))))
  (.cons (.ret (.lc [4] (.nm 4) (.rg1 (.v 2)) (.bin .Add (.bin .Add (.v 5) (.ix (.k (.str [109, 122, 98, 107, 97, 116, 113, 100])) (.bin .Mod (.blt .int (.cons (.bin .Add (.bin .FloorDiv (.v 1) (.k (.int 12))) (.bin .Mult (.k (.int 5)) (.v 4))) .nil)) (.k (.int 8))))) (.v 6))))
  .nil))))⟩
def k46_E_law_names : Ent := ⟨"_law_names", k46_top 19, ["a", "b", "count", "words", "k", "stem", "tail"], ["a", "b", "count"], k46_law_names, "", "_law_names"⟩
def k46_law_entry : Df := ⟨2, 7, (.cons (.ite (.cmp .Eq (.bin .Mod (.bin .FloorDiv (.v 1) (.k (.int 7))) (.k (.int 3))) (.k (.int 0))) (.cons (.ret (.tp .nil))
    .nil) .nil)
  (.cons (.asg (.nm 2) (.ls (.cons (.tp (.cons (.k (.int 1)) (.cons (.k (.int 0)) (.cons (.k (.int 0)) (.cons (.k (.int 999)) .nil))))) (.cons (.tp (.cons (.k (.int 1)) (.cons (.k (.int 0)) (.cons (.k (.int 0)) (.cons (.k (.int 998)) .nil))))) (.cons (.tp (.cons (.bin .Mod (.v 1) (.k (.int 1000))) (.cons (.k (.int 2)) (.cons (.k (.int 0)) (.cons (.k (.int 7)) .nil))))) .nil)))))
  (.cons (.asg (.nm 3) (.tp (.cons (.tp (.cons (.tp (.cons (.v 0) (.cons (.tp (.cons (.k (.int 0)) (.cons (.k (.int 1)) (.cons (.k (.int 0)) (.cons (.k (.int 999)) .nil))))) (.cons (.tp (.cons (.k (.str [102])) .nil)) (.cons (.tp .nil) .nil))))) .nil)) (.cons (.tp (.cons (.tp (.cons (.k (.str [108, 111, 103])) (.cons (.v 0) .nil))) .nil)) .nil))))
  (.cons (.asg (.nm 4) (.blt .tuple (.cons (.blt .sorted (.cons (.ls (.cons (.tp (.cons (.k (.str [98])) (.cons (.tp (.cons (.k (.int 2)) (.cons (.k (.int 0)) (.cons (.k (.int 0)) (.cons (.k (.int 999)) .nil))))) (.cons (.tp .nil) (.cons (.v 3) .nil))))) (.cons (.tp (.cons (.bin .Add (.v 0) (.k (.str [48]))) (.cons (.tp (.cons (.k (.int 1)) (.cons (.k (.int 0)) (.cons (.k (.int 0)) (.cons (.k (.int 999)) .nil))))) (.cons (.tp .nil) (.cons (.tp .nil) .nil))))) .nil))) .nil)) .nil)))
  (.cons (.asg (.nm 5) (.ls (.cons (.tp .nil) (.cons (.tp .nil) (.cons (.v 3) (.cons (.tp (.cons (.v 4) (.cons (.tp .nil) .nil))) .nil))))))
  (.cons (.asg (.nm 6) (.ix (.ls (.cons (.tp .nil) (.cons (.tp (.cons (.k (.str [102, 97, 115, 116])) .nil)) (.cons (.tp (.cons (.k (.str [102, 97, 115, 116])) (.cons (.k (.str [115, 108, 105, 109])) .nil))) .nil)))) (.bin .Mod (.bin .FloorDiv (.v 1) (.k (.int 21))) (.k (.int 3)))))
  (.cons (.ret (.tp (.cons (.v 0) (.cons (.ix (.v 2) (.bin .Mod (.bin .FloorDiv (.v 1) (.k (.int 63))) (.k (.int 3)))) (.cons (.v 6) (.cons (.ix (.v 5) (.bin .Mod (.bin .FloorDiv (.v 1) (.k (.int 189))) (.k (.int 4)))) .nil))))))
  .nil)))))))⟩
def k46_E_law_entry : Ent := ⟨"_law_entry", k46_top 20, ["name", "number", "versions", "inner", "deep", "inners", "features"], ["name", "number"], k46_law_entry, "", "_law_entry"⟩
def k46_law_place : Df := ⟨3, 8, (.cons (.asg (.nm 3) (.ls .nil))
  (.cons (.forr (.nm 4) (.rgL (.v 0)) (.cons (.asg (.nm 5) (.call 9 (.cons (.ix (.v 0) (.v 4)) (.cons (.ix (.v 2) (.v 4)) .nil))))
    (.cons (.ite (.cmp .NotEq (.v 5) (.tp .nil)) (.cons (.ex (.mth .append (.v 3) (.cons (.v 5) .nil)))
      .nil) .nil)
    .nil)))
  (.cons (.asg (.nm 6) (.ls .nil))
  (.cons (.forr (.nm 4) (.rgL (.v 1)) (.cons (.asg (.nm 7) (.ix (.v 2) (.bin .Add (.blt .len (.cons (.v 0) .nil)) (.v 4))))
    (.cons (.ite (.bo .And (.cons (.cmp .Gt (.blt .len (.cons (.v 3) .nil)) (.k (.int 0))) (.cons (.cmp .Gt (.bin .Mod (.bin .FloorDiv (.v 7) (.k (.int 7))) (.k (.int 3))) (.k (.int 0))) .nil))) (.cons (.ex (.mth .append (.v 6) (.cons (.tp (.cons (.ix (.v 1) (.v 4)) (.cons (.ix (.ix (.v 3) (.bin .Mod (.bin .FloorDiv (.v 7) (.k (.int 21))) (.blt .len (.cons (.v 3) .nil)))) (.k (.int 0))) .nil))) .nil)))
      .nil) .nil)
    .nil)))
  (.cons (.ret (.tp (.cons (.blt .tuple (.cons (.blt .sorted (.cons (.v 3) .nil)) .nil)) (.cons (.blt .tuple (.cons (.blt .sorted (.cons (.v 6) .nil)) .nil)) .nil))))
  .nil)))))⟩
def k46_E_law_place : Ent := ⟨"_law_place", k46_top 21, ["names", "pieces", "numbers", "entries", "k", "entry", "serves", "number"], ["names", "pieces", "numbers"], k46_law_place, "", "_law_place"⟩
def k46_law_slots : Df := ⟨2, 4, (.cons (.ret (.bin .Add (.lc [2] (.nm 2) (.of (.blt .sorted (.cons (.v 0) .nil))) (.tp (.cons (.k (.str [112, 97, 99, 107, 97, 103, 101])) (.cons (.v 2) .nil)))) (.lc [3] (.nm 3) (.of (.blt .sorted (.cons (.v 1) .nil))) (.tp (.cons (.k (.str [112, 105, 101, 99, 101])) (.cons (.v 3) .nil))))))
  .nil)⟩
def k46_E_law_slots : Ent := ⟨"_law_slots", k46_top 22, ["names", "pieces", "name", "piece"], ["names", "pieces"], k46_law_slots, "", "_law_slots"⟩
def k46_law_thing : Df := ⟨2, 5, (.cons (.ite (.cmp .Eq (.ix (.v 1) (.k (.int 0))) (.k (.str [112, 97, 99, 107, 97, 103, 101]))) (.cons (.asg (.nm 2) (.lcI [3] (.nm 3) (.of (.ix (.v 0) (.k (.int 0)))) (.cmp .Eq (.ix (.v 3) (.k (.int 0))) (.ix (.v 1) (.k (.int 1)))) (.v 3)))
    .nil) (.cons (.asg (.nm 2) (.lcI [4] (.nm 4) (.of (.ix (.v 0) (.k (.int 1)))) (.cmp .Eq (.ix (.v 4) (.k (.int 0))) (.ix (.v 1) (.k (.int 1)))) (.ix (.v 4) (.k (.int 1)))))
    .nil))
  (.cons (.ite (.cmp .Eq (.blt .len (.cons (.v 2) .nil)) (.k (.int 0))) (.cons (.ret (.tp .nil))
    .nil) .nil)
  (.cons (.ret (.ix (.v 2) (.k (.int 0))))
  .nil)))⟩
def k46_E_law_thing : Ent := ⟨"_law_thing", k46_top 23, ["place", "slot", "found", "entry", "pair"], ["place", "slot"], k46_law_thing, "", "_law_thing"⟩
def k46_law_difference : Df := ⟨3, 5, (.cons (.asg (.nm 3) (.ls .nil))
  (.cons (.forr (.nm 4) (.of (.v 0)) (.cons (.ite (.cmp .NotEq (.call 12 (.cons (.v 1) (.cons (.v 4) .nil))) (.call 12 (.cons (.v 2) (.cons (.v 4) .nil)))) (.cons (.ex (.mth .append (.v 3) (.cons (.tp (.cons (.v 4) (.cons (.call 12 (.cons (.v 1) (.cons (.v 4) .nil))) (.cons (.call 12 (.cons (.v 2) (.cons (.v 4) .nil))) .nil)))) .nil)))
      .nil) .nil)
    .nil))
  (.cons (.ret (.blt .tuple (.cons (.v 3) .nil)))
  .nil)))⟩
def k46_E_law_difference : Ent := ⟨"_law_difference", k46_top 24, ["slots", "old", "new", "found", "slot"], ["slots", "old", "new"], k46_law_difference, "", "_law_difference"⟩
def k46_law_change : Df := ⟨4, 10, (.cons (.asg (.nm 4) (.ls .nil))
  (.cons (.forr (.nm 5) (.rgL (.v 0)) (.cons (.asg (.nm 6) (.ix (.v 3) (.v 5)))
    (.cons (.asg (.nm 7) (.call 12 (.cons (.v 1) (.cons (.ix (.v 0) (.v 5)) .nil))))
    (.cons (.ite (.cmp .Eq (.ix (.ix (.v 0) (.v 5)) (.k (.int 0))) (.k (.str [112, 97, 99, 107, 97, 103, 101]))) (.cons (.asg (.nm 8) (.call 9 (.cons (.ix (.ix (.v 0) (.v 5)) (.k (.int 1))) (.cons (.bin .Mod (.bin .FloorDiv (.v 6) (.k (.int 8))) (.k (.int 3000))) .nil))))
      (.cons (.asg (.nm 9) (.call 9 (.cons (.ix (.ix (.v 0) (.v 5)) (.k (.int 1))) (.cons (.bin .FloorDiv (.v 6) (.k (.int 64))) .nil))))
      .nil)) (.cons (.asg (.nm 8) (.ix (.bin .Add (.ls (.cons (.tp .nil) .nil)) (.v 2)) (.bin .Mod (.bin .FloorDiv (.v 6) (.k (.int 8))) (.bin .Add (.blt .len (.cons (.v 2) .nil)) (.k (.int 1))))))
      (.cons (.asg (.nm 9) (.ix (.bin .Add (.ls (.cons (.tp .nil) .nil)) (.v 2)) (.bin .Mod (.bin .FloorDiv (.v 6) (.k (.int 64))) (.bin .Add (.blt .len (.cons (.v 2) .nil)) (.k (.int 1))))))
      .nil)))
    (.cons (.ite (.cmp .Eq (.bin .Mod (.v 6) (.k (.int 8))) (.k (.int 0))) (.cons (.asg (.nm 7) (.v 9))
      .nil) .nil)
    (.cons (.ite (.bo .And (.cons (.cmp .Eq (.bin .Mod (.v 6) (.k (.int 2))) (.k (.int 0))) (.cons (.cmp .NotEq (.v 7) (.v 8)) .nil))) (.cons (.ex (.mth .append (.v 4) (.cons (.tp (.cons (.ix (.v 0) (.v 5)) (.cons (.v 7) (.cons (.v 8) .nil)))) .nil)))
      .nil) .nil)
    .nil))))))
  (.cons (.ret (.blt .tuple (.cons (.v 4) .nil)))
  .nil)))⟩
def k46_E_law_change : Ent := ⟨"_law_change", k46_top 25, ["slots", "place", "names", "numbers", "found", "k", "number", "before", "after", "other"], ["slots", "place", "names", "numbers"], k46_law_change, "", "_law_change"⟩
def k46_law_applied : Df := ⟨3, 13, (.cons (.forr (.tp [(.nm 3), (.nm 4), (.nm 5)]) (.of (.v 2)) (.cons (.ite (.cmp .NotEq (.call 12 (.cons (.v 1) (.cons (.v 3) .nil))) (.v 4)) (.cons (.ret (.tp (.cons (.k (.str [115, 116, 97, 108, 101])) (.cons (.v 3) .nil))))
      .nil) .nil)
    .nil))
  (.cons (.asg (.nm 6) (.ls .nil))
  (.cons (.asg (.nm 7) (.ls .nil))
  (.cons (.forr (.nm 3) (.of (.v 0)) (.cons (.asg (.nm 8) (.call 12 (.cons (.v 1) (.cons (.v 3) .nil))))
    (.cons (.forr (.tp [(.nm 9), (.nm 4), (.nm 5)]) (.of (.v 2)) (.cons (.ite (.cmp .Eq (.v 9) (.v 3)) (.cons (.asg (.nm 8) (.v 5))
        .nil) .nil)
      .nil))
    (.cons (.ite (.bo .And (.cons (.cmp .NotEq (.v 8) (.tp .nil)) (.cons (.cmp .Eq (.ix (.v 3) (.k (.int 0))) (.k (.str [112, 97, 99, 107, 97, 103, 101]))) .nil))) (.cons (.ex (.mth .append (.v 6) (.cons (.v 8) .nil)))
      .nil) (.cons (.ite (.cmp .NotEq (.v 8) (.tp .nil)) (.cons (.ex (.mth .append (.v 7) (.cons (.tp (.cons (.ix (.v 3) (.k (.int 1))) (.cons (.v 8) .nil))) .nil)))
        .nil) .nil)
      .nil))
    .nil))))
  (.cons (.forr (.tp [(.nm 10), (.nm 11)]) (.of (.v 7)) (.cons (.ite (.cmp .NotIn (.v 11) (.lc [12] (.nm 12) (.of (.v 6)) (.ix (.v 12) (.k (.int 0))))) (.cons (.ret (.tp (.cons (.k (.str [115, 116, 97, 108, 101])) (.cons (.tp (.cons (.k (.str [112, 105, 101, 99, 101])) (.cons (.v 10) .nil))) .nil))))
      .nil) .nil)
    .nil))
  (.cons (.ret (.tp (.cons (.k (.str [100, 111, 110, 101])) (.cons (.tp (.cons (.blt .tuple (.cons (.v 6) .nil)) (.cons (.blt .tuple (.cons (.v 7) .nil)) .nil))) .nil))))
  .nil))))))⟩
def k46_E_law_applied : Ent := ⟨"_law_applied", k46_top 26, ["slots", "place", "change", "slot", "before", "after", "entries", "serves", "thing", "other", "piece", "name", "entry"], ["slots", "place", "change"], k46_law_applied, "", "_law_applied"⟩
def k46_law_joined : Df := ⟨3, 8, (.cons (.asg (.nm 3) (.ls .nil))
  (.cons (.forr (.nm 4) (.of (.v 0)) (.cons (.asg (.nm 5) (.lcI [6] (.nm 6) (.of (.v 1)) (.cmp .Eq (.ix (.v 6) (.k (.int 0))) (.v 4)) (.v 6)))
    (.cons (.asg (.nm 7) (.lcI [6] (.nm 6) (.of (.v 2)) (.cmp .Eq (.ix (.v 6) (.k (.int 0))) (.v 4)) (.v 6)))
    (.cons (.ite (.bo .Or (.cons (.cmp .Eq (.blt .len (.cons (.v 5) .nil)) (.k (.int 0))) (.cons (.cmp .Eq (.blt .len (.cons (.v 7) .nil)) (.k (.int 0))) .nil))) (.cons (.asg (.nm 3) (.bin .Add (.bin .Add (.v 3) (.v 5)) (.v 7)))
      .nil) (.cons (.ite (.cmp .NotEq (.ix (.ix (.v 5) (.k (.int 0))) (.k (.int 2))) (.ix (.ix (.v 7) (.k (.int 0))) (.k (.int 1)))) (.cons (.ret (.tp (.cons (.k (.str [115, 116, 97, 108, 101])) (.cons (.v 4) .nil))))
        .nil) (.cons (.ite (.cmp .NotEq (.ix (.ix (.v 5) (.k (.int 0))) (.k (.int 1))) (.ix (.ix (.v 7) (.k (.int 0))) (.k (.int 2)))) (.cons (.ex (.mth .append (.v 3) (.cons (.tp (.cons (.v 4) (.cons (.ix (.ix (.v 5) (.k (.int 0))) (.k (.int 1))) (.cons (.ix (.ix (.v 7) (.k (.int 0))) (.k (.int 2))) .nil)))) .nil)))
          .nil) .nil)
        .nil))
      .nil))
    .nil))))
  (.cons (.ret (.tp (.cons (.k (.str [100, 111, 110, 101])) (.cons (.blt .tuple (.cons (.v 3) .nil)) .nil))))
  .nil)))⟩
def k46_E_law_joined : Ent := ⟨"_law_joined", k46_top 27, ["slots", "first", "second", "found", "slot", "one", "row", "two"], ["slots", "first", "second"], k46_law_joined, "", "_law_joined"⟩
def k46_law_same : Df := ⟨2, 7, (.cons (.asg (.nm 2) (.ls (.cons (.tp (.cons (.v 0) (.cons (.v 1) .nil))) .nil)))
  (.cons (.forr (.nm 3) (.rg1 (.k (.int 1000000))) (.cons (.ite (.cmp .Eq (.blt .len (.cons (.v 2) .nil)) (.k (.int 0))) (.cons (.ret (.k (.bl true)))
      .nil) .nil)
    (.cons (.asg (.tp [(.nm 4), (.nm 5)]) (.mth .pop (.v 2) .nil))
    (.cons (.ite (.isi (.v 5) .tuple) (.cons (.ite (.bo .Or (.cons (.no (.isi (.v 4) .tuple)) (.cons (.cmp .NotEq (.blt .len (.cons (.v 4) .nil)) (.blt .len (.cons (.v 5) .nil))) .nil))) (.cons (.ret (.k (.bl false)))
        .nil) .nil)
      (.cons (.asg (.nm 2) (.bin .Add (.v 2) (.lc [6] (.nm 6) (.rgL (.v 5)) (.tp (.cons (.ix (.v 4) (.v 6)) (.cons (.ix (.v 5) (.v 6)) .nil))))))
      .nil)) (.cons (.ite (.isi (.v 5) .str) (.cons (.ite (.bo .Or (.cons (.no (.isi (.v 4) .str)) (.cons (.cmp .NotEq (.v 4) (.v 5)) .nil))) (.cons (.ret (.k (.bl false)))
          .nil) .nil)
        .nil) (.cons (.ite (.bo .Or (.cons (.no (.isi (.v 4) .int)) (.cons (.isi (.v 4) .bool) (.cons (.cmp .NotEq (.v 4) (.v 5)) .nil)))) (.cons (.ret (.k (.bl false)))
          .nil) .nil)
        .nil))
      .nil))
    .nil))))
  (.cons (.ret (.k (.bl false)))
  .nil)))⟩
def k46_E_law_same : Ent := ⟨"_law_same", k46_top 28, ["actual", "due", "todo", "turn", "one", "two", "k"], ["actual", "due"], k46_law_same, "", "_law_same"⟩
def k46_law_did : Df := ⟨3, 5, (.cons (.trx (.cons (.ite (.cmp .Eq (.v 0) (.k (.str [97, 112, 112, 108, 121]))) (.cons (.asg (.nm 3) (.call 4 (.cons (.v 1) (.cons (.v 2) .nil))))
      .nil) (.cons (.asg (.nm 3) (.call 6 (.cons (.v 1) (.cons (.v 2) .nil))))
      .nil))
    .nil) [0, 1, 2, 3, 4] 4 4 (.cons (.ite (.bo .Or (.cons (.no (.isx 4 [1000])) (.cons (.no (.isx 4 [1001])) .nil))) (.cons (.ret (.tp (.cons (.k (.str [111, 116, 104, 101, 114])) (.cons (.tp .nil) .nil))))
      .nil) .nil)
    (.cons (.ite (.isx 4 [0, 1, 2, 3]) (.cons (.ret (.tp (.cons (.k (.str [111, 116, 104, 101, 114])) (.cons (.tp .nil) .nil))))
      .nil) .nil)
    (.cons (.ret (.tp (.cons (.k (.str [115, 116, 97, 108, 101])) (.cons (.fld 4 "slot") .nil))))
    .nil))))
  (.cons (.ret (.tp (.cons (.k (.str [100, 111, 110, 101])) (.cons (.v 3) .nil))))
  .nil))⟩
def k46_E_law_did : Ent := ⟨"_law_did", k46_top 29, ["way", "one", "two", "found", "e"], ["way", "one", "two"], k46_law_did, "", "_law_did"⟩
def k46_law : Df := ⟨1, 19, (.cons (.asg (.nm 1) (.call 7 (.cons (.v 0) (.cons (.k (.int 0)) (.cons (.k (.int 12)) .nil)))))
  (.cons (.asg (.nm 2) (.call 8 (.cons (.ix (.v 1) (.k (.int 0))) (.cons (.ix (.v 1) (.k (.int 1))) (.cons (.k (.int 5)) .nil)))))
  (.cons (.asg (.nm 3) (.ls (.cons (.ix (.v 2) (.k (.int 0))) (.cons (.k (.str [108, 111, 103])) (.cons (.k (.str [122, 105, 112, 45, 55])) .nil)))))
  (.cons (.asg (.nm 4) (.lc [5] (.nm 5) (.rg1 (.k (.int 3))) (.call 7 (.cons (.v 0) (.cons (.bin .Add (.k (.int 1)) (.v 5)) (.cons (.k (.int 16)) .nil))))))
  (.cons (.forr (.nm 5) (.rg1 (.k (.int 8))) (.cons (.ite (.cmp .Eq (.bin .Mod (.ix (.ix (.v 4) (.k (.int 1))) (.bin .Add (.k (.int 8)) (.v 5))) (.k (.int 2))) (.k (.int 0))) (.cons (.sub (.ix (.v 4) (.k (.int 1))) (.v 5) (.ix (.ix (.v 4) (.k (.int 0))) (.v 5)))
      .nil) .nil)
    (.cons (.ite (.cmp .Lt (.bin .Mod (.ix (.ix (.v 4) (.k (.int 2))) (.bin .Add (.k (.int 8)) (.v 5))) (.k (.int 3))) (.k (.int 2))) (.cons (.sub (.ix (.v 4) (.k (.int 2))) (.v 5) (.ix (.ix (.v 4) (.bin .Mod (.ix (.ix (.v 4) (.k (.int 2))) (.bin .Add (.k (.int 8)) (.v 5))) (.k (.int 3)))) (.v 5)))
      .nil) .nil)
    .nil)))
  (.cons (.asg (.nm 6) (.call 10 (.cons (.v 2) (.cons (.v 3) (.cons (.ix (.v 4) (.k (.int 0))) .nil)))))
  (.cons (.asg (.nm 7) (.call 10 (.cons (.v 2) (.cons (.v 3) (.cons (.ix (.v 4) (.k (.int 1))) .nil)))))
  (.cons (.asg (.nm 8) (.call 10 (.cons (.v 2) (.cons (.v 3) (.cons (.ix (.v 4) (.k (.int 2))) .nil)))))
  (.cons (.asg (.nm 9) (.call 11 (.cons (.v 2) (.cons (.v 3) .nil))))
  (.cons (.asg (.nm 10) (.call 13 (.cons (.v 9) (.cons (.v 6) (.cons (.v 7) .nil)))))
  (.cons (.asg (.nm 11) (.call 13 (.cons (.v 9) (.cons (.v 7) (.cons (.v 8) .nil)))))
  (.cons (.asg (.nm 12) (.call 13 (.cons (.v 9) (.cons (.v 6) (.cons (.v 8) .nil)))))
  (.cons (.ite (.bo .Or (.cons (.no (.call 17 (.cons (.call 2 (.cons (.v 6) (.cons (.v 7) .nil))) (.cons (.v 10) .nil)))) (.cons (.no (.call 17 (.cons (.call 2 (.cons (.v 6) (.cons (.v 8) .nil))) (.cons (.v 12) .nil)))) .nil))) (.cons (.ret (.k (.bl false)))
    .nil) .nil)
  (.cons (.ite (.bo .Or (.cons (.cmp .NotEq (.call 2 (.cons (.v 8) (.cons (.v 8) .nil))) (.tp .nil)) (.cons (.no (.call 17 (.cons (.call 4 (.cons (.v 6) (.cons (.v 10) .nil))) (.cons (.v 7) .nil)))) .nil))) (.cons (.ret (.k (.bl false)))
    .nil) .nil)
  (.cons (.ite (.no (.call 17 (.cons (.call 4 (.cons (.v 6) (.cons (.v 12) .nil))) (.cons (.v 8) .nil)))) (.cons (.ret (.k (.bl false)))
    .nil) .nil)
  (.cons (.asg (.nm 13) (.blt .tuple (.cons (.lc [14] (.nm 14) (.of (.v 10)) (.tp (.cons (.ix (.v 14) (.k (.int 0))) (.cons (.ix (.v 14) (.k (.int 2))) (.cons (.ix (.v 14) (.k (.int 1))) .nil))))) .nil)))
  (.cons (.ite (.bo .Or (.cons (.no (.call 17 (.cons (.call 5 (.cons (.v 10) .nil)) (.cons (.v 13) .nil)))) (.cons (.no (.call 17 (.cons (.call 4 (.cons (.v 7) (.cons (.v 13) .nil))) (.cons (.v 6) .nil)))) .nil))) (.cons (.ret (.k (.bl false)))
    .nil) .nil)
  (.cons (.ite (.bo .Or (.cons (.no (.call 17 (.cons (.call 6 (.cons (.v 10) (.cons (.v 11) .nil))) (.cons (.v 12) .nil)))) (.cons (.cmp .NotEq (.call 6 (.cons (.v 10) (.cons (.v 13) .nil))) (.tp .nil)) .nil))) (.cons (.ret (.k (.bl false)))
    .nil) .nil)
  (.cons (.asg (.nm 15) (.call 14 (.cons (.v 9) (.cons (.v 6) (.cons (.v 2) (.cons (.call 7 (.cons (.v 0) (.cons (.k (.int 4)) (.cons (.k (.int 8)) .nil)))) .nil))))))
  (.cons (.forr (.nm 16) (.of (.ls (.cons (.v 6) (.cons (.v 7) (.cons (.v 8) .nil))))) (.cons (.asg (.nm 17) (.call 15 (.cons (.v 9) (.cons (.v 16) (.cons (.v 15) .nil)))))
    (.cons (.ite (.no (.call 17 (.cons (.call 18 (.cons (.k (.str [97, 112, 112, 108, 121])) (.cons (.v 16) (.cons (.v 15) .nil)))) (.cons (.v 17) .nil)))) (.cons (.ret (.k (.bl false)))
      .nil) .nil)
    (.cons (.asg (.nm 17) (.call 15 (.cons (.v 9) (.cons (.v 16) (.cons (.v 11) .nil)))))
    (.cons (.ite (.no (.call 17 (.cons (.call 18 (.cons (.k (.str [97, 112, 112, 108, 121])) (.cons (.v 16) (.cons (.v 11) .nil)))) (.cons (.v 17) .nil)))) (.cons (.ret (.k (.bl false)))
      .nil) .nil)
    .nil)))))
  (.cons (.forr (.nm 18) (.of (.ls (.cons (.tp (.cons (.v 10) (.cons (.v 15) .nil))) (.cons (.tp (.cons (.v 15) (.cons (.v 11) .nil))) (.cons (.tp (.cons (.v 15) (.cons (.v 15) .nil))) (.cons (.tp (.cons (.v 11) (.cons (.v 10) .nil))) .nil)))))) (.cons (.ite (.no (.call 17 (.cons (.call 18 (.cons (.k (.str [106, 111, 105, 110])) (.cons (.ix (.v 18) (.k (.int 0))) (.cons (.ix (.v 18) (.k (.int 1))) .nil)))) (.cons (.call 16 (.cons (.v 9) (.cons (.ix (.v 18) (.k (.int 0))) (.cons (.ix (.v 18) (.k (.int 1))) .nil)))) .nil)))) (.cons (.ret (.k (.bl false)))
      .nil) .nil)
    .nil))
  (.cons (.ret (.call 17 (.cons (.call 5 (.cons (.v 15) .nil)) (.cons (.blt .tuple (.cons (.lc [14] (.nm 14) (.of (.v 15)) (.tp (.cons (.ix (.v 14) (.k (.int 0))) (.cons (.ix (.v 14) (.k (.int 2))) (.cons (.ix (.v 14) (.k (.int 1))) .nil))))) .nil)) .nil))))
  .nil))))))))))))))))))))))⟩
def k46_E_law : Ent := ⟨"law", k46_top 30, ["script", "row", "names", "pieces", "numbers", "k", "old", "mid", "new", "slots", "first", "second", "whole", "back", "part", "change", "place", "due", "pair"], ["script"], k46_law, "", "law"⟩
abbrev k46_ents : List Ent := [k46_E_merged, k46_E_slot_things, k46_E_difference_between, k46_E_place_of_things, k46_E_apply_difference, k46_E_inverse_difference, k46_E_joined_difference, k46_E_law_numbers, k46_E_law_names, k46_E_law_entry, k46_E_law_place, k46_E_law_slots, k46_E_law_thing, k46_E_law_difference, k46_E_law_change, k46_E_law_applied, k46_E_law_joined, k46_E_law_same, k46_E_law_did, k46_E_law]
abbrev k46_gl : List (Str × PD) := []
abbrev k46_cl : List (Str × Nat × List String) := [("HarborError", 1000, []), ("BadValue", 0, ["name"]), ("Missing", 1, ["name", "version"]), ("Duplicate", 2, ["name", "version"]), ("NotReady", 3, ["what"]), ("Stale", 4, ["slot"])]
abbrev k46_gd : List (Str × List (Cs × PD)) := []
abbrev k46_oc : List (String × List String × List (String × Nat)) := []
abbrev k46_T : Tab := ⟨k46_ents.map Ent.top, k46_gl.map (·.1), k46_cl, k46_gd, k46_oc, false⟩
end PH
set_option maxHeartbeats 4000000
/-! Data in order: the order is total on all data; what a sorted row is; shapes of data; how many parts data have. -/
namespace PH
open L2 PySem PySem.Spec PyProof.Rows
theorem pd_le_trans {a b c : PD} (h1 : PD.le a b = true) (h2 : PD.le b c = true) : PD.le a c = true := by
  unfold PD.le PD.lt PySem.W.dataLt at *
  simp only [Bool.not_eq_true'] at *
  cases q : PyProof.Rows.lexLt PyProof.Rows.itemOrd (PySem.W.keyToks c.py) (PySem.W.keyToks a.py) with
  | false => rfl
  | true =>
    rcases PyProof.Rows.lex_negTrans (O := PyProof.Rows.itemOrd) _ (PySem.W.keyToks b.py) _ q with z | z
    · rw [z] at h2; cases h2
    · rw [z] at h1; cases h1
theorem pd_lt_asymm {a b : PD} (h : PD.lt a b = true) : PD.lt b a = false := by
  unfold PD.lt PySem.W.dataLt at *
  cases q : PyProof.Rows.lexLt PyProof.Rows.itemOrd (PySem.W.keyToks b.py) (PySem.W.keyToks a.py) with
  | false => rfl
  | true =>
    have := PyProof.Rows.lex_trans (O := PyProof.Rows.itemOrd) _ _ _ h q
    rw [PyProof.Rows.lex_irrefl] at this
    cases this
theorem pd_lt_irrefl (a : PD) : PD.lt a a = false := PyProof.Rows.lex_irrefl (O := PyProof.Rows.itemOrd) _
theorem pd_le_total (a b : PD) : (PD.le a b || PD.le b a) = true := by
  unfold PD.le
  cases q : PD.lt b a with
  | false => rfl
  | true => rw [pd_lt_asymm q]; rfl
/-- a strictly ascending arrangement is what sorting gives -/
theorem sort_eq {xs ys : List PD} (hp : ys.Perm xs) (hs : ys.Pairwise fun a b => PD.lt a b = true) : xs.mergeSort PD.le = ys := by
  refine List.Perm.eq_of_pairwise (le := fun a b => PD.le a b = true) (fun a b ha hb h1 h2 => ?_) (List.pairwise_mergeSort (le := PD.le) (fun a b c h1 h2 => pd_le_trans h1 h2) pd_le_total xs) (hs.imp fun h => by unfold PD.le; rw [pd_lt_asymm h]; rfl) ((List.mergeSort_perm xs PD.le).trans hp.symm)
  have ha' : a ∈ ys := hp.symm.subset ((List.mergeSort_perm xs PD.le).subset ha)
  obtain ⟨i, hi, rfl⟩ := List.mem_iff_getElem.mp ha'
  obtain ⟨j, hj, rfl⟩ := List.mem_iff_getElem.mp hb
  have hh := List.pairwise_iff_getElem.mp hs
  rcases Nat.lt_trichotomy i j with z | z | z
  · have := hh i j hi hj z
    unfold PD.le at h2; rw [this] at h2; cases h2
  · subst z; rfl
  · have := hh j i hj hi z
    unfold PD.le at h1; rw [this] at h1; cases h1
theorem srtI_eq {xs ys : List PD} (hp : ys.Perm xs) (hs : ys.Pairwise fun a b => PD.lt a b = true) (h1 : ∀ x ∈ xs, ∀ y ∈ xs, PD.like x y = true) (h2 : (∀ x ∈ xs, isTup1 x = true) ∨ ∀ x ∈ xs, isFlat x = true) (h3 : ∀ x ∈ xs, x.dep ≤ 64) : srtI xs = some ys := by
  unfold srtI
  rw [if_pos ⟨h1, h2, h3⟩, sort_eq hp hs]
theorem lt_str (a b : Cs) : PD.lt (.str a) (.str b) = decide (a < b) := PySem.W.dataLt_str (mkS a) (mkS b)
theorem lt_cons {x y : PD} (xs ys : List PD) (h : PD.like x y = true) : PD.lt (.tup (x :: xs)) (.tup (y :: ys)) = if PD.eqv x y = true then PD.lt (.tup xs) (.tup ys) else PD.lt x y := by
  unfold PD.lt
  show PySem.W.dataLt (.tuple (x.py :: PD.pys xs)) (.tuple (y.py :: PD.pys ys)) = _
  rw [PySem.W.dataLt_tuple]
  rw [PySem.W.dataLt_cons h]
  show _ = if _ then PySem.W.dataLt (.tuple (PD.pys xs)) (.tuple (PD.pys ys)) else _
  rw [PySem.W.dataLt_tuple]
  rfl
theorem like_str (a b : Cs) : PD.like (.str a) (.str b) = true := by
  show PySem.W.alike (.str (mkS a)) (.str (mkS b)) = true
  simp only [PySem.W.alike]
theorem like_tup {xs ys : List PD} (h : PySem.W.alikeAll (PD.pys xs) (PD.pys ys) = true) : PD.like (.tup xs) (.tup ys) = true := by
  show PySem.W.alike (.tuple (PD.pys xs)) (.tuple (PD.pys ys)) = true
  simp only [PySem.W.alike, h]
theorem eqv_str (a b : Cs) : PD.eqv (.str a) (.str b) = decide (a = b) := eqv_nice 0 0 (.str a) (.str b) rfl rfl |>.trans (by simp)
/-- rows that begin with unlike texts -/
theorem lt_head {a b : Cs} {xs ys : List PD} (h : a ≠ b) : PD.lt (.tup (.str a :: xs)) (.tup (.str b :: ys)) = decide (a < b) := by
  rw [lt_cons xs ys (like_str a b), eqv_str, lt_str, if_neg (by simpa using h)]
theorem lt_same (a : Cs) (xs ys : List PD) : PD.lt (.tup (.str a :: xs)) (.tup (.str a :: ys)) = PD.lt (.tup xs) (.tup ys) := by
  rw [lt_cons xs ys (like_str a a), eqv_str, if_pos (by simp)]
theorem cs_total {a b : Cs} (h : a ≠ b) : a < b ∨ b < a := by
  rcases List.le_total a b with z | z
  · rcases List.le_iff_lt_or_eq.mp z with y | y
    · exact .inl y
    · exact absurd y h
  · rcases List.le_iff_lt_or_eq.mp z with y | y
    · exact .inr y
    · exact absurd y.symm h

/-! ### shapes -/
/-- texts, numbers, rows of one shape, rows whose first members have these shapes (shorter ones too), the empty row -/
inductive Shp where
  | s | i | l (t : Shp) | c (t r : Shp) | e
def Shp.ok : Shp → PD → Bool
  | .s, .str _ => true
  | .i, .int _ => true
  | .l t, .tup xs => xs.all t.ok
  | .c t r, .tup xs => match xs with
    | [] => true
    | x :: xs => t.ok x && r.ok (.tup xs)
  | .e, .tup [] => true
  | _, _ => false
def Shp.dep : Shp → Nat
  | .s => 0
  | .i => 0
  | .l t => t.dep + 1
  | .c t r => max (t.dep + 1) r.dep
  | .e => 1
theorem Shp.ok_e {x : PD} (h : Shp.e.ok x = true) : x = .tup [] := by
  cases x with
  | tup xs => cases xs with
    | nil => rfl
    | cons _ _ => simp [Shp.ok] at h
  | _ => simp [Shp.ok] at h
theorem Shp.like : ∀ (t : Shp) (x y : PD), t.ok x = true → t.ok y = true → PD.like x y = true
  | .s, x, y, hx, hy => by
    cases x <;> simp only [Shp.ok, Bool.false_eq_true] at hx
    cases y <;> simp only [Shp.ok, Bool.false_eq_true] at hy
    exact like_str _ _
  | .i, x, y, hx, hy => by
    cases x <;> simp only [Shp.ok, Bool.false_eq_true] at hx
    cases y <;> simp only [Shp.ok, Bool.false_eq_true] at hy
    rename_i a b
    show PySem.W.alike (.int a) (.int b) = true
    simp only [PySem.W.alike]
  | .l t, x, y, hx, hy => by
    cases x <;> simp only [Shp.ok, Bool.false_eq_true] at hx
    cases y <;> simp only [Shp.ok, Bool.false_eq_true] at hy
    rename_i xs ys
    refine like_tup ?_
    induction xs generalizing ys with
    | nil => simp only [PD.pys, PySem.W.alikeAll]
    | cons x xs ih =>
      cases ys with
      | nil => simp only [PD.pys, PySem.W.alikeAll]
      | cons y ys =>
        simp only [List.all_cons, Bool.and_eq_true] at hx hy
        simp only [PD.pys, PySem.W.alikeAll, Bool.and_eq_true]
        exact ⟨Shp.like t x y hx.1 hy.1, ih hx.2 ys hy.2⟩
  | .c t r, x, y, hx, hy => by
    cases x <;> simp only [Shp.ok, Bool.false_eq_true] at hx
    cases y <;> simp only [Shp.ok, Bool.false_eq_true] at hy
    rename_i xs ys
    refine like_tup ?_
    cases xs with
    | nil => simp only [PD.pys, PySem.W.alikeAll]
    | cons x xs =>
      cases ys with
      | nil => simp only [PD.pys, PySem.W.alikeAll]
      | cons y ys =>
        simp only [Bool.and_eq_true] at hx hy
        have h2 := Shp.like r (.tup xs) (.tup ys) hx.2 hy.2
        have h3 : PySem.W.alike (.tuple (PD.pys xs)) (.tuple (PD.pys ys)) = true := h2
        simp only [PySem.W.alike] at h3
        simp only [PD.pys, PySem.W.alikeAll, Bool.and_eq_true]
        exact ⟨Shp.like t x y hx.1 hy.1, h3⟩
  | .e, x, y, hx, hy => by
    obtain rfl := Shp.ok_e hx
    obtain rfl := Shp.ok_e hy
    exact like_tup (by simp only [PD.pys, PySem.W.alikeAll])
theorem Shp.nice : ∀ (t : Shp) (x : PD), t.ok x = true → ∀ n, t.dep ≤ n → x.nice n = true
  | .s, x, hx, n, hn => by cases x <;> simp only [Shp.ok, Bool.false_eq_true] at hx; cases n <;> rfl
  | .i, x, hx, n, hn => by cases x <;> simp only [Shp.ok, Bool.false_eq_true] at hx; cases n <;> rfl
  | .l t, x, hx, n, hn => by
    cases x <;> simp only [Shp.ok, Bool.false_eq_true] at hx
    rename_i xs
    cases n with
    | zero => simp [Shp.dep] at hn
    | succ n =>
      have hn' : t.dep ≤ n := by simpa [Shp.dep] using hn
      show PD.nices n xs = true
      rw [nices_iff]
      intro y hy
      exact Shp.nice t y (List.all_eq_true.mp hx y hy) n hn'
  | .c t r, x, hx, n, hn => by
    cases x <;> simp only [Shp.ok, Bool.false_eq_true] at hx
    rename_i xs
    cases n with
    | zero => simp only [Shp.dep] at hn; omega
    | succ n =>
      have h1 : t.dep ≤ n := by simp only [Shp.dep] at hn; omega
      have h2 : r.dep ≤ n + 1 := by simp only [Shp.dep] at hn; omega
      show PD.nices n xs = true
      cases xs with
      | nil => rw [PD.nices]
      | cons x xs =>
        simp only [Bool.and_eq_true] at hx
        have h3 := Shp.nice r (.tup xs) hx.2 (n + 1) h2
        have h3 : PD.nices n xs = true := h3
        rw [PD.nices, Shp.nice t x hx.1 n h1, h3]; rfl
  | .e, x, hx, n, hn => by
    obtain rfl := Shp.ok_e hx
    cases n with
    | zero => simp [Shp.dep] at hn
    | succ n => show PD.nices n [] = true; rw [PD.nices]
/-! ### texts, numbers, rows of these; how many parts -/
mutual
def PD.dat : PD → Bool
  | .int _ => true
  | .str _ => true
  | .tup xs => PD.dats xs
  | _ => false
def PD.dats : List PD → Bool
  | [] => true
  | x :: xs => PD.dat x && PD.dats xs
end
mutual
def PD.wt : PD → Nat
  | .tup xs => PD.wts xs + 1
  | _ => 1
def PD.wts : List PD → Nat
  | [] => 0
  | x :: xs => PD.wt x + PD.wts xs
end
theorem dats_iff : ∀ xs : List PD, PD.dats xs = true ↔ ∀ x ∈ xs, x.dat = true
  | [] => by simp [PD.dats]
  | x :: xs => by simp [PD.dats, dats_iff xs]
theorem dats_app (xs ys : List PD) : PD.dats (xs ++ ys) = (PD.dats xs && PD.dats ys) := by
  induction xs with
  | nil => simp [PD.dats]
  | cons x xs ih => simp [PD.dats, ih, Bool.and_assoc]
theorem wts_le {b : Nat} : ∀ {xs : List PD}, (∀ x ∈ xs, x.wt ≤ b) → PD.wts xs ≤ xs.length * b
  | [], _ => by simp [PD.wts]
  | x :: xs, h => by
    have := wts_le (xs := xs) fun y hy => h y (List.mem_cons_of_mem _ hy)
    have := h x List.mem_cons_self
    simp only [PD.wts, List.length_cons, Nat.succ_mul]
    omega
theorem wts_app : ∀ (xs ys : List PD), PD.wts (xs ++ ys) = PD.wts xs + PD.wts ys
  | [], ys => by simp [PD.wts]
  | x :: xs, ys => by simp [PD.wts, wts_app xs ys]; omega
theorem wt_pos (x : PD) : 1 ≤ x.wt := by cases x <;> simp [PD.wt]
theorem Shp.dat : ∀ (t : Shp) (x : PD), t.ok x = true → x.dat = true
  | .s, x, hx => by cases x <;> simp only [Shp.ok, Bool.false_eq_true] at hx; rfl
  | .i, x, hx => by cases x <;> simp only [Shp.ok, Bool.false_eq_true] at hx; rfl
  | .l t, x, hx => by
    cases x <;> simp only [Shp.ok, Bool.false_eq_true] at hx
    show PD.dats _ = true
    rw [dats_iff]
    exact fun y hy => Shp.dat t y (List.all_eq_true.mp hx y hy)
  | .c t r, x, hx => by
    cases x <;> simp only [Shp.ok, Bool.false_eq_true] at hx
    rename_i xs
    show PD.dats xs = true
    cases xs with
    | nil => rw [PD.dats]
    | cons x xs =>
      simp only [Bool.and_eq_true] at hx
      have h3 : PD.dats xs = true := Shp.dat r (.tup xs) hx.2
      rw [PD.dats, Shp.dat t x hx.1, h3]; rfl
  | .e, x, hx => by
    obtain rfl := Shp.ok_e hx
    rfl
end PH

set_option maxHeartbeats 4000000
/-! Dicts whose keys are the images of a kind of things: looked up, written, made, walked. -/
namespace PH
open L2 PySem PySem.Spec PyProof.Rows
mutual
theorem nk_inj : ∀ {x y : PD}, x.dat = true → y.dat = true → nk x = nk y → x = y
  | .int i, y, hx, hy, h => by
    cases y <;> simp only [PD.dat, Bool.false_eq_true] at hy <;> simp only [nk, NestedKey.num.injEq, reduceCtorEq] at h
    rw [h]
  | .str s, y, hx, hy, h => by
    cases y <;> simp only [PD.dat, Bool.false_eq_true] at hy <;> simp only [nk, NestedKey.text.injEq, reduceCtorEq] at h
    rw [mkS_inj h]
  | .tup xs, y, hx, hy, h => by
    cases y <;> simp only [PD.dat, Bool.false_eq_true] at hy <;> simp only [nk, NestedKey.tup.injEq, reduceCtorEq] at h
    rw [nks_inj (show PD.dats xs = true from hx) hy h]
  | .non, y, hx, hy, h => by cases hx
  | .bl _, y, hx, hy, h => by cases hx
theorem nks_inj : ∀ {xs ys : List PD}, PD.dats xs = true → PD.dats ys = true → nks xs = nks ys → xs = ys
  | [], [], _, _, _ => rfl
  | [], y :: ys, _, _, h => by simp [nks] at h
  | x :: xs, [], _, _, h => by simp [nks] at h
  | x :: xs, y :: ys, hx, hy, h => by
    simp only [PD.dats, Bool.and_eq_true] at hx hy
    simp only [nks, List.cons.injEq] at h
    rw [nk_inj hx.1 hy.1 h.1, nks_inj hx.2 hy.2 h.2]
end
/-- a kind of keys that are tuples -/
structure Kys (α : Type) [DecidableEq α] where
  g : α → PD
  inj : ∀ a b, nk (g a) = nk (g b) → a = b
  tk : ∀ a, isTK (g a) = true
section
variable {α : Type} [DecidableEq α] (Y : Kys α) {S : Sto} {n : Nat} {M : Mo} {ρ : Nv}
def kvOf (ks : List α) (F : α → D) : List (PD × D) := ks.map fun a => (Y.g a, F a)
theorem nk_iff (a b : α) : nk (Y.g a) = nk (Y.g b) ↔ a = b := ⟨Y.inj a b, fun h => by rw [h]⟩
theorem kget_of (F : α → D) (a : α) : ∀ ks : List α, kget (kvOf Y ks F) (Y.g a) = if a ∈ ks then some (F a) else none
  | [] => rfl
  | b :: ks => by
    have ih := kget_of F a ks
    unfold kget kvOf at ih ⊢
    by_cases h : b = a
    · subst h; simp
    · have h' : ¬ nk (Y.g b) = nk (Y.g a) := fun z => h (Y.inj b a z)
      simp only [List.map_cons, List.find?_cons, decide_eq_false h', ih, List.mem_cons, Ne.symm h, false_or]
theorem kvOf_congr {ks : List α} {F G : α → D} (h : ∀ a ∈ ks, F a = G a) : kvOf Y ks F = kvOf Y ks G := List.map_congr_left fun a ha => by rw [h a ha]
theorem kput_new {ks : List α} {F : α → D} {a : α} (h : a ∉ ks) : kput (kvOf Y ks F) (Y.g a) (F a) = kvOf Y (ks ++ [a]) F := by
  unfold kput
  rw [kget_of, if_neg h, if_neg (by simp)]
  simp [kvOf]
def fput (F : α → D) (a : α) (y : D) : α → D := fun b => if b = a then y else F b
theorem kput_of (ks : List α) (F : α → D) (a : α) (y : D) : kput (kvOf Y ks F) (Y.g a) y = kvOf Y (if a ∈ ks then ks else ks ++ [a]) (fput F a y) := by
  by_cases h : a ∈ ks
  · unfold kput
    rw [kget_of, if_pos h, if_pos (by simp), if_pos h]
    unfold kvOf
    rw [List.map_map]
    refine List.map_congr_left fun b _ => ?_
    simp only [Function.comp, nk_iff, fput]
    split <;> rfl
  · have e : F = fput F a (F a) := by funext b; unfold fput; split <;> simp [*]
    have e1 : kvOf Y ks F = kvOf Y ks (fput F a y) := kvOf_congr Y fun b hb => by unfold fput; rw [if_neg (show ¬ b = a from fun z => h (by rw [← z]; exact hb))]
    have e2 : fput F a y a = y := by unfold fput; rw [if_pos rfl]
    rw [e1, if_neg h, ← kput_new Y h, e2]
theorem kdrop_of (F : α → D) (a : α) : ∀ ks : List α, kdrop (kvOf Y ks F) (Y.g a) = kvOf Y (ks.filter fun b => decide (b ≠ a)) F
  | [] => rfl
  | b :: ks => by
    have ih := kdrop_of F a ks
    unfold kdrop kvOf at ih ⊢
    by_cases h : b = a
    · subst h; simpa using ih
    · have h' : ¬ nk (Y.g b) = nk (Y.g a) := fun z => h (Y.inj b a z)
      rw [List.map_cons, List.filter_cons, if_pos (by simpa using h'), List.filter_cons, if_pos (by simpa using h), List.map_cons, ih]
/-- the dict at n: its keys, their values -/
def DicAt (S : Sto) (n : Nat) (ks : List α) (F : α → D) : Prop := S[n]? = some (.dt (kvOf Y ks F)) ∨ S[n]? = some (.df true (kvOf Y ks F))
variable {Y}
theorem DicAt.get {ks : List α} {F : α → D} (h : DicAt Y S n ks F) (a : α) : dGet (.ref n) (.p (Y.g a)) S = some (if a ∈ ks then some (F a) else none) := by
  unfold dGet
  rcases h with h | h
  · simp only [h, Y.tk a, if_true, kget_of]
  · simp only [h, Y.tk a, if_true, kget_of]
theorem DicAt.app {ks : List α} {F : α → D} (h : DicAt Y S n ks F) (l : Sto) : DicAt Y (S ++ l) n ks F := h.imp pre_get pre_get
theorem DicAt.ix {ks : List α} {F : α → D} (h : DicAt Y S n ks F) {a : α} (ha : a ∈ ks) : dIx (.ref n) (.p (Y.g a)) S = .ok (F a) S := by unfold dIx; rw [h.get a, if_pos ha]
theorem DicAt.inn {ks : List α} {F : α → D} (h : DicAt Y S n ks F) (neg : Bool) (a : α) : dIn neg (.p (Y.g a)) (.ref n) S = .ok (.p (.bl (decide (a ∈ ks) != neg))) S := by
  unfold dIn
  rw [h.get a]
  by_cases ha : a ∈ ks <;> simp [ha]
theorem DicAt.get2 {ks : List α} {F : α → D} (h : DicAt Y S n ks F) (a : α) (z : D) : dGet2 (.ref n) (.p (Y.g a)) z S = .ok (if a ∈ ks then F a else z) S := by
  unfold dGet2
  rw [h.get a]
  by_cases ha : a ∈ ks <;> simp [ha]
theorem DicAt.recv {ks : List α} {F : α → D} (h : DicAt Y S n ks F) : recvD (.ref n) S = true := by
  unfold recvD Sto.isD
  rcases h with h | h <;> simp only [h]
theorem DicAt.keys {ks : List α} {F : α → D} (h : DicAt Y S n ks F) : keysD (.ref n) S = some (ks.map Y.g) := by
  unfold keysD
  rcases h with h | h <;> simp [h, O.frzD, kvOf, List.map_map, Function.comp]
theorem dput_of {ks : List α} {F : α → D} (h : S[n]? = some (.dt (kvOf Y ks F))) (hl : ks.length < LINE) (a : α) (y : D) : dPut (.ref n) (.p (Y.g a)) y S = some (S.set n (.dt (kvOf Y (if a ∈ ks then ks else ks ++ [a]) (fput F a y)))) := by
  unfold dPut
  have hl' : (kvOf Y ks F).length < LINE := by simpa [kvOf] using hl
  simp only [h, Y.tk a, hl', and_self, if_true, kput_of]
theorem dput_new {ks : List α} {F : α → D} (h : S[n]? = some (.dt (kvOf Y ks F))) (hl : ks.length < LINE) {a : α} (ha : a ∉ ks) : dPut (.ref n) (.p (Y.g a)) (F a) S = some (S.set n (.dt (kvOf Y (ks ++ [a]) F))) := by
  unfold dPut
  have hl' : (kvOf Y ks F).length < LINE := by simpa [kvOf] using hl
  simp only [h, Y.tk a, hl', and_self, if_true, kput_new Y ha]
theorem ddel_of {ks : List α} {F : α → D} (h : S[n]? = some (.dt (kvOf Y ks F))) {a : α} (ha : a ∈ ks) : dDel (.ref n) (.p (Y.g a)) S = some (S.set n (.dt (kvOf Y (ks.filter fun b => decide (b ≠ a)) F))) := by
  unfold dDel
  simp only [h, Y.tk a, kget_of, ha, if_true, Option.isSome_some, and_self, kdrop_of]
/-- list(d), sorted(d) -/
theorem DicAt.list {ks : List α} {F : α → D} (h : DicAt Y S n ks F) : bltI .list [.ref n] S = .ok (.ref S.length) (S ++ [.pl (ks.map Y.g)]) := by
  have hd : dataOf (.ref n) S = none := by unfold dataOf; rcases h with h | h <;> simp only [h]
  simp only [bltI, hd, h.keys]; rfl
theorem DicAt.sorted {ks : List α} {F : α → D} {ys : List PD} (h : DicAt Y S n ks F) (hs : srtI (ks.map Y.g) = some ys) : bltI .sorted [.ref n] S = .ok (.ref S.length) (S ++ [.pl ys]) := by
  have hd : dataOf (.ref n) S = none := by unfold dataOf; rcases h with h | h <;> simp only [h]
  simp only [bltI, hd, h.keys, hs]; rfl
/-- .. walked: it is written no more -/
theorem DicAt.walk {ks : List α} {F : α → D} (h : DicAt Y S n ks F) : wkOf (.ref n) S = .ok ⟨ks.map fun a => .p (Y.g a), none⟩ (S.set n (.df true (kvOf Y ks F))) := by
  have e : ((kvOf Y ks F).map (·.1)).map D.p = ks.map fun a => D.p (Y.g a) := by simp [kvOf]
  rcases h with h | h <;> simp only [wkOf, h, O.isL, O.frzD, Bool.false_eq_true, if_false, e]
theorem df_dic {ks : List α} {F : α → D} (hn : n < S.length) : DicAt Y (S.set n (.df true (kvOf Y ks F))) n ks F := .inr (List.getElem?_set_self hn)
/-- {k: v for ..}: the keys all new -/
theorem dcI_list {β : Type} {w : Wk} {tg : Tg} {c : Nv → Sto → Res Bool} {kx vx : Nv → Sto → Res D} {S0 : Sto} (g0 : β → D) (k : β → α) (F : α → D) (hs : ∀ l, w.still (S0 ++ l) = true) :
    ∀ (xs : List β) (ks : List α), ks.length + xs.length ≤ LINE → (ks ++ xs.map k).Nodup → (∀ x ∈ xs, ∃ ρ1, asgT tg (g0 x) ρ = some ρ1 ∧ ∀ l, c ρ1 (S0 ++ l) = .ok true (S0 ++ l) ∧ kx ρ1 (S0 ++ l) = .ok (.p (Y.g (k x))) (S0 ++ l) ∧ vx ρ1 (S0 ++ l) = .ok (F (k x)) (S0 ++ l)) →
      dcI w tg c kx vx ρ S0.length (xs.map g0) (S0 ++ [.dt (kvOf Y ks F)]) = .ok (.ref S0.length) (S0 ++ [.dt (kvOf Y (ks ++ xs.map k) F)])
  | [], ks, hl, nd, h => by rw [List.map_nil]; unfold dcI; rw [if_pos (hs _)]; simp
  | x :: xs, ks, hl, nd, h => by
    obtain ⟨ρ1, ha, hb⟩ := h x List.mem_cons_self
    obtain ⟨h1, h2, h3⟩ := hb [.dt (kvOf Y ks F)]
    have hx : k x ∉ ks := fun z => by
      rw [List.map_cons, List.nodup_append] at nd
      exact nd.2.2 _ z _ List.mem_cons_self rfl
    have hg : (S0 ++ [O.dt (kvOf Y ks F)])[S0.length]? = some (.dt (kvOf Y ks F)) := by simp
    rw [List.map_cons]
    unfold dcI
    rw [if_pos (hs _)]
    simp only [List.length_cons] at hl
    simp only [ha, h1, h2, h3, dput_new hg (by omega) hx]
    have e : (S0 ++ [O.dt (kvOf Y ks F)]).set S0.length (.dt (kvOf Y (ks ++ [k x]) F)) = S0 ++ [.dt (kvOf Y (ks ++ [k x]) F)] := by simp
    rw [e, dcI_list g0 k F hs xs (ks ++ [k x]) (by simp; omega) (by simpa using nd) fun y hy => h y (List.mem_cons_of_mem _ hy)]
    simp
theorem dcm_ev {β : Type} {own : List Nat} {tg : Tg} {it : W} {kx vx : E} {w : Wk} {S1 : Sto} (g0 : β → D) (k : β → α) (F : α → D) (xs : List β) (hw : evW M it ρ S = .ok w S1) (hl : xs.length ≤ LINE) (hx : w.ds = xs.map g0) (hs : ∀ l, w.still (S1 ++ l) = true) (nd : (xs.map k).Nodup)
    (h : ∀ x ∈ xs, ∃ ρ1, asgT tg (g0 x) (wipeN ρ own) = some ρ1 ∧ ∀ l, evE M kx ρ1 (S1 ++ l) = .ok (.p (Y.g (k x))) (S1 ++ l) ∧ evE M vx ρ1 (S1 ++ l) = .ok (F (k x)) (S1 ++ l)) :
    evE M (.dcm true own tg it kx vx) ρ S = .ok (.ref S1.length) (S1 ++ [.dt (kvOf Y (xs.map k) F)]) := by
  rw [ev_dcm, hw, Res.bind_ok', hx]
  have := dcI_list (Y := Y) (w := w) (tg := tg) (c := fun _ S => .ok true S) (kx := evE M kx) (vx := evE M vx) (ρ := wipeN ρ own) (S0 := S1) g0 k F hs xs [] (by simpa using hl) (by simpa using nd) fun x hx => let ⟨ρ1, a, b⟩ := h x hx; ⟨ρ1, a, fun l => ⟨rfl, b l⟩⟩
  simpa [newD, kvOf] using this
end
/-! ### steps by lemma -/
section
variable {M : Mo} {ρ ρ1 : Nv} {S S1 S2 S3 S4 : Sto} {d d1 d2 d3 d4 : D}
theorem edix {a b : E} {r : Res D} (h1 : evE M a ρ S = .ok d1 S1) (h2 : evE M b ρ S1 = .ok d2 S2) (h3 : dIx d1 d2 S2 = r) : evE M (.dix a b) ρ S = r := by rw [ev_dix, h1, Res.bind_ok', h2, Res.bind_ok', h3]
theorem edin {neg : Bool} {a b : E} {r : Res D} (h1 : evE M a ρ S = .ok d1 S1) (h2 : evE M b ρ S1 = .ok d2 S2) (h3 : dIn neg d1 d2 S2 = r) : evE M (.din neg a b) ρ S = r := by rw [ev_din, h1, Res.bind_ok', h2, Res.bind_ok', h3]
theorem edg1 {a b : E} {r : Res D} (h1 : evE M a ρ S = .ok d1 S1) (hr : recvD d1 S1 = true) (h2 : evE M b ρ S1 = .ok d2 S2) (h3 : dGet2 d1 d2 (.p .non) S2 = r) : evE M (.dg1 a b) ρ S = r := by rw [ev_dg1, h1, Res.bind_ok', if_pos hr, h2, Res.bind_ok', h3]
theorem edg2 {a b c : E} {r : Res D} (h1 : evE M a ρ S = .ok d1 S1) (hr : recvD d1 S1 = true) (h2 : evE M b ρ S1 = .ok d2 S2) (h3 : evE M c ρ S2 = .ok d3 S3) (h4 : dGet2 d1 d2 d3 S3 = r) : evE M (.dg2 a b c) ρ S = r := by
  rw [ev_dg2, h1, Res.bind_ok', if_pos hr, h2, Res.bind_ok', h3, Res.bind_ok', h4]
theorem stdsu {a i e : E} (h1 : evE M e ρ S = .ok d1 S1) (h2 : evE M a ρ S1 = .ok d2 S2) (h3 : evE M i ρ S2 = .ok d3 S3) (h4 : dPut d2 d3 d1 S3 = some S4) : evC M (.dsu a i e) ρ S = .nx ρ S4 := by
  rw [evc_dsu, h1, Res.out_ok, h2, Res.out_ok, h3, Res.out_ok, h4]
theorem stddl {a i : E} (h2 : evE M a ρ S = .ok d2 S2) (h3 : evE M i ρ S2 = .ok d3 S3) (h4 : dDel d2 d3 S3 = some S4) : evC M (.ddl a i) ρ S = .nx ρ S4 := by
  rw [evc_ddl, h2, Res.out_ok, h3, Res.out_ok, h4]
theorem bindT {c : E} {b : Bool} (h : evE M c ρ S = .ok (.p (.bl b)) S1) : (evE M c ρ S).bind truI = .ok b S1 := by rw [h, Res.bind_ok', tru_bl]
/-- comprehensions whose walk is made anew -/
theorem lcI_ev1 {α : Type} {own : List Nat} {tg : Tg} {it : W} {c elt : E} {w : Wk} (g : α → D) (p : α → Bool) (f : α → PD) (xs : List α) (hw : evW M it ρ S = .ok w S1) (hl : xs.length ≤ LINE) (hx : w.ds = xs.map g) (hs : ∀ l, w.still (S1 ++ l) = true)
    (h : ∀ x ∈ xs, ∃ ρ1, asgT tg (g x) (wipeN ρ own) = some ρ1 ∧ ∀ l, (evE M c ρ1 (S1 ++ l)).bind truI = .ok (p x) (S1 ++ l) ∧ (p x = true → evE M elt ρ1 (S1 ++ l) = .ok (.p (f x)) (S1 ++ l))) : evE M (.lcI own tg it c elt) ρ S = .ok (.ref S1.length) (S1 ++ [.pl ((xs.filter p).map f)]) := by
  rw [ev_lcI, hw, Res.bind_ok', hx, List.length_map, if_pos hl]
  rw [lcI_listF g p f hs xs [] h]
  simp
theorem lc_ev1 {α : Type} {own : List Nat} {tg : Tg} {it : W} {elt : E} {w : Wk} (g : α → D) (f : α → PD) (xs : List α) (hw : evW M it ρ S = .ok w S1) (hl : xs.length ≤ LINE) (hx : w.ds = xs.map g) (hs : ∀ l, w.still (S1 ++ l) = true)
    (h : ∀ x ∈ xs, ∃ ρ1, asgT tg (g x) (wipeN ρ own) = some ρ1 ∧ ∀ l, evE M elt ρ1 (S1 ++ l) = .ok (.p (f x)) (S1 ++ l)) : evE M (.lc own tg it elt) ρ S = .ok (.ref S1.length) (S1 ++ [.pl (xs.map f)]) := by
  rw [ev_lc, hw, Res.bind_ok', hx, List.length_map, if_pos hl]
  rw [lcI_listF g (fun _ => true) f hs xs [] fun x hx => let ⟨ρ1, a, b⟩ := h x hx; ⟨ρ1, a, fun l => ⟨rfl, fun _ => b l⟩⟩]
  rw [List.filter_eq_self.mpr (fun _ _ => rfl)]
  simp
/-- a list of data, walked -/
theorem wk_pl {n : Nat} {xs : List PD} (h : S[n]? = some (.pl xs)) : wkOf (.ref n) S = .ok ⟨xs.map .p, some (n, .pl xs)⟩ S := wk_ref h rfl
theorem still_pl {n : Nat} {xs : List PD} {ds : List D} (h : S[n]? = some (.pl xs)) : (Wk.mk ds (some (n, .pl xs))).still S = true := decide_eq_true h
end
end PH

set_option maxHeartbeats 4000000
/-! k46: slots, states of places, changes; the comparison of the law. -/
namespace PH
open L2 PySem PySem.Spec PyProof.Rows
noncomputable abbrev C46 (j : Nat) := callI (dfs k46_ents) (glOf k46_gl) j
noncomputable abbrev M46 (j : Nat) : Mo := ⟨C46 j, glOf k46_gl⟩
/-! ### slots -/
abbrev Sl := Bool × Cs
def kd (b : Bool) : Cs := if b then [112, 105, 101, 99, 101] else [112, 97, 99, 107, 97, 103, 101]
def sP (s : Sl) : PD := .tup [.str (kd s.1), .str s.2]
theorem kd_inj {a b : Bool} (h : kd a = kd b) : a = b := by cases a <;> cases b <;> first | rfl | (revert h; decide)
theorem sP_dat (s : Sl) : (sP s).dat = true := rfl
theorem sP_inj {a b : Sl} (h : sP a = sP b) : a = b := by
  unfold sP at h
  simp only [PD.tup.injEq, List.cons.injEq, PD.str.injEq, and_true] at h
  exact Prod.ext (kd_inj h.1) h.2
theorem sP_lt (a b : Sl) : PD.lt (sP a) (sP b) = true ↔ (a.1 = false ∧ b.1 = true) ∨ (a.1 = b.1 ∧ a.2 < b.2) := by
  unfold sP
  obtain ⟨x, a⟩ := a
  obtain ⟨y, b⟩ := b
  have two : ∀ z : Bool, PD.lt (.tup [.str (kd z), .str a]) (.tup [.str (kd z), .str b]) = true ↔ a < b := fun z => by
    rw [lt_same]
    by_cases h : a = b
    · subst h
      rw [lt_same, pd_lt_irrefl]
      simp [List.lt_irrefl]
    · rw [lt_head h]; simp
  have k1 : kd false ≠ kd true := by decide
  have k2 : kd false < kd true := by decide
  have k3 : ¬ kd true < kd false := by decide
  cases x <;> cases y
  · simpa using two false
  · rw [lt_head k1, decide_eq_true k2]
    simp
  · rw [lt_head k1.symm, decide_eq_false k3]
    simp
  · simpa using two true
def slE : Emb Sl where
  f := sP
  inj _ _ h := sP_inj h
  n := 1
  nice _ := rfl
  hn := by decide
  like a b := like_tup (by
    show PySem.W.alikeAll [.str _, .str _] [.str _, .str _] = true
    simp [PySem.W.alikeAll, PySem.W.alike])
  flat := .inl fun _ => rfl
  trans _ _ _ := pd_le_trans
  total := fun a b => pd_le_total _ _
  anti a b h1 h2 := by
    unfold PD.le at h1 h2
    simp only [Bool.not_eq_true', ← Bool.not_eq_true] at h1 h2
    rw [sP_lt] at h1 h2
    obtain ⟨x, a⟩ := a
    obtain ⟨y, b⟩ := b
    simp only [not_or, not_and] at h1 h2
    have hxy : x = y := by
      cases x <;> cases y <;> simp_all
    subst hxy
    have e : a = b := Decidable.byContradiction fun z => (cs_total z).elim (fun q => h2.2 rfl q) (fun q => h1.2 rfl q)
    rw [e]
def slK : Kys Sl where
  g := sP
  inj a b h := sP_inj (nk_inj (sP_dat a) (sP_dat b) h)
  tk a := by
    simp [isTK, sP, nk, nks, NestedKey.depth, NestedKey.depthAll]
/-- slots in order, each once -/
def Asc (sl : List Sl) : Prop := sl.Pairwise fun a b => slE.le a b = true ∧ a ≠ b
theorem Asc.filter {sl : List Sl} (h : Asc sl) (p : Sl → Bool) : Asc (sl.filter p) := List.Pairwise.sublist List.filter_sublist h
theorem Asc.nodup {sl : List Sl} (h : Asc sl) : sl.Nodup := h.imp fun z => z.2
/-! ### states -/
def un : PD := .tup []
def live (sl : List Sl) (f : Sl → PD) : List Sl := sl.filter fun s => decide (f s ≠ un)
def paks (sl : List Sl) (f : Sl → PD) : List Sl := (live sl f).filter fun s => !s.1
def pcs (sl : List Sl) (f : Sl → PD) : List Sl := (live sl f).filter fun s => s.1
def pair (f : Sl → PD) (s : Sl) : PD := .tup [.str s.2, f s]
def plc (sl : List Sl) (f : Sl → PD) : PD := .tup [.tup ((paks sl f).map f), .tup ((pcs sl f).map (pair f))]
structure Thg (s : Sl) (x : PD) : Prop where
  form : x = un ∨ (s.1 = false ∧ ∃ r, x = .tup (.str s.2 :: r)) ∨ (s.1 = true ∧ ∃ m, x = .str m)
  dat : x.dat = true
  nice : x.nice 30 = true
  wt : x.wt ≤ 100
def Sts (sl : List Sl) (f : Sl → PD) : Prop := ∀ s ∈ sl, Thg s (f s)
theorem mem_live {sl : List Sl} {f : Sl → PD} {s : Sl} : s ∈ live sl f ↔ s ∈ sl ∧ f s ≠ un := by simp [live]
theorem mem_paks {sl : List Sl} {f : Sl → PD} {s : Sl} : s ∈ paks sl f ↔ s ∈ sl ∧ f s ≠ un ∧ s.1 = false := by simp [paks, mem_live, and_assoc]
theorem mem_pcs {sl : List Sl} {f : Sl → PD} {s : Sl} : s ∈ pcs sl f ↔ s ∈ sl ∧ f s ≠ un ∧ s.1 = true := by simp [pcs, mem_live, and_assoc]
theorem paks_form {sl : List Sl} {f : Sl → PD} (h : Sts sl f) {s : Sl} (hs : s ∈ paks sl f) : s = (false, s.2) ∧ ∃ r, f s = .tup (.str s.2 :: r) := by
  obtain ⟨h1, h2, h3⟩ := mem_paks.mp hs
  refine ⟨Prod.ext h3 rfl, ?_⟩
  rcases (h s h1).form with z | ⟨_, z⟩ | ⟨z, _⟩
  · exact absurd z h2
  · exact z
  · rw [h3] at z; cases z
theorem pcs_form {sl : List Sl} {f : Sl → PD} (h : Sts sl f) {s : Sl} (hs : s ∈ pcs sl f) : s = (true, s.2) ∧ ∃ m, f s = .str m := by
  obtain ⟨h1, h2, h3⟩ := mem_pcs.mp hs
  refine ⟨Prod.ext h3 rfl, ?_⟩
  rcases (h s h1).form with z | ⟨z, _⟩ | ⟨_, z⟩
  · exact absurd z h2
  · rw [h3] at z; cases z
  · exact z
/-- changes: for a slot what it begins with and what it ends with -/
abbrev Chg := Sl → Option (PD × PD)
abbrev Row := Sl × PD × PD
def rows (sl : List Sl) (c : Chg) : List Row := sl.filterMap fun s => (c s).map fun p => (s, p.1, p.2)
def row (r : Row) : PD := .tup [sP r.1, r.2.1, r.2.2]
def chg (sl : List Sl) (c : Chg) : PD := .tup ((rows sl c).map row)
def dfc (f g : Sl → PD) : Chg := fun s => if f s ≠ g s then some (f s, g s) else none
theorem mem_rows {sl : List Sl} {c : Chg} {r : Row} : r ∈ rows sl c ↔ r.1 ∈ sl ∧ c r.1 = some r.2 := by
  unfold rows
  rw [List.mem_filterMap]
  constructor
  · rintro ⟨s, hs, e⟩
    obtain ⟨p, hp, rfl⟩ := Option.map_eq_some_iff.mp e
    exact ⟨hs, hp⟩
  · rintro ⟨hs, e⟩
    exact ⟨r.1, hs, by rw [e]; rfl⟩
theorem rows_len (sl : List Sl) (c : Chg) : (rows sl c).length ≤ sl.length := List.length_filterMap_le _ _
theorem rows_keys {sl : List Sl} (h : sl.Nodup) (c : Chg) : ((rows sl c).map (·.1)).Nodup := by
  induction sl with
  | nil => exact List.nodup_nil
  | cons s sl ih =>
    have hs := (List.nodup_cons.mp h)
    have ih' := ih hs.2
    unfold rows at ih' ⊢
    rw [List.filterMap_cons]
    cases q : c s with
    | none => simpa [q] using ih'
    | some p =>
      simp only [q, Option.map_some, List.map_cons]
      refine List.nodup_cons.mpr ⟨fun z => ?_, ih'⟩
      obtain ⟨r, hr, e⟩ := List.mem_map.mp z
      have := (mem_rows (sl := sl) (c := c)).mp hr
      exact hs.1 (by rw [← e]; exact this.1)
/-! ### the law's comparison -/
theorem enot1 {M : Mo} {ρ : Nv} {S S1 : Sto} {a : E} (h : evE M a ρ S = .ok (.p (.bl true)) S1) : evE M (.no a) ρ S = .ok (.p (.bl false)) S1 := enot h
theorem enot0 {M : Mo} {ρ : Nv} {S S1 : Sto} {a : E} (h : evE M a ρ S = .ok (.p (.bl false)) S1) : evE M (.no a) ρ S = .ok (.p (.bl true)) S1 := enot h
theorem ne_nice {n k : Nat} {x y : PD} {S : Sto} (hx : x.nice n = true) (hy : y.nice k = true) (hn : n ≤ 64) : cmpI .NotEq (.p x) (.p y) S = .ok (.p (.bl (!decide (x = y)))) S := ne_of (eqI_p hx hy hn)
theorem ne_self {n : Nat} {x : PD} {S : Sto} (hx : x.nice n = true) (hn : n ≤ 64) : cmpI .NotEq (.p x) (.p x) S = .ok (.p (.bl false)) S := (ne_nice hx hx hn).trans (by simp)
theorem ne_same (i : Int) {S : Sto} : cmpI .NotEq (.p (.int i)) (.p (.int i)) S = .ok (.p (.bl false)) S := (ne_int ..).trans (by simp)
def pr2 (z : PD) : PD := .tup [z, z]
theorem len_wts : ∀ zs : List PD, zs.length ≤ PD.wts zs
  | [] => by simp
  | z :: zs => by have := len_wts zs; have := wt_pos z; simp only [List.length_cons, PD.wts]; omega
abbrev sameBody : Cz := match k46_law_same.body with
  | .cons _ (.cons (.forr _ _ b) _) => b
  | _ => .nil
theorem same_loop (M : Mo) (a b : D) (w0 : List D) (m : Nat) : ∀ (ds : List D) (zs : List PD) (r : Nat) (S : Sto) (t o u : Option D), S[r]? = some (.pl (zs.map pr2)) → PD.dats zs = true → PD.wts zs < ds.length → ds.length ≤ 1000000 → m ≤ r →
    ∃ S', S'.take m = S.take m ∧ forI ⟨w0, none⟩ (.nm 3) (evCz M sameBody) ds [some a, some b, some (.ref r), t, o, u, none] S = .rt (.p (.bl true)) S'
  | [], zs, r, S, t, o, u, hr, hd, hw, hl, hm => by simp at hw
  | d :: ds, zs, r, S, t, o, u, hr, hd, hw, hl, hm => by
    have hlt : r < S.length := (List.getElem?_eq_some_iff.mp hr).1
    have ln : bltI .len [.ref r] S = .ok (.p (.int zs.length)) S := by rw [len_ref hr rfl]; simp [O.ds]
    rcases List.eq_nil_or_concat zs with rfl | ⟨zs', z, rfl⟩
    · refine ⟨S, rfl, forI_rt1 rfl rfl ?_⟩
      exact evz_end (stif1 (ecmp (eblt1 (evv rfl) ln) (ev_k ..) (eq_int ..)) (evz_end (stret (ev_k ..))))
    · rw [List.concat_eq_append] at *
      have hdz : PD.dats zs' = true ∧ z.dat = true := by
        rw [dats_app] at hd
        simpa [PD.dats] using hd
      have hwz : PD.wts (zs' ++ [z]) = PD.wts zs' + z.wt := by rw [wts_app]; simp [PD.wts]
      -- what is left when the pair is taken
      have hpop : evE M (.mth .pop (.v 2) .nil) [some a, some b, some (.ref r), some d, o, u, none] S = .ok (.p (pr2 z)) (S.set r (.pl (zs'.map pr2))) := by
        rw [ev_mth, evv rfl, Res.bind_ok', if_pos (recv_new hr rfl rfl), evs_nil, Res.bind_ok']
        simp only [mthI, hr]
        simp
      have hr1 : (S.set r (.pl (zs'.map pr2)))[r]? = some (.pl (zs'.map pr2)) := List.getElem?_set_self hlt
      have st1 : evC M (.ite (.cmp .Eq (.blt .len (.cons (.v 2) .nil)) (.k (.int 0))) (.cons (.ret (.k (.bl true))) .nil) .nil) [some a, some b, some (.ref r), some d, o, u, none] S = .nx [some a, some b, some (.ref r), some d, o, u, none] S :=
        stif0 ((ecmp (eblt1 (evv rfl) ln) (ev_k ..) (eq_int ..)).trans (by rw [decide_eq_false (by simp; omega)]))
      have st2 : evC M (.asg (.tp [(.nm 4), (.nm 5)]) (.mth .pop (.v 2) .nil)) [some a, some b, some (.ref r), some d, o, u, none] S = .nx [some a, some b, some (.ref r), some d, some (.p z), some (.p z), none] (S.set r (.pl (zs'.map pr2))) := by
        rw [evc_asg, hpop, Res.out_ok]; rfl
      have kz : ∀ S, known (.p z) S = true := fun _ => rfl
      cases z with
      | non => cases hdz.2
      | bl _ => cases hdz.2
      | int i =>
        obtain ⟨S', et, e⟩ := same_loop M a b w0 m ds zs' r _ (some d) (some (.p (.int i))) (some (.p (.int i))) hr1 hdz.1 (by simp only [List.length_cons] at hw; rw [hwz] at hw; simp only [PD.wt] at hw; omega) (by simp only [List.length_cons] at hl; omega) hm
        refine ⟨S', et.trans (by rw [List.take_set_of_le hm]), (forI_nx1 rfl rfl ?_).trans e⟩
        refine (evz_step st1).trans ((evz_step st2).trans (evz_step ?_ |>.trans (evz_nil ..)))
        refine stif2 (eisi (evv rfl) rfl rfl) (evz_step (stif2 (eisi (evv rfl) rfl rfl) (evz_step (stif0 ?_) |>.trans (evz_nil ..))) |>.trans (evz_nil ..))
        exact eor0 (enot1 (eisi (evv rfl) rfl rfl)) (eor0 (eisi (evv rfl) rfl rfl) (ebo1 (ecmp (evv rfl) (evv rfl) (ne_same _))))
      | str i =>
        obtain ⟨S', et, e⟩ := same_loop M a b w0 m ds zs' r _ (some d) (some (.p (.str i))) (some (.p (.str i))) hr1 hdz.1 (by simp only [List.length_cons] at hw; rw [hwz] at hw; simp only [PD.wt] at hw; omega) (by simp only [List.length_cons] at hl; omega) hm
        refine ⟨S', et.trans (by rw [List.take_set_of_le hm]), (forI_nx1 rfl rfl ?_).trans e⟩
        refine (evz_step st1).trans ((evz_step st2).trans (evz_step ?_ |>.trans (evz_nil ..)))
        refine stif2 (eisi (evv rfl) rfl rfl) (evz_step (stif1 (eisi (evv rfl) rfl rfl) (evz_step (stif0 ?_) |>.trans (evz_nil ..))) |>.trans (evz_nil ..))
        exact eor0 (enot1 (eisi (evv rfl) rfl rfl)) (ebo1 (ecmp (evv rfl) (evv rfl) (ne_self (n := 0) rfl (by decide))))
      | tup xs =>
        have hxs : PD.dats xs = true := hdz.2
        have hw2 : PD.wts (zs' ++ xs) < ds.length := by rw [wts_app]; simp only [List.length_cons] at hw; rw [hwz] at hw; simp only [PD.wt] at hw; omega
        have hl2 : (zs' ++ xs).length ≤ LINE := by have := len_wts (zs' ++ xs); have : LINE = 16777216 := rfl; simp only [List.length_cons] at hl; omega
        have hx2 : xs.length ≤ LINE := by simp at hl2; omega
        generalize hS1 : S.set r (.pl (zs'.map pr2)) = S1 at hr1 st2
        have hS2 : S1.length = S.length := by rw [← hS1]; simp
        obtain ⟨S', et, e⟩ := same_loop M a b w0 m ds (zs' ++ xs) (S1.length + 1) (S1 ++ [.pl (xs.map pr2), .pl ((zs' ++ xs).map pr2)]) (some d) (some (.p (.tup xs))) (some (.p (.tup xs))) (by simp) (by rw [dats_app, hdz.1, hxs]; rfl) hw2 (by simp only [List.length_cons] at hl; omega) (by omega)
        refine ⟨S', et.trans (by rw [List.take_append_of_le_length (by omega), ← hS1, List.take_set_of_le hm]), (forI_nx1 rfl rfl ?_).trans e⟩
        refine (evz_step st1).trans ((evz_step st2).trans (evz_step ?_ |>.trans (evz_nil ..)))
        refine stif1 (eisi (evv rfl) rfl rfl) ((evz_step (S1 := S1) (stif0 ?_)).trans (evz_step (S1 := S1 ++ [.pl (xs.map pr2), .pl ((zs' ++ xs).map pr2)]) (stasg (ebin (S1 := S1) (S2 := S1 ++ [.pl (xs.map pr2)]) (d2 := .ref S1.length) (evv rfl) ?_ ?_) rfl) |>.trans (evz_nil ..)))
        · exact eor0 (enot1 (eisi (evv rfl) rfl rfl)) (ebo1 (ecmp (eblt1 (evv rfl) (len_tup ..)) (eblt1 (evv rfl) (len_tup ..)) (ne_same _)))
        · have := lc_rg (M := M) (own := [6]) (tg := .nm 6) (it := .rgL (.v 5)) (elt := .tp (.cons (.ix (.v 4) (.v 6)) (.cons (.ix (.v 5) (.v 6)) .nil))) (ρ := [some a, some b, some (.ref r), some d, some (.p (.tup xs)), some (.p (.tup xs)), none]) (S := S1) (n := xs.length) (fun k => pr2 (xs.getD k .non))
            (rgL_ev (evv rfl) (len_tup ..)) hx2 fun k hk => ⟨_, rfl, fun l => by
              have hx : ixI (.p (.tup xs)) (.p (.int (k : Int))) (S1 ++ l) = .ok (.p (xs.getD k .non)) (S1 ++ l) := ix_data (xs := xs) rfl (atI_nat (by simp [hk]))
              rw [ev_tp, es1 (eix (evv rfl) (evv rfl) hx) (es1 (eix (evv rfl) (evv rfl) hx) es0), Res.bind_ok']
              rfl⟩
          have e2 : (List.range xs.length).map (fun k => pr2 (xs.getD k .non)) = xs.map pr2 := by
            apply List.ext_getElem?
            intro i
            by_cases hi : i < xs.length
            · simp [hi]
            · simp [hi]
          rw [e2] at this
          exact this
        · rw [bin_addL (a := zs'.map pr2) (b := xs.map pr2) (pre_get hr1) (by simp) (by simpa using hl2)]
          simp
theorem same_ok {j : Nat} {x : PD} {S : Sto} (hd : x.dat = true) (hw : x.wt ≤ 900000) : C46 (j + 1) 17 [.p x, .p x] S = .ok (.p (.bl true)) S := by
  refine call_of (e := k46_E_law_same) rfl rfl ?_
  have hrg : evW (M46 j) (.rg1 (.k (.int 1000000))) [some (.p x), some (.p x), some (.ref S.length), none, none, none, none] (S ++ [.pl [pr2 x]]) = .ok ⟨rgS 0 1 1000000, none⟩ (S ++ [.pl [pr2 x]]) := rg1_nat (n := 1000000) (ev_k ..) (Nat.le_refl _)
  have hlen : (rgS 0 1 1000000).length = 1000000 := rgS_len 0 1 1000000
  generalize rgS 0 1 1000000 = ds0 at hrg hlen
  obtain ⟨S', et, e⟩ := same_loop (M46 j) (.p x) (.p x) ds0 S.length ds0 [x] S.length (S ++ [.pl [pr2 x]]) none none none (by simp) (by simp [PD.dats, hd]) (by rw [hlen]; simp only [PD.wts]; omega) (by rw [hlen]; exact Nat.le_refl _) (Nat.le_refl _)
  refine runB_rt (d := .p (.bl true)) (S' := S') ?_ ?_
  · refine (evz_step (ρ1 := [some (.p x), some (.p x), some (.ref S.length), none, none, none, none]) (S1 := S ++ [.pl [pr2 x]]) (stasg ?_ rfl)).trans (evz_end (stfor hrg e))
    rw [ev_ls, es1 ((ev_tp _).trans (by rw [es1 (evv rfl) (es1 (evv rfl) es0), Res.bind_ok'])) es0, Res.bind_ok']
    rfl
  · unfold tidy
    rw [if_pos (.inl (by rw [et]; simp))]
    rw [et]; simp
end PH

set_option maxHeartbeats 4000000
/-! k46: the program's walk: slots of a place, the difference between two. -/
namespace PH
open L2 PySem PySem.Spec PyProof.Rows
section
variable {M : Mo} {ρ : Nv} {S S1 S2 S3 : Sto} {x y z : PD} {a b c : E}
theorem etp0 : evE M (.tp .nil) ρ S = .ok (.p un) S := by rw [ev_tp, evs_nil, Res.bind_ok']; rfl
theorem etp1 (h1 : evE M a ρ S = .ok (.p x) S1) : evE M (.tp (.cons a .nil)) ρ S = .ok (.p (.tup [x])) S1 := by rw [ev_tp, es1 h1 es0, Res.bind_ok']; rfl
theorem etp2 (h1 : evE M a ρ S = .ok (.p x) S1) (h2 : evE M b ρ S1 = .ok (.p y) S2) : evE M (.tp (.cons a (.cons b .nil))) ρ S = .ok (.p (.tup [x, y])) S2 := by rw [ev_tp, es1 h1 (es1 h2 es0), Res.bind_ok']; rfl
theorem etp3 (h1 : evE M a ρ S = .ok (.p x) S1) (h2 : evE M b ρ S1 = .ok (.p y) S2) (h3 : evE M c ρ S2 = .ok (.p z) S3) : evE M (.tp (.cons a (.cons b (.cons c .nil)))) ρ S = .ok (.p (.tup [x, y, z])) S3 := by rw [ev_tp, es1 h1 (es1 h2 (es1 h3 es0)), Res.bind_ok']; rfl
theorem els0 : evE M (.ls .nil) ρ S = .ok (.ref S.length) (S ++ [.pl []]) := by rw [ev_ls, evs_nil, Res.bind_ok']; rfl
theorem ix_tup {xs : List PD} {i : Nat} (h : xs[i]? = some x) : ixI (.p (.tup xs)) (.p (.int (i : Int))) S = .ok (.p x) S := ix_data (xs := xs) rfl (atI_nat h)
theorem eix_k {xs : List PD} {i : Nat} (h1 : evE M a ρ S = .ok (.p (.tup xs)) S1) (h : xs[i]? = some x) : evE M (.ix a (.k (.int (i : Int)))) ρ S = .ok (.p x) S1 := eix h1 (ev_k ..) (ix_tup h)
theorem stretT {xs : List PD} {n : Nat} (h : evE M a ρ S = .ok (.ref n) S1) (h2 : dataOf (.ref n) S1 = some xs) : evC M (.ret (.blt .tuple (.cons a .nil))) ρ S = .rt (.p (.tup xs)) S1 := stret (eblt1 h (tuple_ev h2))
theorem tidy_o {o : O} : tidy S (S ++ [o]) (.ref S.length) = .ok (.ref S.length) (S ++ [o]) := by
  unfold tidy
  simp
  cases o <;> simp
theorem data_pl {n : Nat} {xs : List PD} (h : S[n]? = some (.pl xs)) : dataOf (.ref n) S = some xs := by simp only [dataOf, h]
/-- a walk over a row of data -/
theorem wof {xs : List PD} (h : evE M a ρ S = .ok (.p (.tup xs)) S1) : evW M (.of a) ρ S = .ok ⟨xs.map .p, none⟩ S1 := of_ev h (wk_tup _)
end
/-- a way out of a loop -/
def Out.isE : Out → Prop
  | .rt _ _ => True
  | .exc _ _ _ => True
  | _ => False
/-- a loop over a row of data; it may return or raise -/
theorem forTX {α : Type} {tg : Tg} {body : Nv → Sto → Out} (h : α → PD) (w0 : List D) (R : Out → Prop) (P : List α → Nv → Sto → Prop) (xs : List α)
    (h1 : ∀ ps x qs ρ S, xs = ps ++ x :: qs → P ps ρ S → ∃ ρ1, asgT tg (.p (h x)) ρ = some ρ1 ∧ ((∃ ρ2 S2, body ρ1 S = .nx ρ2 S2 ∧ P (ps ++ [x]) ρ2 S2) ∨ ((body ρ1 S).isE ∧ R (body ρ1 S)))) :
    ∀ (qs ps : List α) (ρ : Nv) (S : Sto), xs = ps ++ qs → P ps ρ S → (∃ ρ' S', forI ⟨w0, none⟩ tg body ((qs.map h).map .p) ρ S = .nx ρ' S' ∧ P xs ρ' S') ∨ ∃ o, forI ⟨w0, none⟩ tg body ((qs.map h).map .p) ρ S = o ∧ R o
  | [], ps, ρ, S, e, hp => by
    rw [List.append_nil] at e
    subst e
    exact .inl ⟨ρ, S, by rw [List.map_nil, List.map_nil]; unfold forI; rfl, hp⟩
  | x :: qs, ps, ρ, S, e, hp => by
    obtain ⟨ρ1, ha, hb⟩ := h1 ps x qs ρ S e hp
    rw [List.map_cons, List.map_cons]
    rcases hb with ⟨ρ2, S2, hb, hp2⟩ | ⟨he, hr⟩
    · rw [forI_nx1 rfl ha hb]
      exact forTX h w0 R P xs h1 qs (ps ++ [x]) ρ2 S2 (by rw [e]; simp) hp2
    · refine .inr ⟨body ρ1 S, ?_, hr⟩
      cases q : body ρ1 S with
      | rt d S2 => exact forI_rt1 rfl ha q
      | exc z ρ2 S2 => exact forI_exc1 rfl ha q
      | _ => rw [q] at he; exact he.elim
theorem forT {α : Type} {tg : Tg} {body : Nv → Sto → Out} {ρ : Nv} {S : Sto} (h : α → PD) (w0 : List D) (P : List α → Nv → Sto → Prop) (xs : List α)
    (h1 : ∀ ps x qs ρ S, xs = ps ++ x :: qs → P ps ρ S → ∃ ρ1, asgT tg (.p (h x)) ρ = some ρ1 ∧ ∃ ρ2 S2, body ρ1 S = .nx ρ2 S2 ∧ P (ps ++ [x]) ρ2 S2) (h0 : P [] ρ S) :
    ∃ ρ' S', forI ⟨w0, none⟩ tg body ((xs.map h).map .p) ρ S = .nx ρ' S' ∧ P xs ρ' S' := by
  rcases forTX h w0 (fun _ => False) P xs (fun ps x qs ρ S e hp => let ⟨ρ1, a, b⟩ := h1 ps x qs ρ S e hp; ⟨ρ1, a, .inl b⟩) xs [] ρ S rfl h0 with z | ⟨_, _, z⟩
  · exact z
  · exact z.elim
/-- the dict of a place's slots -/
def sth (f : Sl → PD) : Sl → D := fun s => .p (f s)
def ord (sl : List Sl) (f : Sl → PD) : List Sl := paks sl f ++ pcs sl f
theorem mem_ord {sl : List Sl} {f : Sl → PD} {s : Sl} : s ∈ ord sl f ↔ s ∈ sl ∧ f s ≠ un := by
  unfold ord
  rw [List.mem_append, mem_paks, mem_pcs]
  cases s.1 <;> simp
theorem ord_nodup {sl : List Sl} {f : Sl → PD} (h : Asc sl) : (ord sl f).Nodup := by
  unfold ord
  rw [List.nodup_append]
  refine ⟨((h.filter _).filter _).nodup, ((h.filter _).filter _).nodup, fun a ha b hb e => ?_⟩
  have h1 := (mem_paks.mp ha).2.2
  have h2 := (mem_pcs.mp hb).2.2
  rw [e, h2] at h1; cases h1
theorem paks_nodup {sl : List Sl} {f : Sl → PD} (h : Asc sl) : (paks sl f).Nodup := ((h.filter _).filter _).nodup
theorem pcs_nodup {sl : List Sl} {f : Sl → PD} (h : Asc sl) : (pcs sl f).Nodup := ((h.filter _).filter _).nodup
theorem ord_len {sl : List Sl} {f : Sl → PD} : (ord sl f).length ≤ 2 * sl.length := by
  unfold ord paks pcs live
  have h1 := List.length_filter_le (fun s => decide (f s ≠ un)) sl
  have h2 := List.length_filter_le (fun s : Sl => !s.1) (sl.filter fun s => decide (f s ≠ un))
  have h3 := List.length_filter_le (fun s : Sl => s.1) (sl.filter fun s => decide (f s ≠ un))
  rw [List.length_append]
  omega
variable {sl : List Sl} {f g : Sl → PD} {S : Sto} {j : Nat}
theorem merged_ok {d : D} {xs : List Sl} (h : dataOf d S = some (xs.map sP)) (hl : xs.length ≤ 10000) : C46 (j + 1) 0 [d] S = .ok (.p (.tup ((gset slE xs).map sP))) S := call_of (e := k46_E_merged) rfl rfl (merged_run slE (M46 j) h hl)
theorem things_ok (asc : Asc sl) (hl : sl.length ≤ 1000) (hf : Sts sl f) : C46 (j + 1) 1 [.p (plc sl f)] S = .ok (.ref S.length) (S ++ [.dt (kvOf slK (ord sl f) (sth f))]) := by
  refine call_of (e := k46_E_slot_things) rfl rfl (runB_rt (d := .ref S.length) (S' := S ++ [.dt (kvOf slK (ord sl f) (sth f))]) ?_ tidy_o)
  have hlen := ord_len (sl := sl) (f := f)
  have hl' : (paks sl f).length + (pcs sl f).length ≤ 2 * sl.length := by unfold ord at hlen; simpa using hlen
  refine (evz_step (ρ1 := [some (.p (plc sl f)), some (.ref S.length), none, none, none]) (S1 := S ++ [.dt (kvOf slK (paks sl f) (sth f))]) (stasg ?_ rfl)).trans ?_
  · have := dcm_ev (Y := slK) (M := M46 j) (own := [2]) (tg := .nm 2) (it := .of (.ix (.v 0) (.k (.int 0)))) (kx := .tp (.cons (.k (.str [112, 97, 99, 107, 97, 103, 101])) (.cons (.ix (.v 2) (.k (.int 0))) .nil))) (vx := .v 2)
      (ρ := [some (.p (plc sl f)), none, none, none, none]) (S := S) (w := ⟨((paks sl f).map f).map .p, none⟩) (S1 := S) (fun s => D.p (f s)) (fun s => s) (sth f) (paks sl f) (wof (eix_k (i := 0) (evv rfl) rfl)) (by have : LINE = 16777216 := rfl; omega) (by simp) (fun _ => rfl) (by rw [List.map_id']; exact paks_nodup asc)
      (fun s hs => ⟨_, rfl, fun l => by
        obtain ⟨e1, r, e2⟩ := paks_form hf hs
        have hk : slK.g s = .tup [.str [112, 97, 99, 107, 97, 103, 101], .str s.2] := by rw [e1]; rfl
        refine ⟨?_, evv rfl⟩
        rw [hk]
        exact etp2 (ev_k ..) (eix_k (i := 0) (evv (by rw [e2]; rfl)) rfl)⟩)
    rw [List.map_id'] at this
    exact this
  · obtain ⟨ρ', S', e, a, b, rfl, rfl⟩ := forT (tg := .tp [.nm 3, .nm 4]) (body := evCz (M46 j) (.cons (.dsu (.v 1) (.tp (.cons (.k (.str [112, 105, 101, 99, 101])) (.cons (.v 3) .nil))) (.v 4)) .nil)) (ρ := [some (.p (plc sl f)), some (.ref S.length), none, none, none]) (S := S ++ [.dt (kvOf slK (paks sl f) (sth f))])
      (pair f) (((pcs sl f).map (pair f)).map .p) (fun ps ρ T => ∃ a b, ρ = [some (.p (plc sl f)), some (.ref S.length), none, a, b] ∧ T = S ++ [.dt (kvOf slK (paks sl f ++ ps) (sth f))]) (pcs sl f)
      (by
        rintro ps x qs _ _ hx ⟨a, b, rfl, rfl⟩
        have hxm : x ∈ pcs sl f := by rw [hx]; simp
        obtain ⟨e1, m, e2⟩ := pcs_form hf hxm
        have hk : slK.g x = .tup [.str [112, 105, 101, 99, 101], .str x.2] := by rw [e1]; rfl
        have nd := ord_nodup (f := f) asc
        unfold ord at nd
        have hn : x ∉ paks sl f ++ ps := fun z => by
          rw [hx, ← List.append_assoc, List.nodup_append] at nd
          exact nd.2.2 _ z _ List.mem_cons_self rfl
        have hlp : (paks sl f ++ ps).length < LINE := by
          rw [hx] at hl'
          simp only [List.length_append, List.length_cons] at hl' ⊢
          have : LINE = 16777216 := rfl
          omega
        have hput := dput_new (Y := slK) (S := S ++ [.dt (kvOf slK (paks sl f ++ ps) (sth f))]) (n := S.length) (F := sth f) (by simp) hlp hn
        rw [hk] at hput
        refine ⟨[some (.p (plc sl f)), some (.ref S.length), none, some (.p (.str x.2)), some (.p (f x))], rfl, [some (.p (plc sl f)), some (.ref S.length), none, some (.p (.str x.2)), some (.p (f x))], _, (evz_step (stdsu (evv rfl) (evv rfl) (etp2 (ev_k ..) (evv rfl)) hput)).trans (evz_nil ..), _, _, rfl, ?_⟩
        simp)
      ⟨none, none, rfl, by simp⟩
    exact (evz_step (ρ1 := [some (.p (plc sl f)), some (.ref S.length), none, a, b]) (S1 := S ++ [.dt (kvOf slK (paks sl f ++ pcs sl f) (sth f))]) (stfor (wof (eix_k (i := 1) (evv rfl) rfl)) e)).trans (evz_end (stret (evv rfl)))
end PH

set_option maxHeartbeats 4000000
/-! k46: the program's walk: the difference between two places, turned round, joined. -/
namespace PH
open L2 PySem PySem.Spec PyProof.Rows
theorem rows_snoc (ps : List Sl) (x : Sl) (c : Chg) : rows (ps ++ [x]) c = rows ps c ++ ((c x).map fun p => (x, p.1, p.2)).toList := by
  unfold rows
  rw [List.filterMap_append]
  cases q : c x <;> simp [q]
theorem rows_filter (l : List Sl) (c : Chg) : rows l c = rows (l.filter fun s => (c s).isSome) c := by
  unfold rows
  induction l with
  | nil => rfl
  | cons s l ih =>
    rw [List.filterMap_cons, List.filter_cons]
    cases q : c s with
    | none => simpa [q] using ih
    | some p => simp [q, ih]
theorem rows_ext {l1 l2 : List Sl} (a1 : Asc l1) (a2 : Asc l2) {c : Chg} (h : ∀ s, (c s).isSome = true → (s ∈ l1 ↔ s ∈ l2)) : rows l1 c = rows l2 c := by
  rw [rows_filter l1, rows_filter l2]
  congr 1
  refine strict_ext slE (a1.filter _) (a2.filter _) fun s => ?_
  simp only [List.mem_filter]
  constructor <;> rintro ⟨z1, z2⟩ <;> refine ⟨?_, z2⟩
  · exact (h s z2).mp z1
  · exact (h s z2).mpr z1
theorem gset_asc (xs : List Sl) : Asc (gset slE xs) := gset_strict slE xs
theorem set3 {S : Sto} {a b c y : O} {l : Sto} : (S ++ (a :: b :: c :: l)).set (S.length + 2) y = S ++ (a :: b :: y :: l) := by simp
section
variable {sl : List Sl} {f g : Sl → PD} {S : Sto} {j : Nat}
theorem ordIff (hs : Sl) (h : hs ∈ sl) : hs ∈ ord sl f ↔ f hs ≠ un := by rw [mem_ord]; simp [h]
/-- list(d1) + list(d2), merged -/
theorem both_ok {M : Mo} {ρ : Nv} {T : Sto} {a b : E} {n1 n2 : Nat} {k1 k2 : List Sl} {F1 F2 : Sl → D} (hM : ∀ d T, (dataOf d T = some ((k1 ++ k2).map sP)) → M.call 0 [d] T = .ok (.p (.tup ((gset slE (k1 ++ k2)).map sP))) T)
    (h1 : DicAt slK T n1 k1 F1) (h2 : DicAt slK T n2 k2 F2) (ha : ∀ l, evE M a ρ (T ++ l) = .ok (.ref n1) (T ++ l)) (hb : ∀ l, evE M b ρ (T ++ l) = .ok (.ref n2) (T ++ l)) (hl : k1.length + k2.length ≤ 10000) :
    evW M (.of (.call 0 (.cons (.bin .Add (.blt .list (.cons a .nil)) (.blt .list (.cons b .nil))) .nil))) ρ T = .ok ⟨((gset slE (k1 ++ k2)).map sP).map .p, none⟩ (T ++ [.pl (k1.map sP), .pl (k2.map sP), .pl ((k1 ++ k2).map sP)]) := by
  have e1 := ha []
  rw [List.append_nil] at e1
  refine wof (ecall1 (d1 := .ref (T.length + 2)) (S1 := T ++ [.pl (k1.map sP), .pl (k2.map sP), .pl ((k1 ++ k2).map sP)]) ?_ (hM _ _ (data_pl (by simp))))
  refine ebin (eblt1 e1 h1.list) (eblt1 (hb _) (h2.app _).list) ?_
  rw [bin_addL (a := k1.map sP) (b := k2.map sP) (by simp [slK]) (by simp [slK]) (by simp; have : LINE = 16777216 := rfl; omega)]
  simp [slK]
theorem between_ok (asc : Asc sl) (hl : sl.length ≤ 1000) (hf : Sts sl f) (hg : Sts sl g) : C46 (j + 2) 2 [.p (plc sl f), .p (plc sl g)] S = .ok (.p (chg sl (dfc f g))) S := by
  have l1 := ord_len (sl := sl) (f := f)
  have l2 := ord_len (sl := sl) (f := g)
  refine call_of (e := k46_E_difference_between) rfl rfl ?_
  generalize hA : O.dt (kvOf slK (ord sl f) (sth f)) = A
  generalize hB : O.dt (kvOf slK (ord sl g) (sth g)) = B
  have t1 : C46 (j + 1) 1 [.p (plc sl f)] S = .ok (.ref S.length) (S ++ [A]) := by rw [← hA]; exact things_ok asc hl hf
  have t2 : C46 (j + 1) 1 [.p (plc sl g)] (S ++ [A]) = .ok (.ref (S.length + 1)) (S ++ [A, B]) := by
    rw [← hB]
    have := things_ok (S := S ++ [A]) (j := j) asc hl hg
    simpa using this
  have dA : ∀ l, DicAt slK (S ++ (A :: B :: l)) S.length (ord sl f) (sth f) := fun l => .inl (by rw [← hA]; simp)
  have dB : ∀ l, DicAt slK (S ++ (A :: B :: l)) (S.length + 1) (ord sl g) (sth g) := fun l => .inl (by rw [← hB]; simp)
  generalize hxs : gset slE (ord sl f ++ ord sl g) = xs
  have hmem : ∀ s, s ∈ xs ↔ s ∈ sl ∧ (f s ≠ un ∨ g s ≠ un) := fun s => by
    rw [← hxs, mem_gset, List.mem_append, mem_ord, mem_ord]
    constructor
    · rintro (⟨z1, z2⟩ | ⟨z1, z2⟩)
      · exact ⟨z1, .inl z2⟩
      · exact ⟨z1, .inr z2⟩
    · rintro ⟨z1, z2 | z2⟩
      · exact .inl ⟨z1, z2⟩
      · exact .inr ⟨z1, z2⟩
  have hxl : xs.length ≤ 10000 := by rw [← hxs]; exact Nat.le_trans (gset_len slE _) (by simp; omega)
  generalize hR : ([.pl ((ord sl f).map sP), .pl ((ord sl g).map sP), .pl ((ord sl f ++ ord sl g).map sP)] : Sto) = R
  have hw : evW (M46 (j + 1)) (.of (.call 0 (.cons (.bin .Add (.blt .list (.cons (.v 2) .nil)) (.blt .list (.cons (.v 3) .nil))) .nil))) [some (.p (plc sl f)), some (.p (plc sl g)), some (.ref S.length), some (.ref (S.length + 1)), some (.ref (S.length + 2)), none] (S ++ [A, B, .pl []])
      = .ok ⟨(xs.map sP).map .p, none⟩ (S ++ (A :: B :: .pl [] :: R)) := by
    have := both_ok (M := M46 (j + 1)) (ρ := [some (.p (plc sl f)), some (.p (plc sl g)), some (.ref S.length), some (.ref (S.length + 1)), some (.ref (S.length + 2)), none]) (T := S ++ [A, B, .pl []]) (a := .v 2) (b := .v 3) (fun d T h => merged_ok h (by simp; omega)) (dA [.pl []]) (dB [.pl []]) (fun l => evv rfl) (fun l => evv rfl) (by omega)
    rw [hxs, hR] at this
    rw [this]
    simp
  obtain ⟨ρ', S', e, a, rfl, rfl⟩ := forT (tg := .nm 5) (body := evCz (M46 (j + 1)) (.cons (.ite (.cmp .NotEq (.dg1 (.v 2) (.v 5)) (.dg1 (.v 3) (.v 5))) (.cons (.ex (.mth .append (.v 4) (.cons (.tp (.cons (.v 5) (.cons (.dg2 (.v 2) (.v 5) (.tp .nil)) (.cons (.dg2 (.v 3) (.v 5) (.tp .nil)) .nil)))) .nil))) .nil) .nil) .nil))
    (ρ := [some (.p (plc sl f)), some (.p (plc sl g)), some (.ref S.length), some (.ref (S.length + 1)), some (.ref (S.length + 2)), none]) (S := S ++ (A :: B :: .pl [] :: R)) sP ((xs.map sP).map .p)
    (fun ps ρ T => ∃ a, ρ = [some (.p (plc sl f)), some (.p (plc sl g)), some (.ref S.length), some (.ref (S.length + 1)), some (.ref (S.length + 2)), a] ∧ T = S ++ (A :: B :: .pl ((rows ps (dfc f g)).map row) :: R)) xs
    (by
      rintro ps x qs _ _ hx ⟨a, rfl, rfl⟩
      have hxm : x ∈ sl := ((hmem x).mp (by rw [hx]; simp)).1
      generalize hT : S ++ (A :: B :: .pl ((rows ps (dfc f g)).map row) :: R) = T
      have dA' : DicAt slK T S.length (ord sl f) (sth f) := by rw [← hT]; exact dA _
      have dB' : DicAt slK T (S.length + 1) (ord sl g) (sth g) := by rw [← hT]; exact dB _
      have gA : ∀ z : PD, dGet2 (.ref S.length) (.p (sP x)) (.p z) T = .ok (.p (if f x ≠ un then f x else z)) T := fun z => by
        have := dA'.get2 x (.p z)
        rw [show sP x = slK.g x from rfl, this]
        by_cases q : f x = un
        · rw [if_neg (by rw [ordIff x hxm]; simp [q]), if_neg (by simp [q])]
        · rw [if_pos ((ordIff x hxm).mpr q), if_pos q]; rfl
      have gB : ∀ z : PD, dGet2 (.ref (S.length + 1)) (.p (sP x)) (.p z) T = .ok (.p (if g x ≠ un then g x else z)) T := fun z => by
        have := dB'.get2 x (.p z)
        rw [show sP x = slK.g x from rfl, this]
        by_cases q : g x = un
        · rw [if_neg (by rw [ordIff x hxm]; simp [q]), if_neg (by simp [q])]
        · rw [if_pos ((ordIff x hxm).mpr q), if_pos q]; rfl
      refine ⟨[some (.p (plc sl f)), some (.p (plc sl g)), some (.ref S.length), some (.ref (S.length + 1)), some (.ref (S.length + 2)), some (.p (sP x))], rfl, [some (.p (plc sl f)), some (.p (plc sl g)), some (.ref S.length), some (.ref (S.length + 1)), some (.ref (S.length + 2)), some (.p (sP x))], ?_⟩
      have nf := (hf x hxm).nice
      have ng := (hg x hxm).nice
      have nv : ∀ (u : PD), u.nice 30 = true → (if u ≠ un then u else PD.non).nice 30 = true := fun u hu => by split <;> first | exact hu | rfl
      have ev : evE (M46 (j + 1)) (.cmp .NotEq (.dg1 (.v 2) (.v 5)) (.dg1 (.v 3) (.v 5))) [some (.p (plc sl f)), some (.p (plc sl g)), some (.ref S.length), some (.ref (S.length + 1)), some (.ref (S.length + 2)), some (.p (sP x))] T = .ok (.p (.bl (!decide ((if f x ≠ un then f x else PD.non) = if g x ≠ un then g x else PD.non)))) T :=
        ecmp (edg1 (evv rfl) dA'.recv (evv rfl) (gA .non)) (edg1 (evv rfl) dB'.recv (evv rfl) (gB .non)) (ne_nice (nv _ nf) (nv _ ng) (by decide))
      by_cases q : f x = g x
      · refine ⟨T, (evz_step (stif0 (ev.trans (by rw [q]; simp)))).trans (evz_nil ..), _, rfl, ?_⟩
        rw [← hT, rows_snoc]
        simp [dfc, q]
      · have hne : ¬ (if f x ≠ un then f x else PD.non) = if g x ≠ un then g x else PD.non := by
          intro z
          by_cases u1 : f x = un <;> by_cases u2 : g x = un
          · exact q (u1.trans u2.symm)
          · rw [if_neg (by simp [u1]), if_pos u2] at z
            rcases (hg x hxm).form with y | ⟨_, r, y⟩ | ⟨_, r, y⟩ <;> rw [y] at z <;> cases z
          · rw [if_pos u1, if_neg (by simp [u2])] at z
            rcases (hf x hxm).form with y | ⟨_, r, y⟩ | ⟨_, r, y⟩ <;> rw [y] at z <;> cases z
          · rw [if_pos u1, if_pos u2] at z; exact q z
        have vA : (if f x ≠ un then f x else un) = f x := by split <;> simp_all
        have vB : (if g x ≠ un then g x else un) = g x := by split <;> simp_all
        have hlen : ((rows ps (dfc f g)).map row).length < LINE := by
          have := rows_len ps (dfc f g)
          have : ps.length ≤ xs.length := by rw [hx]; simp
          have : LINE = 16777216 := rfl
          simp only [List.length_map]; omega
        have ht : T[S.length + 2]? = some (.pl ((rows ps (dfc f g)).map row)) := by rw [← hT]; simp
        refine ⟨T.set (S.length + 2) (.pl ((rows ps (dfc f g)).map row ++ [row (x, f x, g x)])), (evz_step (stif1 (ev.trans (by rw [decide_eq_false hne]; rfl)) ((evz_step (stex (d := .p .non) ?_)).trans (evz_nil ..)))).trans (evz_nil ..), _, rfl, ?_⟩
        · rw [ev_mth, evv rfl, Res.bind_ok', if_pos (recv_new ht rfl rfl), es1 (etp3 (evv rfl) (edg2 (evv rfl) dA'.recv (evv rfl) etp0 (gA un)) (edg2 (evv rfl) dB'.recv (evv rfl) etp0 (gB un))) es0, Res.bind_ok', vA, vB]
          exact app_at' ht hlen
        · rw [← hT, set3, rows_snoc]
          simp [dfc, q])
    ⟨none, rfl, by simp [rows]⟩
  refine runB_rt (d := .p (chg sl (dfc f g))) (S' := S ++ (A :: B :: .pl ((rows xs (dfc f g)).map row) :: R)) ?_ (tidy_pa _ _)
  refine (evz_step (ρ1 := [some (.p (plc sl f)), some (.p (plc sl g)), some (.ref S.length), none, none, none]) (S1 := S ++ [A]) (stasg (ecall1 (evv rfl) t1) rfl)).trans ?_
  refine (evz_step (ρ1 := [some (.p (plc sl f)), some (.p (plc sl g)), some (.ref S.length), some (.ref (S.length + 1)), none, none]) (S1 := S ++ [A, B]) (stasg (ecall1 (evv rfl) t2) rfl)).trans ?_
  refine (evz_step (ρ1 := [some (.p (plc sl f)), some (.p (plc sl g)), some (.ref S.length), some (.ref (S.length + 1)), some (.ref (S.length + 2)), none]) (S1 := S ++ [A, B, .pl []]) (stasg (els0.trans (by simp)) rfl)).trans ?_
  refine (evz_step (stfor hw e)).trans (evz_end ?_)
  have hr : rows xs (dfc f g) = rows sl (dfc f g) := rows_ext (by rw [← hxs]; exact gset_asc _) asc fun s hs => by
    rw [hmem]
    constructor
    · exact fun z => z.1
    · refine fun z => ⟨z, ?_⟩
      by_cases u1 : f s = un <;> by_cases u2 : g s = un
      · simp [dfc, u1, u2] at hs
      · exact .inr u2
      · exact .inl u1
      · exact .inl u1
  rw [hr]
  unfold chg
  exact stretT (evv rfl) (data_pl (by simp))
end
end PH

set_option maxHeartbeats 4000000
/-! k46: the program's walk: a difference turned round, two joined. -/
namespace PH
open L2 PySem PySem.Spec PyProof.Rows
/-- what comes of applying or joining: stale at a slot, or a value -/
inductive Rz where
  | stale (s : Sl) | done (x : PD)
def Rz.res (r : Rz) (S : Sto) : Res D := match r with
  | .stale s => .exc ⟨4, [("slot", .p (sP s))]⟩ S
  | .done x => .ok (.p x) S
def tStale : PD := .str [115, 116, 97, 108, 101]
def tDone : PD := .str [100, 111, 110, 101]
def Rz.pd : Rz → PD
  | .stale s => .tup [tStale, sP s]
  | .done x => .tup [tDone, x]
def sw (c : Chg) : Chg := fun s => (c s).map fun p => (p.2, p.1)
def bad (c d : Chg) (s : Sl) : Bool := match c s, d s with
  | some p, some q => decide (p.2 ≠ q.1)
  | _, _ => false
def jc (c d : Chg) : Chg := fun s => match c s, d s with
  | some p, none => some p
  | none, some q => some q
  | some p, some q => if p.1 ≠ q.2 then some (p.1, q.2) else none
  | none, none => none
def joinRz (sl : List Sl) (c d : Chg) : Rz := match sl.find? (bad c d) with
  | some s => .stale s
  | none => .done (chg sl (jc c d))
theorem rows_sw (sl : List Sl) (c : Chg) : (rows sl c).map (fun r => row (r.1, r.2.2, r.2.1)) = (rows sl (sw c)).map row := by
  unfold rows
  induction sl with
  | nil => rfl
  | cons s sl ih =>
    rw [List.filterMap_cons, List.filterMap_cons]
    cases q : c s with
    | none => simpa [q, sw] using ih
    | some p => simp [q, sw] at ih ⊢; exact ih
/-- good changes: nice data at both ends -/
def Cgs (sl : List Sl) (c : Chg) : Prop := ∀ s ∈ sl, ∀ p, c s = some p → Thg s p.1 ∧ Thg s p.2
theorem row_asg {ρ : Nv} {i j k : Nat} (r : Row) : asgT (.tp [.nm i, .nm j, .nm k]) (.p (row r)) ρ = some (((ρ.set i (some (.p (sP r.1)))).set j (some (.p r.2.1))).set k (some (.p r.2.2))) := rfl
section
variable {sl : List Sl} {c d : Chg} {S : Sto} {j : Nat}
theorem inverse_ok (hl : sl.length ≤ 1000) : C46 (j + 1) 5 [.p (chg sl c)] S = .ok (.p (chg sl (sw c))) S := by
  have hrl := rows_len sl c
  refine call_of (e := k46_E_inverse_difference) rfl rfl (runB_rt (d := .p (chg sl (sw c))) (S' := S ++ [.pl ((rows sl (sw c)).map row)]) (evz_end ?_) (tidy_pa _ _))
  have := lc_ev (M := M46 j) (own := [1, 2, 3]) (tg := .tp [.nm 1, .nm 2, .nm 3]) (it := .of (.v 0)) (elt := .tp (.cons (.v 1) (.cons (.v 3) (.cons (.v 2) .nil)))) (ρ := [some (.p (chg sl c)), none, none, none]) (S := S) (w := ⟨((rows sl c).map row).map .p, none⟩) (fun r => D.p (row r)) (fun r => row (r.1, r.2.2, r.2.1)) (rows sl c)
    (wof (evv rfl)) (by have : LINE = 16777216 := rfl; omega) (by simp) (fun _ => rfl) (fun r hr => ⟨_, row_asg r, fun l => etp3 (evv rfl) (evv rfl) (evv rfl)⟩)
  rw [rows_sw] at this
  exact stretT this (data_pl (by simp))
/-- the dict of a change: its slots, what each begins and ends with -/
def cth (c : Chg) : Sl → D := fun s => .p (match c s with
  | some p => .tup [p.1, p.2]
  | none => un)
def ckeys (sl : List Sl) (c : Chg) : List Sl := (rows sl c).map (·.1)
theorem mem_ckeys {s : Sl} : s ∈ ckeys sl c ↔ s ∈ sl ∧ (c s).isSome = true := by
  unfold ckeys
  rw [List.mem_map]
  constructor
  · rintro ⟨r, hr, rfl⟩
    obtain ⟨h1, h2⟩ := mem_rows.mp hr
    exact ⟨h1, by rw [h2]; rfl⟩
  · rintro ⟨h1, h2⟩
    obtain ⟨p, hp⟩ := Option.isSome_iff_exists.mp h2
    exact ⟨(s, p), mem_rows.mpr ⟨h1, hp⟩, rfl⟩
theorem cdict {M : Mo} {ρ : Nv} {a : E} {i1 i2 i3 : Nat} (asc : Asc sl) (hl : sl.length ≤ 1000) (ha : evE M a ρ S = .ok (.p (chg sl c)) S) (h12 : i1 ≠ i2) (h13 : i1 ≠ i3) (h23 : i2 ≠ i3) (hi : i1 < ρ.length ∧ i2 < ρ.length ∧ i3 < ρ.length) :
    evE M (.dcm true [i1, i2, i3] (.tp [.nm i1, .nm i2, .nm i3]) (.of a) (.v i1) (.tp (.cons (.v i2) (.cons (.v i3) .nil)))) ρ S = .ok (.ref S.length) (S ++ [.dt (kvOf slK (ckeys sl c) (cth c))]) := by
  have hrl := rows_len sl c
  have hw : (wipeN ρ [i1, i2, i3]).length = ρ.length := by simp [wipeN]
  exact dcm_ev (Y := slK) (w := ⟨((rows sl c).map row).map .p, none⟩) (fun r => D.p (row r)) (fun r : Row => r.1) (cth c) (rows sl c) (wof ha) (by have : LINE = 16777216 := rfl; omega) (by simp) (fun _ => rfl) (rows_keys asc.nodup c) (fun r hr => ⟨_, row_asg r, fun l => by
    obtain ⟨h1, h2⟩ := mem_rows.mp hr
    have g1 : (((wipeN ρ [i1, i2, i3]).set i1 (some (.p (sP r.1)))).set i2 (some (.p r.2.1))).set i3 (some (.p r.2.2)) = (((wipeN ρ [i1, i2, i3]).set i1 (some (.p (sP r.1)))).set i2 (some (.p r.2.1))).set i3 (some (.p r.2.2)) := rfl
    have e1 : ((((wipeN ρ [i1, i2, i3]).set i1 (some (.p (sP r.1)))).set i2 (some (.p r.2.1))).set i3 (some (.p r.2.2)))[i1]? = some (some (.p (sP r.1))) := by
      rw [List.getElem?_set_ne h13.symm, List.getElem?_set_ne h12.symm, List.getElem?_set_self (by rw [hw]; exact hi.1)]
    have e2 : ((((wipeN ρ [i1, i2, i3]).set i1 (some (.p (sP r.1)))).set i2 (some (.p r.2.1))).set i3 (some (.p r.2.2)))[i2]? = some (some (.p r.2.1)) := by
      rw [List.getElem?_set_ne h23.symm, List.getElem?_set_self (by rw [List.length_set, hw]; exact hi.2.1)]
    have e3 : ((((wipeN ρ [i1, i2, i3]).set i1 (some (.p (sP r.1)))).set i2 (some (.p r.2.1))).set i3 (some (.p r.2.2)))[i3]? = some (some (.p r.2.2)) := by
      rw [List.getElem?_set_self (by rw [List.length_set, List.length_set, hw]; exact hi.2.2)]
    have hc : cth c r.1 = .p (.tup [r.2.1, r.2.2]) := by unfold cth; rw [h2]
    rw [hc]
    exact ⟨evv e1, etp2 (evv e2) (evv e3)⟩⟩)
theorem find_filter {α : Type} (p : α → Bool) : ∀ l : List α, l.find? p = (l.filter p).head?
  | [] => rfl
  | x :: l => by
    rw [List.find?_cons, List.filter_cons]
    cases q : p x with
    | true => simp
    | false => simpa using find_filter p l
theorem find_ext {l1 l2 : List Sl} (a1 : Asc l1) (a2 : Asc l2) {p : Sl → Bool} (h : ∀ s, p s = true → (s ∈ l1 ↔ s ∈ l2)) : l1.find? p = l2.find? p := by
  rw [find_filter, find_filter]
  congr 1
  refine strict_ext slE (a1.filter _) (a2.filter _) fun s => ?_
  simp only [List.mem_filter]
  constructor <;> rintro ⟨z1, z2⟩ <;> refine ⟨?_, z2⟩
  · exact (h s z2).mp z1
  · exact (h s z2).mpr z1
theorem find_split {α : Type} {p : α → Bool} {ps qs : List α} {x : α} (h : ∀ y ∈ ps, p y = false) (hx : p x = true) : (ps ++ x :: qs).find? p = some x := by
  rw [List.find?_append, List.find?_eq_none.mpr (fun y hy => by rw [h y hy]; decide), List.find?_cons, hx]
  rfl
abbrev joinBody : Cz := match k46_joined_difference.body with
  | .cons _ (.cons _ (.cons _ (.cons (.forr _ _ b) _))) => b
  | _ => .nil
theorem joined_ok (asc : Asc sl) (hl : sl.length ≤ 1000) (hc : Cgs sl c) (hd : Cgs sl d) : C46 (j + 2) 6 [.p (chg sl c), .p (chg sl d)] S = (joinRz sl c d).res S := by
  have l1 : (ckeys sl c).length ≤ sl.length := by unfold ckeys; rw [List.length_map]; exact rows_len sl c
  have l2 : (ckeys sl d).length ≤ sl.length := by unfold ckeys; rw [List.length_map]; exact rows_len sl d
  refine call_of (e := k46_E_joined_difference) rfl rfl ?_
  generalize hA : O.dt (kvOf slK (ckeys sl c) (cth c)) = A
  generalize hB : O.dt (kvOf slK (ckeys sl d) (cth d)) = B
  have dA : ∀ l, DicAt slK (S ++ (A :: B :: l)) S.length (ckeys sl c) (cth c) := fun l => .inl (by rw [← hA]; simp)
  have dB : ∀ l, DicAt slK (S ++ (A :: B :: l)) (S.length + 1) (ckeys sl d) (cth d) := fun l => .inl (by rw [← hB]; simp)
  generalize hxs : gset slE (ckeys sl c ++ ckeys sl d) = xs
  have hmem : ∀ s, s ∈ xs ↔ s ∈ sl ∧ ((c s).isSome = true ∨ (d s).isSome = true) := fun s => by
    rw [← hxs, mem_gset, List.mem_append, mem_ckeys, mem_ckeys]
    constructor
    · rintro (⟨z1, z2⟩ | ⟨z1, z2⟩)
      · exact ⟨z1, .inl z2⟩
      · exact ⟨z1, .inr z2⟩
    · rintro ⟨z1, z2 | z2⟩
      · exact .inl ⟨z1, z2⟩
      · exact .inr ⟨z1, z2⟩
  have hxa : Asc xs := by rw [← hxs]; exact gset_asc _
  have hxl : xs.length ≤ 10000 := by rw [← hxs]; exact Nat.le_trans (gset_len slE _) (by simp; omega)
  generalize hR : ([.pl ((ckeys sl c).map sP), .pl ((ckeys sl d).map sP), .pl ((ckeys sl c ++ ckeys sl d).map sP)] : Sto) = R
  -- the names' values
  let R0 : Option D → Option D → Option D → Nv := fun a b e => [some (.p (chg sl c)), some (.p (chg sl d)), some (.ref S.length), a, b, e, some (.ref (S.length + 1)), some (.ref (S.length + 2))]
  have hw : evW (M46 (j + 1)) (.of (.call 0 (.cons (.bin .Add (.blt .list (.cons (.v 2) .nil)) (.blt .list (.cons (.v 6) .nil))) .nil))) (R0 none none none) (S ++ [A, B, .pl []]) = .ok ⟨(xs.map sP).map .p, none⟩ (S ++ (A :: B :: .pl [] :: R)) := by
    have := both_ok (M := M46 (j + 1)) (ρ := R0 none none none) (T := S ++ [A, B, .pl []]) (a := .v 2) (b := .v 6) (fun d T h => merged_ok h (by simp; omega)) (dA [.pl []]) (dB [.pl []]) (fun l => evv rfl) (fun l => evv rfl) (by omega)
    rw [hxs, hR] at this
    rw [this]
    simp
  have loop := forTX (tg := .nm 3) (body := evCz (M46 (j + 1)) joinBody) sP ((xs.map sP).map .p) (fun o => ∃ x ρ l, sl.find? (bad c d) = some x ∧ o = .exc ⟨4, [("slot", .p (sP x))]⟩ ρ (S ++ l))
    (fun ps ρ T => (∃ a, ρ = R0 a none none) ∧ T = S ++ (A :: B :: .pl ((rows ps (jc c d)).map row) :: R) ∧ ∀ y ∈ ps, bad c d y = false) xs
    (by
      rintro ps x qs _ _ hx ⟨⟨a, rfl⟩, rfl, hb⟩
      have hxm := (hmem x).mp (by rw [hx]; simp)
      generalize hT : S ++ (A :: B :: .pl ((rows ps (jc c d)).map row) :: R) = T
      have dA' : DicAt slK T S.length (ckeys sl c) (cth c) := by rw [← hT]; exact dA _
      have dB' : DicAt slK T (S.length + 1) (ckeys sl d) (cth d) := by rw [← hT]; exact dB _
      have ht : T[S.length + 2]? = some (.pl ((rows ps (jc c d)).map row)) := by rw [← hT]; simp
      have hlen : ((rows ps (jc c d)).map row).length < LINE := by
        have := rows_len ps (jc c d)
        have : ps.length ≤ xs.length := by rw [hx]; simp
        have : LINE = 16777216 := rfl
        simp only [List.length_map]; omega
      have v7 : evE (M46 (j + 1)) (.v 7) (R0 (some (.p (sP x))) none none) T = .ok (.ref (S.length + 2)) T := evv rfl
      have v3 : evE (M46 (j + 1)) (.v 3) (R0 (some (.p (sP x))) none none) T = .ok (.p (sP x)) T := evv rfl
      have app : ∀ {e1 e2 : E} {y z : PD}, evE (M46 (j + 1)) e1 (R0 (some (.p (sP x))) none none) T = .ok (.p y) T → evE (M46 (j + 1)) e2 (R0 (some (.p (sP x))) none none) T = .ok (.p z) T →
          evCz (M46 (j + 1)) (.cons (.ex (.mth .append (.v 7) (.cons (.tp (.cons (.v 3) (.cons e1 (.cons e2 .nil)))) .nil))) .nil) (R0 (some (.p (sP x))) none none) T = .nx (R0 (some (.p (sP x))) none none) (T.set (S.length + 2) (.pl ((rows ps (jc c d)).map row ++ [row (x, y, z)]))) := fun h1 h2 => by
        refine (evz_step (stex (d := .p .non) ?_)).trans (evz_nil ..)
        rw [ev_mth, v7, Res.bind_ok', if_pos (recv_new ht rfl rfl), es1 (etp3 v3 h1 h2) es0, Res.bind_ok']
        exact app_at' ht hlen
      have nxt : ∀ {y z : PD}, jc c d x = some (y, z) → T.set (S.length + 2) (.pl ((rows ps (jc c d)).map row ++ [row (x, y, z)])) = S ++ (A :: B :: .pl ((rows (ps ++ [x]) (jc c d)).map row) :: R) := fun h => by
        rw [← hT, set3, rows_snoc, h]; simp
      have hbs : bad c d x = false → ∀ y ∈ ps ++ [x], bad c d y = false := fun h y hy => by
        rcases List.mem_append.mp hy with z | z
        · exact hb y z
        · rw [List.mem_singleton.mp z]; exact h
      have kC := mem_ckeys (sl := sl) (c := c) (s := x)
      have kD := mem_ckeys (sl := sl) (c := d) (s := x)
      have iB : evE (M46 (j + 1)) (.din true (.v 3) (.v 6)) (R0 (some (.p (sP x))) none none) T = .ok (.p (.bl (!decide (x ∈ ckeys sl d)))) T := edin v3 (evv rfl) ((dB'.inn true x).trans (by simp))
      have iA : evE (M46 (j + 1)) (.din true (.v 3) (.v 2)) (R0 (some (.p (sP x))) none none) T = .ok (.p (.bl (!decide (x ∈ ckeys sl c)))) T := edin v3 (evv rfl) ((dA'.inn true x).trans (by simp))
      have gC : ∀ p, c x = some p → ∀ (i : Nat) y, [p.1, p.2][i]? = some y → evE (M46 (j + 1)) (.ix (.dix (.v 2) (.v 3)) (.k (.int (i : Int)))) (R0 (some (.p (sP x))) none none) T = .ok (.p y) T := fun p hp i y hy => by
        refine eix_k (edix (evv rfl) v3 ((dA'.ix (kC.mpr ⟨hxm.1, by rw [hp]; rfl⟩)).trans ?_)) hy
        unfold cth; rw [hp]
      have gD : ∀ p, d x = some p → ∀ (i : Nat) y, [p.1, p.2][i]? = some y → evE (M46 (j + 1)) (.ix (.dix (.v 6) (.v 3)) (.k (.int (i : Int)))) (R0 (some (.p (sP x))) none none) T = .ok (.p y) T := fun p hp i y hy => by
        refine eix_k (edix (evv rfl) v3 ((dB'.ix (kD.mpr ⟨hxm.1, by rw [hp]; rfl⟩)).trans ?_)) hy
        unfold cth; rw [hp]
      refine ⟨R0 (some (.p (sP x))) none none, rfl, ?_⟩
      cases q1 : c x with
      | none =>
        cases q2 : d x with
        | none => rw [q1, q2] at hxm; simp at hxm
        | some q =>
          have h1 : x ∈ ckeys sl d := kD.mpr ⟨hxm.1, by rw [q2]; rfl⟩
          have h2 : x ∉ ckeys sl c := fun z => by have := (kC.mp z).2; rw [q1] at this; cases this
          refine .inl ⟨R0 (some (.p (sP x))) none none, _, ?_, ⟨_, rfl⟩, nxt (y := q.1) (z := q.2) (by simp [jc, q1, q2]), hbs (by simp [bad, q1, q2])⟩
          refine (evz_step (stif2 (iB.trans (by rw [decide_eq_true h1]; rfl)) ((evz_step (stif1 (iA.trans (by rw [decide_eq_false h2]; rfl)) (app (gD q q2 0 q.1 rfl) (gD q q2 1 q.2 rfl)))).trans (evz_nil ..)))).trans (evz_nil ..)
      | some p =>
        have h1 : x ∈ ckeys sl c := kC.mpr ⟨hxm.1, by rw [q1]; rfl⟩
        cases q2 : d x with
        | none =>
          have h2 : x ∉ ckeys sl d := fun z => by have := (kD.mp z).2; rw [q2] at this; cases this
          refine .inl ⟨R0 (some (.p (sP x))) none none, _, ?_, ⟨_, rfl⟩, nxt (y := p.1) (z := p.2) (by simp [jc, q1, q2]), hbs (by simp [bad, q1, q2])⟩
          exact (evz_step (stif1 (iB.trans (by rw [decide_eq_false h2]; rfl)) (app (gC p q1 0 p.1 rfl) (gC p q1 1 p.2 rfl)))).trans (evz_nil ..)
        | some q =>
          have h2 : x ∈ ckeys sl d := kD.mpr ⟨hxm.1, by rw [q2]; rfl⟩
          obtain ⟨np1, np2⟩ := hc x hxm.1 p q1
          obtain ⟨nq1, nq2⟩ := hd x hxm.1 q q2
          have t1 := ecmp (gC p q1 1 p.2 rfl) (gD q q2 0 q.1 rfl) (ne_nice (S := T) np2.nice nq1.nice (by decide))
          have t2 := ecmp (gC p q1 0 p.1 rfl) (gD q q2 1 q.2 rfl) (ne_nice (S := T) np1.nice nq2.nice (by decide))
          by_cases e1 : p.2 = q.1
          · have hbx : bad c d x = false := by simp [bad, q1, q2, e1]
            by_cases e2 : p.1 = q.2
            · refine .inl ⟨R0 (some (.p (sP x))) none none, T, ?_, ⟨_, rfl⟩, ?_, hbs hbx⟩
              · refine (evz_step (stif2 (iB.trans (by rw [decide_eq_true h2]; rfl)) ((evz_step (stif2 (iA.trans (by rw [decide_eq_true h1]; rfl)) ((evz_step (stif2 (t1.trans (by rw [decide_eq_true e1]; rfl)) ((evz_step (stif0 (t2.trans (by rw [decide_eq_true e2]; rfl)))).trans (evz_nil ..)))).trans (evz_nil ..)))).trans (evz_nil ..)))).trans (evz_nil ..)
              · rw [← hT, rows_snoc]; simp [jc, q1, q2, e2]
            · refine .inl ⟨R0 (some (.p (sP x))) none none, _, ?_, ⟨_, rfl⟩, nxt (y := p.1) (z := q.2) (by simp [jc, q1, q2, e2]), hbs hbx⟩
              exact (evz_step (stif2 (iB.trans (by rw [decide_eq_true h2]; rfl)) ((evz_step (stif2 (iA.trans (by rw [decide_eq_true h1]; rfl)) ((evz_step (stif2 (t1.trans (by rw [decide_eq_true e1]; rfl)) ((evz_step (stif1 (t2.trans (by rw [decide_eq_false e2]; rfl)) (app (gC p q1 0 p.1 rfl) (gD q q2 1 q.2 rfl)))).trans (evz_nil ..)))).trans (evz_nil ..)))).trans (evz_nil ..)))).trans (evz_nil ..)
          · have hbx : bad c d x = true := by simp [bad, q1, q2, e1]
            have hev : evCz (M46 (j + 1)) joinBody (R0 (some (.p (sP x))) none none) T = .exc ⟨4, [("slot", .p (sP x))]⟩ (R0 (some (.p (sP x))) none none) T :=
              evz_exc (stif2 (iB.trans (by rw [decide_eq_true h2]; rfl)) (evz_exc (stif2 (iA.trans (by rw [decide_eq_true h1]; rfl)) (evz_exc (stif1 (t1.trans (by rw [decide_eq_false e1]; rfl)) (evz_exc (strse (es1 v3 es0) rfl)))))))
            refine .inr ?_
            rw [hev]
            refine ⟨trivial, x, _, _, ?_, by rw [← hT]⟩
            have : xs.find? (bad c d) = some x := by rw [hx]; exact find_split hb hbx
            rw [← this]
            refine (find_ext hxa asc fun s hs => ?_).symm
            rw [hmem]
            constructor
            · exact fun z => z.1
            · refine fun z => ⟨z, ?_⟩
              cases q3 : c s with
              | none => simp [bad, q3] at hs
              | some _ => exact .inl rfl) xs [] (R0 none none none) (S ++ (A :: B :: .pl [] :: R)) rfl ⟨⟨_, rfl⟩, by simp [rows], fun y hy => nomatch hy⟩
  have s1 : evC (M46 (j + 1)) (.asg (.nm 2) (.dcm true [3, 4, 5] (.tp [(.nm 3), (.nm 4), (.nm 5)]) (.of (.v 0)) (.v 3) (.tp (.cons (.v 4) (.cons (.v 5) .nil))))) [some (.p (chg sl c)), some (.p (chg sl d)), none, none, none, none, none, none] S
      = .nx [some (.p (chg sl c)), some (.p (chg sl d)), some (.ref S.length), none, none, none, none, none] (S ++ [A]) := stasg (by rw [← hA]; exact cdict asc hl (evv rfl) (by decide) (by decide) (by decide) ⟨by simp, by simp, by simp⟩) rfl
  have s2 : evC (M46 (j + 1)) (.asg (.nm 6) (.dcm true [3, 4, 5] (.tp [(.nm 3), (.nm 4), (.nm 5)]) (.of (.v 1)) (.v 3) (.tp (.cons (.v 4) (.cons (.v 5) .nil))))) [some (.p (chg sl c)), some (.p (chg sl d)), some (.ref S.length), none, none, none, none, none] (S ++ [A])
      = .nx [some (.p (chg sl c)), some (.p (chg sl d)), some (.ref S.length), none, none, none, some (.ref (S.length + 1)), none] (S ++ [A, B]) := stasg (by
        have := cdict (S := S ++ [A]) (c := d) (M := M46 (j + 1)) (ρ := [some (.p (chg sl c)), some (.p (chg sl d)), some (.ref S.length), none, none, none, none, none]) (a := .v 1) (i1 := 3) (i2 := 4) (i3 := 5) asc hl (evv rfl) (by decide) (by decide) (by decide) ⟨by simp, by simp, by simp⟩
        rw [hB] at this
        simpa using this) rfl
  have s3 : evC (M46 (j + 1)) (.asg (.nm 7) (.ls .nil)) [some (.p (chg sl c)), some (.p (chg sl d)), some (.ref S.length), none, none, none, some (.ref (S.length + 1)), none] (S ++ [A, B]) = .nx (R0 none none none) (S ++ [A, B, .pl []]) := stasg (els0.trans (by simp)) rfl
  rcases loop with ⟨ρ', S', e, ⟨a, rfl⟩, rfl, hb⟩ | ⟨o, e, x, ρ', l, hfi, rfl⟩
  · have hfn : sl.find? (bad c d) = none := by
      rw [← find_ext hxa asc (p := bad c d) fun s hs => by
        rw [hmem]
        constructor
        · exact fun z => z.1
        · refine fun z => ⟨z, ?_⟩
          cases q3 : c s with
          | none => simp [bad, q3] at hs
          | some _ => exact .inl rfl]
      exact List.find?_eq_none.mpr fun y hy => by rw [hb y hy]; decide
    have hr : rows xs (jc c d) = rows sl (jc c d) := rows_ext hxa asc fun s hs => by
      rw [hmem]
      constructor
      · exact fun z => z.1
      · refine fun z => ⟨z, ?_⟩
        cases q3 : c s with
        | some _ => exact .inl rfl
        | none =>
          cases q4 : d s with
          | some _ => exact .inr rfl
          | none => simp [jc, q3, q4] at hs
    unfold joinRz
    rw [hfn]
    refine runB_rt (d := .p (chg sl (jc c d))) (S' := S ++ (A :: B :: .pl ((rows xs (jc c d)).map row) :: R)) ?_ (tidy_pa _ _)
    refine (evz_step s1).trans ((evz_step s2).trans ((evz_step s3).trans ((evz_step (stfor hw e)).trans (evz_end ?_))))
    rw [hr]
    exact stretT (evv rfl) (data_pl (by simp))
  · unfold joinRz
    rw [hfi]
    refine runB_exc (x := ⟨4, [("slot", .p (sP x))]⟩) (ρ' := ρ') (S' := S ++ l) ?_ (tidyX_same l rfl)
    exact (evz_step s1).trans ((evz_step s2).trans ((evz_step s3).trans (evz_exc (stfor hw e))))
end
end PH

set_option maxHeartbeats 4000000
/-! k46: the program's walk: the place of a dict of slots; a difference applied. -/
namespace PH
open L2 PySem PySem.Spec PyProof.Rows
/-- a piece whose package is not there -/
def lost (sl : List Sl) (g : Sl → PD) (p : Sl) : Bool := !decide (g p ∈ (paks sl g).map fun s => PD.str s.2)
def placeRz (sl : List Sl) (g : Sl → PD) : Rz := match (pcs sl g).find? (lost sl g) with
  | some p => .stale p
  | none => .done (plc sl g)
def ap (f : Sl → PD) (c : Chg) : Sl → PD := fun s => match c s with
  | some p => p.2
  | none => f s
def off (f : Sl → PD) (c : Chg) (s : Sl) : Bool := match c s with
  | some p => decide (f s ≠ p.1)
  | none => false
def appRz (sl : List Sl) (f : Sl → PD) (c : Chg) : Rz := match sl.find? (off f c) with
  | some s => .stale s
  | none => placeRz sl (ap f c)
/-- a loop over a list of data that stands -/
theorem forWX {α : Type} {w : Wk} {tg : Tg} {body : Nv → Sto → Out} (h : α → PD) (R : Out → Prop) (P : List α → Nv → Sto → Prop) (hs : ∀ ps ρ S, P ps ρ S → w.still S = true) (xs : List α)
    (h1 : ∀ ps x qs ρ S, xs = ps ++ x :: qs → P ps ρ S → ∃ ρ1, asgT tg (.p (h x)) ρ = some ρ1 ∧ ((∃ ρ2 S2, body ρ1 S = .nx ρ2 S2 ∧ P (ps ++ [x]) ρ2 S2) ∨ ((body ρ1 S).isE ∧ R (body ρ1 S)))) :
    ∀ (qs ps : List α) (ρ : Nv) (S : Sto), xs = ps ++ qs → P ps ρ S → (∃ ρ' S', forI w tg body ((qs.map h).map .p) ρ S = .nx ρ' S' ∧ P xs ρ' S') ∨ ∃ o, forI w tg body ((qs.map h).map .p) ρ S = o ∧ R o
  | [], ps, ρ, S, e, hp => by
    rw [List.append_nil] at e
    subst e
    exact .inl ⟨ρ, S, by rw [List.map_nil, List.map_nil]; unfold forI; rw [if_pos (hs _ _ _ hp)], hp⟩
  | x :: qs, ps, ρ, S, e, hp => by
    obtain ⟨ρ1, ha, hb⟩ := h1 ps x qs ρ S e hp
    rw [List.map_cons, List.map_cons]
    rcases hb with ⟨ρ2, S2, hb, hp2⟩ | ⟨he, hr⟩
    · rw [forI_nx1 (hs _ _ _ hp) ha hb]
      exact forWX h R P hs xs h1 qs (ps ++ [x]) ρ2 S2 (by rw [e]; simp) hp2
    · refine .inr ⟨body ρ1 S, ?_, hr⟩
      cases q : body ρ1 S with
      | rt d S2 => exact forI_rt1 (hs _ _ _ hp) ha q
      | exc z ρ2 S2 => exact forI_exc1 (hs _ _ _ hp) ha q
      | _ => rw [q] at he; exact he.elim
theorem gsrt_asc {ks l : List Sl} (nd : ks.Nodup) (a : Asc l) (h : ∀ s, s ∈ ks ↔ s ∈ l) : gsrt slE ks = l := by
  refine strict_ext slE ?_ a fun s => by rw [mem_gsrt]; exact h s
  have h1 := gsrt_pw slE ks
  have h2 : (gsrt slE ks).Nodup := (List.mergeSort_perm ks slE.le).nodup_iff.mpr nd
  exact h1.and h2
section
variable {sl : List Sl} {f g : Sl → PD} {c : Chg} {S : Sto} {j n : Nat}
theorem live_asc (asc : Asc sl) : Asc (live sl g) := asc.filter _
theorem sorted_keys {ks : List Sl} {F : Sl → D} (asc : Asc sl) (hd : DicAt slK S n ks F) (nd : ks.Nodup) (hm : ∀ s, s ∈ ks ↔ s ∈ sl ∧ g s ≠ un) : bltI .sorted [.ref n] S = .ok (.ref S.length) (S ++ [.pl ((live sl g).map sP)]) := by
  refine hd.sorted ?_
  show srtI (ks.map slE.f) = _
  rw [gsrtI slE, gsrt_asc nd (live_asc (g := g) asc) fun s => by rw [hm, mem_live]]
  rfl
theorem kd_eq {s : Sl} {S : Sto} (b : Bool) : cmpI .Eq (.p (.str (kd s.1))) (.p (.str (kd b))) S = .ok (.p (.bl (decide (s.1 = b)))) S := by
  have := eq_of (eqI_p (S := S) (x := .str (kd s.1)) (y := .str (kd b)) (n := 0) (k := 0) rfl rfl (by decide))
  rw [this]
  have : decide (PD.str (kd s.1) = PD.str (kd b)) = decide (s.1 = b) := by
    rw [decide_eq_decide]
    constructor
    · intro h; exact kd_inj (by simpa using h)
    · intro h; rw [h]
  rw [this]
/-- the place of a dict of slots -/
theorem place_of_ok {ks : List Sl} {F : Sl → D} (asc : Asc sl) (hl : sl.length ≤ 1000) (hg : Sts sl g) (hd : DicAt slK S n ks F) (nd : ks.Nodup) (hm : ∀ s, s ∈ ks ↔ s ∈ sl ∧ g s ≠ un) (hF : ∀ s ∈ ks, F s = .p (g s)) : C46 (j + 1) 3 [.ref n] S = (placeRz sl g).res S := by
  have ll : (live sl g).length ≤ sl.length := List.length_filter_le _ _
  have lp : (paks sl g).length ≤ sl.length := Nat.le_trans (List.length_filter_le _ _) ll
  have lc : (pcs sl g).length ≤ sl.length := Nat.le_trans (List.length_filter_le _ _) ll
  have hL : LINE = 16777216 := rfl
  refine call_of (e := k46_E_place_of_things) rfl rfl ?_
  have hlF : ∀ s, s ∈ live sl g → s ∈ ks := fun s hs => (hm s).mpr (mem_live.mp hs)
  -- the three rows
  have s1 : evE (M46 j) (.lcI [2] (.nm 2) (.of (.blt .sorted (.cons (.v 0) .nil))) (.cmp .Eq (.ix (.v 2) (.k (.int 0))) (.k (.str [112, 97, 99, 107, 97, 103, 101]))) (.dix (.v 0) (.v 2))) [some (.ref n), none, none, none, none, none, none, none] S
      = .ok (.ref (S.length + 1)) (S ++ [.pl ((live sl g).map sP), .pl ((paks sl g).map g)]) := by
    have h0 : (S ++ [O.pl ((live sl g).map sP)])[S.length]? = some (.pl ((live sl g).map sP)) := by simp
    have := lcI_ev1 (M := M46 j) (own := [2]) (tg := .nm 2) (it := .of (.blt .sorted (.cons (.v 0) .nil))) (c := .cmp .Eq (.ix (.v 2) (.k (.int 0))) (.k (.str [112, 97, 99, 107, 97, 103, 101]))) (elt := .dix (.v 0) (.v 2)) (ρ := [some (.ref n), none, none, none, none, none, none, none]) (S := S) (fun s => D.p (sP s)) (fun s => !s.1) g (live sl g)
      (of_ev (eblt1 (evv rfl) (sorted_keys asc hd nd hm)) (wk_pl h0)) (by omega) (by simp) (fun l => still_pl (pre_get h0)) (fun s hs => ⟨_, rfl, fun l => ⟨by
        have := bindT (ecmp (M := M46 j) (eix_k (i := 0) (xs := [.str (kd s.1), .str s.2]) (evv (i := 2) (ρ := [some (.ref n), none, some (.p (sP s)), none, none, none, none, none]) rfl) rfl) (ev_k ..) (kd_eq (s := s) (S := S ++ [.pl ((live sl g).map sP)] ++ l) false))
        refine Eq.trans this ?_
        cases s.1 <;> rfl, fun _ => by
        refine edix (evv rfl) (evv rfl) ?_
        have := ((hd.app [.pl ((live sl g).map sP)]).app l).ix (hlF s hs)
        rw [hF s (hlF s hs)] at this
        exact this⟩⟩)
    rw [this]
    simp [paks]
  have s2 : ∀ T : Sto, DicAt slK T n ks F → evE (M46 j) (.lcI [2] (.nm 2) (.of (.blt .sorted (.cons (.v 0) .nil))) (.cmp .Eq (.ix (.v 2) (.k (.int 0))) (.k (.str [112, 105, 101, 99, 101]))) (.tp (.cons (.ix (.v 2) (.k (.int 1))) (.cons (.dix (.v 0) (.v 2)) .nil)))) [some (.ref n), some (.ref (S.length + 1)), none, none, none, none, none, none] T
      = .ok (.ref (T.length + 1)) (T ++ [.pl ((live sl g).map sP), .pl ((pcs sl g).map (pair g))]) := fun T hd => by
    have h0 : (T ++ [O.pl ((live sl g).map sP)])[T.length]? = some (.pl ((live sl g).map sP)) := by simp
    have := lcI_ev1 (M := M46 j) (own := [2]) (tg := .nm 2) (it := .of (.blt .sorted (.cons (.v 0) .nil))) (c := .cmp .Eq (.ix (.v 2) (.k (.int 0))) (.k (.str [112, 105, 101, 99, 101]))) (elt := .tp (.cons (.ix (.v 2) (.k (.int 1))) (.cons (.dix (.v 0) (.v 2)) .nil))) (ρ := [some (.ref n), some (.ref (S.length + 1)), none, none, none, none, none, none]) (S := T) (fun s => D.p (sP s)) (fun s => s.1) (pair g) (live sl g)
      (of_ev (eblt1 (evv rfl) (sorted_keys asc hd nd hm)) (wk_pl h0)) (by omega) (by simp) (fun l => still_pl (pre_get h0)) (fun s hs => ⟨_, rfl, fun l => ⟨by
        have := bindT (ecmp (M := M46 j) (eix_k (i := 0) (xs := [.str (kd s.1), .str s.2]) (evv (i := 2) (ρ := [some (.ref n), some (.ref (S.length + 1)), some (.p (sP s)), none, none, none, none, none]) rfl) rfl) (ev_k ..) (kd_eq (s := s) (S := T ++ [.pl ((live sl g).map sP)] ++ l) true))
        refine Eq.trans this ?_
        cases s.1 <;> rfl, fun _ => by
        refine etp2 (eix_k (i := 1) (evv rfl) rfl) (edix (evv rfl) (evv rfl) ?_)
        have := ((hd.app [.pl ((live sl g).map sP)]).app l).ix (hlF s hs)
        rw [hF s (hlF s hs)] at this
        exact this⟩⟩)
    rw [this]
    simp [pcs]
  generalize hT1 : S ++ [.pl ((live sl g).map sP), .pl ((paks sl g).map g)] = T1 at s1
  have e2 := s2 T1 (by rw [← hT1]; exact hd.app _)
  have l1 : T1.length = S.length + 2 := by rw [← hT1]; simp
  have g1 : T1[S.length + 1]? = some (.pl ((paks sl g).map g)) := by rw [← hT1]; simp
  generalize hT2 : T1 ++ [.pl ((live sl g).map sP), .pl ((pcs sl g).map (pair g))] = T2 at e2
  have l2 : T2.length = S.length + 4 := by rw [← hT2]; simp [l1]
  have g2 : T2[S.length + 1]? = some (.pl ((paks sl g).map g)) := by rw [← hT2]; exact pre_get g1
  have g3 : T2[S.length + 3]? = some (.pl ((pcs sl g).map (pair g))) := by rw [← hT2, show S.length + 3 = T1.length + 1 by omega]; simp
  rw [l1] at e2
  let nms : List PD := (paks sl g).map fun s => .str s.2
  have s3 : evE (M46 j) (.lc [5] (.nm 5) (.of (.v 1)) (.ix (.v 5) (.k (.int 0)))) [some (.ref n), some (.ref (S.length + 1)), none, some (.ref (S.length + 3)), none, none, none, none] T2 = .ok (.ref (S.length + 4)) (T2 ++ [.pl nms]) := by
    have := lc_ev1 (M := M46 j) (own := [5]) (tg := .nm 5) (it := .of (.v 1)) (elt := .ix (.v 5) (.k (.int 0))) (ρ := [some (.ref n), some (.ref (S.length + 1)), none, some (.ref (S.length + 3)), none, none, none, none]) (S := T2) (fun s => D.p (g s)) (fun s => .str s.2) (paks sl g) (of_ev (evv rfl) (wk_pl g2)) (by omega) (by simp) (fun l => still_pl (pre_get g2)) (fun s hs => ⟨_, rfl, fun l => by
      obtain ⟨_, r, e⟩ := paks_form hg hs
      exact eix_k (i := 0) (evv (by rw [e]; rfl)) rfl⟩)
    rw [l2] at this
    exact this
  have g4 : (T2 ++ [O.pl nms])[S.length + 4]? = some (.pl nms) := by rw [← l2]; simp
  have g5 : (T2 ++ [O.pl nms])[S.length + 3]? = some (.pl ((pcs sl g).map (pair g))) := pre_get g3
  have g6 : (T2 ++ [O.pl nms])[S.length + 1]? = some (.pl ((paks sl g).map g)) := pre_get g2
  have hT3 : ∃ l, T2 ++ [O.pl nms] = S ++ l := ⟨_, by rw [← hT2, ← hT1, List.append_assoc, List.append_assoc]⟩
  generalize hT3' : T2 ++ [O.pl nms] = T3 at s3 g4 g5 g6 hT3
  obtain ⟨l3, rfl⟩ := hT3
  have loop := forWX (w := ⟨((pcs sl g).map (pair g)).map .p, some (S.length + 3, .pl ((pcs sl g).map (pair g)))⟩) (tg := .tp [.nm 6, .nm 7]) (body := evCz (M46 j) (.cons (.ite (.cmp .NotIn (.v 7) (.v 4)) (.cons (.rse 4 ["slot"] (.cons (.tp (.cons (.k (.str [112, 105, 101, 99, 101])) (.cons (.v 6) .nil))) .nil)) .nil) .nil) .nil)) (pair g)
    (fun o => ∃ p ρ, (pcs sl g).find? (lost sl g) = some p ∧ o = .exc ⟨4, [("slot", .p (sP p))]⟩ ρ (S ++ l3))
    (fun ps ρ T => (∃ a b, ρ = [some (.ref n), some (.ref (S.length + 1)), none, some (.ref (S.length + 3)), some (.ref (S.length + 4)), none, a, b]) ∧ T = S ++ l3 ∧ ∀ y ∈ ps, lost sl g y = false) (fun ps ρ T ⟨_, h, _⟩ => by rw [h]; exact still_pl g5) (pcs sl g)
    (by
      rintro ps x qs _ _ hx ⟨⟨a, b, rfl⟩, rfl, hb⟩
      have hxm : x ∈ pcs sl g := by rw [hx]; simp
      obtain ⟨e1, m, e3⟩ := pcs_form hg hxm
      refine ⟨[some (.ref n), some (.ref (S.length + 1)), none, some (.ref (S.length + 3)), some (.ref (S.length + 4)), none, some (.p (.str x.2)), some (.p (g x))], rfl, ?_⟩
      have hin : evE (M46 j) (.cmp .NotIn (.v 7) (.v 4)) [some (.ref n), some (.ref (S.length + 1)), none, some (.ref (S.length + 3)), some (.ref (S.length + 4)), none, some (.p (.str x.2)), some (.p (g x))] (S ++ l3) = .ok (.p (.bl (lost sl g x))) (S ++ l3) := by
        refine ecmp (evv rfl) (evv rfl) ?_
        have h1 : (g x).nice 0 = true := by rw [e3]; rfl
        have h2 : PD.nices 0 nms = true := by rw [nices_iff]; intro y hy; obtain ⟨s, _, rfl⟩ := List.mem_map.mp hy; rfl
        exact cmp_nin (in_ref g4 h1 h2 (by decide))
      cases hq : lost sl g x with
      | false =>
        rw [hq] at hin
        refine .inl ⟨_, _, (evz_step (stif0 hin)).trans (evz_nil ..), ⟨_, _, rfl⟩, rfl, fun y hy => ?_⟩
        rcases List.mem_append.mp hy with z | z
        · exact hb y z
        · rw [List.mem_singleton.mp z]; exact hq
      | true =>
        rw [hq] at hin
        have hk : sP x = .tup [.str [112, 105, 101, 99, 101], .str x.2] := by rw [e1]; rfl
        have hev : evCz (M46 j) (.cons (.ite (.cmp .NotIn (.v 7) (.v 4)) (.cons (.rse 4 ["slot"] (.cons (.tp (.cons (.k (.str [112, 105, 101, 99, 101])) (.cons (.v 6) .nil))) .nil)) .nil) .nil) .nil) [some (.ref n), some (.ref (S.length + 1)), none, some (.ref (S.length + 3)), some (.ref (S.length + 4)), none, some (.p (.str x.2)), some (.p (g x))] (S ++ l3)
            = .exc ⟨4, [("slot", .p (sP x))]⟩ [some (.ref n), some (.ref (S.length + 1)), none, some (.ref (S.length + 3)), some (.ref (S.length + 4)), none, some (.p (.str x.2)), some (.p (g x))] (S ++ l3) := by
          rw [hk]
          exact evz_exc (stif1 hin (evz_exc (strse (es1 (etp2 (ev_k ..) (evv rfl)) es0) rfl)))
        refine .inr ?_
        rw [hev]
        exact ⟨trivial, x, _, by rw [hx]; exact find_split hb hq, rfl⟩) (pcs sl g) [] [some (.ref n), some (.ref (S.length + 1)), none, some (.ref (S.length + 3)), some (.ref (S.length + 4)), none, none, none] (S ++ l3) rfl ⟨⟨_, _, rfl⟩, rfl, fun y hy => nomatch hy⟩
  have c1 : evC (M46 j) (.asg (.nm 1) (.lcI [2] (.nm 2) (.of (.blt .sorted (.cons (.v 0) .nil))) (.cmp .Eq (.ix (.v 2) (.k (.int 0))) (.k (.str [112, 97, 99, 107, 97, 103, 101]))) (.dix (.v 0) (.v 2)))) [some (.ref n), none, none, none, none, none, none, none] S = .nx [some (.ref n), some (.ref (S.length + 1)), none, none, none, none, none, none] T1 := stasg s1 rfl
  have c2 : evC (M46 j) (.asg (.nm 3) (.lcI [2] (.nm 2) (.of (.blt .sorted (.cons (.v 0) .nil))) (.cmp .Eq (.ix (.v 2) (.k (.int 0))) (.k (.str [112, 105, 101, 99, 101]))) (.tp (.cons (.ix (.v 2) (.k (.int 1))) (.cons (.dix (.v 0) (.v 2)) .nil))))) [some (.ref n), some (.ref (S.length + 1)), none, none, none, none, none, none] T1 = .nx [some (.ref n), some (.ref (S.length + 1)), none, some (.ref (S.length + 3)), none, none, none, none] T2 := stasg e2 rfl
  have c3 : evC (M46 j) (.asg (.nm 4) (.lc [5] (.nm 5) (.of (.v 1)) (.ix (.v 5) (.k (.int 0))))) [some (.ref n), some (.ref (S.length + 1)), none, some (.ref (S.length + 3)), none, none, none, none] T2 = .nx [some (.ref n), some (.ref (S.length + 1)), none, some (.ref (S.length + 3)), some (.ref (S.length + 4)), none, none, none] (S ++ l3) := stasg s3 rfl
  have hw : evW (M46 j) (.of (.v 3)) [some (.ref n), some (.ref (S.length + 1)), none, some (.ref (S.length + 3)), some (.ref (S.length + 4)), none, none, none] (S ++ l3) = .ok ⟨((pcs sl g).map (pair g)).map .p, some (S.length + 3, .pl ((pcs sl g).map (pair g)))⟩ (S ++ l3) := of_ev (evv rfl) (wk_pl g5)
  unfold placeRz
  rcases loop with ⟨ρ', S', e, ⟨a, b, rfl⟩, rfl, hb⟩ | ⟨o, e, p, ρ', hfi, rfl⟩
  · have hfn : (pcs sl g).find? (lost sl g) = none := List.find?_eq_none.mpr fun y hy => by rw [hb y hy]; decide
    rw [hfn]
    refine runB_rt (d := .p (plc sl g)) (S' := S ++ l3) ?_ (tidy_pa _ _)
    exact (evz_step c1).trans ((evz_step c2).trans ((evz_step c3).trans ((evz_step (stfor hw e)).trans (evz_end (stret (etp2 (eblt1 (evv rfl) (tuple_ev (data_pl g6))) (eblt1 (evv rfl) (tuple_ev (data_pl g5)))))))))
  · rw [hfi]
    refine runB_exc (x := ⟨4, [("slot", .p (sP p))]⟩) (ρ' := ρ') (S' := S ++ l3) ?_ (tidyX_same l3 rfl)
    exact (evz_step c1).trans ((evz_step c2).trans ((evz_step c3).trans (evz_exc (stfor hw e))))
end
end PH

set_option maxHeartbeats 4000000
/-! k46: the program's walk: a difference applied. -/
namespace PH
open L2 PySem PySem.Spec PyProof.Rows
/-- the state behind some rows -/
def up (f : Sl → PD) (r : Row) : Sl → PD := fun s => if s = r.1 then r.2.2 else f s
theorem up_all (c : Chg) : ∀ (sl : List Sl) (f : Sl → PD) (s : Sl), (rows sl c).foldl up f s = if s ∈ sl then ap f c s else f s
  | [], f, s => by simp [rows]
  | x :: sl, f, s => by
    have hr : rows (x :: sl) c = ((c x).map fun p => (x, p.1, p.2)).toList ++ rows sl c := by
      unfold rows
      rw [List.filterMap_cons]
      cases q : c x <;> simp
    rw [hr, List.foldl_append, up_all c sl]
    cases q : c x with
    | none =>
      simp only [Option.map_none, Option.toList_none, List.foldl_nil, List.mem_cons]
      by_cases h1 : s ∈ sl
      · simp [h1]
      · by_cases h2 : s = x
        · subst h2; simp [h1, ap, q]
        · simp [h1, h2]
    | some p =>
      simp only [Option.map_some, Option.toList_some, List.foldl_cons, List.foldl_nil, List.mem_cons]
      by_cases h1 : s ∈ sl
      · simp only [h1, or_true, if_true]
        unfold ap up
        cases q2 : c s with
        | some _ => rfl
        | none =>
          by_cases h2 : s = x
          · rw [h2, q] at q2; cases q2
          · simp [h2]
      · by_cases h2 : s = x
        · subst h2; simp [h1, ap, up, q]
        · simp [h1, h2, up]
theorem Thg.un (s : Sl) : Thg s un := ⟨.inl rfl, rfl, rfl, by decide⟩
section
variable {sl : List Sl} {f g : Sl → PD} {c : Chg} {S : Sto} {j n : Nat}
theorem Sts.ap (hf : Sts sl f) (hc : Cgs sl c) : Sts sl (ap f c) := fun s hs => by
  unfold PH.ap
  cases q : c s with
  | none => exact hf s hs
  | some p => exact (hc s hs p q).2
theorem find_map {α β : Type} (p : β → Bool) (f : α → β) : ∀ l : List α, (l.map f).find? p = (l.find? fun x => p (f x)).map f
  | [] => rfl
  | x :: l => by
    rw [List.map_cons, List.find?_cons, List.find?_cons]
    cases p (f x) with
    | true => rfl
    | false => exact find_map p f l
theorem rows_off (c : Chg) (p : Row → Bool) : ∀ sl : List Sl, ((rows sl c).find? p).map (·.1) = sl.find? fun s => match c s with | some q => p (s, q) | none => false
  | [] => rfl
  | x :: sl => by
    have ih := rows_off c p sl
    unfold rows at ih ⊢
    rw [List.filterMap_cons, List.find?_cons]
    cases q : c x with
    | none => simpa using ih
    | some r =>
      simp only [Option.map_some, List.find?_cons]
      cases h : p (x, r.1, r.2) with
      | true => simp
      | false => simpa using ih
theorem set1 {S : Sto} {a b c : O} : (S ++ [a, b]).set (S.length + 1) c = S ++ [a, c] := by simp
/-- what the dict being written holds -/
structure Holds (sl : List Sl) (G : Sl → PD) (ks : List Sl) (F : Sl → D) : Prop where
  nd : ks.Nodup
  mem : ∀ s, s ∈ ks ↔ s ∈ sl ∧ G s ≠ un
  val : ∀ s ∈ ks, F s = .p (G s)
theorem Holds.len {G : Sl → PD} {ks : List Sl} {F : Sl → D} (h : Holds sl G ks F) (hn : sl.Nodup) : ks.length ≤ sl.length := h.nd.length_le_of_subset fun s hs => ((h.mem s).mp hs).1
theorem Holds.put {G : Sl → PD} {ks : List Sl} {F : Sl → D} (h : Holds sl G ks F) {x : Sl} (hx : x ∈ sl) {b y : PD} (hy : y ≠ un) : Holds sl (up G (x, b, y)) (if x ∈ ks then ks else ks ++ [x]) (fput F x (.p y)) := by
  refine ⟨?_, fun s => ?_, fun s hs => ?_⟩
  · split
    · exact h.nd
    · rename_i hn
      rw [List.nodup_append]
      exact ⟨h.nd, by simp, fun a ha b hb e => hn (by rw [List.mem_singleton.mp hb] at e; rw [← e]; exact ha)⟩
  · by_cases e : s = x
    · subst e
      have : up G (s, b, y) s = y := by simp [up]
      rw [this]
      split
      · rename_i z; exact ⟨fun _ => ⟨hx, hy⟩, fun _ => z⟩
      · exact ⟨fun _ => ⟨hx, hy⟩, fun _ => by simp⟩
    · have : up G (x, b, y) s = G s := by simp [up, e]
      rw [this, ← h.mem]
      split
      · exact Iff.rfl
      · simp [e]
  · by_cases e : s = x
    · subst e; simp [fput, up]
    · have hs' : s ∈ ks := by
        split at hs
        · exact hs
        · simpa [e] using hs
      simp only [fput, if_neg e, up]
      exact h.val s hs'
theorem Holds.del {G : Sl → PD} {ks : List Sl} {F : Sl → D} (h : Holds sl G ks F) {x : Sl} {b : PD} : Holds sl (up G (x, b, PH.un)) (ks.filter fun s => decide (s ≠ x)) F := by
  refine ⟨h.nd.filter _, fun s => ?_, fun s hs => ?_⟩
  · rw [List.mem_filter, h.mem]
    by_cases e : s = x
    · subst e; simp [up]
    · simp [up, e]
  · obtain ⟨h1, h2⟩ := List.mem_filter.mp hs
    have e : s ≠ x := by simpa using h2
    simp only [up, if_neg e]
    exact h.val s h1
theorem Holds.same {G : Sl → PD} {ks : List Sl} {F : Sl → D} (h : Holds sl G ks F) {x : Sl} {b : PD} (hn : x ∉ ks) : Holds sl (up G (x, b, PH.un)) ks F := by
  have e : (ks.filter fun s => decide (s ≠ x)) = ks := List.filter_eq_self.mpr fun s hs => by
    have : s ≠ x := fun z => hn (z ▸ hs)
    simpa using this
  have := h.del (x := x) (b := b)
  rwa [e] at this
abbrev putBody : Cz := match k46_apply_difference.body with
  | .cons _ (.cons _ (.cons _ (.cons (.forr _ _ b) _))) => b
  | _ => .nil
abbrev testBody : Cz := match k46_apply_difference.body with
  | .cons _ (.cons (.forr _ _ b) _) => b
  | _ => .nil
theorem apply_ok (asc : Asc sl) (hl : sl.length ≤ 1000) (hf : Sts sl f) (hc : Cgs sl c) : C46 (j + 2) 4 [.p (plc sl f), .p (chg sl c)] S = (appRz sl f c).res S := by
  have lo := ord_len (sl := sl) (f := f)
  have hL : LINE = 16777216 := rfl
  refine call_of (e := k46_E_apply_difference) rfl rfl ?_
  generalize hA : O.dt (kvOf slK (ord sl f) (sth f)) = A
  have t1 : C46 (j + 1) 1 [.p (plc sl f)] S = .ok (.ref S.length) (S ++ [A]) := by rw [← hA]; exact things_ok asc hl hf
  have dA : DicAt slK (S ++ [A]) S.length (ord sl f) (sth f) := .inl (by rw [← hA]; simp)
  have c1 : evC (M46 (j + 1)) (.asg (.nm 2) (.call 1 (.cons (.v 0) .nil))) [some (.p (plc sl f)), some (.p (chg sl c)), none, none, none, none, none] S = .nx [some (.p (plc sl f)), some (.p (chg sl c)), some (.ref S.length), none, none, none, none] (S ++ [A]) := stasg (ecall1 (evv rfl) t1) rfl
  have loop1 := forTX (tg := .tp [.nm 3, .nm 4, .nm 5]) (body := evCz (M46 (j + 1)) testBody) row (((rows sl c).map row).map .p) (fun o => ∃ x ρ, sl.find? (off f c) = some x ∧ o = .exc ⟨4, [("slot", .p (sP x))]⟩ ρ (S ++ [A]))
    (fun ps ρ T => (∃ a b e, ρ = [some (.p (plc sl f)), some (.p (chg sl c)), some (.ref S.length), a, b, e, none]) ∧ T = S ++ [A] ∧ ∀ r ∈ ps, f r.1 = r.2.1) (rows sl c)
    (by
      rintro ps r qs _ _ hx ⟨⟨a, b, e, rfl⟩, rfl, hb⟩
      obtain ⟨h1, h2⟩ := mem_rows.mp (show r ∈ rows sl c by rw [hx]; simp)
      obtain ⟨t1, t2⟩ := hc r.1 h1 r.2 h2
      refine ⟨[some (.p (plc sl f)), some (.p (chg sl c)), some (.ref S.length), some (.p (sP r.1)), some (.p r.2.1), some (.p r.2.2), none], rfl, ?_⟩
      have gA : dGet2 (.ref S.length) (.p (sP r.1)) (.p un) (S ++ [A]) = .ok (.p (f r.1)) (S ++ [A]) := by
        have := dA.get2 r.1 (.p un)
        rw [show sP r.1 = slK.g r.1 from rfl, this]
        by_cases q : f r.1 = un
        · rw [if_neg (by rw [ordIff r.1 h1]; simp [q]), q]
        · rw [if_pos ((ordIff r.1 h1).mpr q)]; rfl
      have ev : evE (M46 (j + 1)) (.cmp .NotEq (.dg2 (.v 2) (.v 3) (.tp .nil)) (.v 4)) [some (.p (plc sl f)), some (.p (chg sl c)), some (.ref S.length), some (.p (sP r.1)), some (.p r.2.1), some (.p r.2.2), none] (S ++ [A]) = .ok (.p (.bl (!decide (f r.1 = r.2.1)))) (S ++ [A]) :=
        ecmp (edg2 (evv rfl) dA.recv (evv rfl) etp0 gA) (evv rfl) (ne_nice (hf r.1 h1).nice t1.nice (by decide))
      by_cases q : f r.1 = r.2.1
      · refine .inl ⟨_, _, (evz_step (stif0 (ev.trans (by rw [decide_eq_true q]; rfl)))).trans (evz_nil ..), ⟨_, _, _, rfl⟩, rfl, fun y hy => ?_⟩
        rcases List.mem_append.mp hy with z | z
        · exact hb y z
        · rw [List.mem_singleton.mp z]; exact q
      · have hev : evCz (M46 (j + 1)) testBody [some (.p (plc sl f)), some (.p (chg sl c)), some (.ref S.length), some (.p (sP r.1)), some (.p r.2.1), some (.p r.2.2), none] (S ++ [A]) = .exc ⟨4, [("slot", .p (sP r.1))]⟩ [some (.p (plc sl f)), some (.p (chg sl c)), some (.ref S.length), some (.p (sP r.1)), some (.p r.2.1), some (.p r.2.2), none] (S ++ [A]) :=
          evz_exc (stif1 (ev.trans (by rw [decide_eq_false q]; rfl)) (evz_exc (strse (es1 (evv rfl) es0) rfl)))
        refine .inr ?_
        rw [hev]
        refine ⟨trivial, r.1, _, ?_, rfl⟩
        have h3 := rows_off c (fun r => decide (f r.1 ≠ r.2.1)) sl
        rw [hx, find_split (fun y hy => by simpa using hb y hy) (by simpa using q)] at h3
        exact h3.symm) (rows sl c) [] [some (.p (plc sl f)), some (.p (chg sl c)), some (.ref S.length), none, none, none, none] (S ++ [A]) rfl ⟨⟨_, _, _, rfl⟩, rfl, fun y hy => nomatch hy⟩
  unfold appRz
  rcases loop1 with ⟨ρ', S', e1, ⟨a, b, e0, rfl⟩, rfl, hall⟩ | ⟨o, e1, x, ρ', hfi, rfl⟩
  · have hfn : sl.find? (off f c) = none := by
      have h3 := rows_off c (fun r => decide (f r.1 ≠ r.2.1)) sl
      rw [List.find?_eq_none.mpr fun r hr => by simpa using hall r hr] at h3
      exact h3.symm
    rw [hfn]
    show _ = (placeRz sl (ap f c)).res S
    generalize hA' : O.df true (kvOf slK (ord sl f) (sth f)) = A'
    have wk : wkOf (.ref S.length) (S ++ [A]) = .ok ⟨(ord sl f).map fun s => .p (sP s), none⟩ (S ++ [A']) := by
      have := dA.walk
      rw [this, ← hA']
      simp [slK]
    have dA' : ∀ l, DicAt slK (S ++ (A' :: l)) S.length (ord sl f) (sth f) := fun l => .inr (by rw [← hA']; simp)
    have c2 : evC (M46 (j + 1)) (.asg (.nm 6) (.dcm true [3] (.nm 3) (.of (.v 2)) (.v 3) (.dix (.v 2) (.v 3)))) [some (.p (plc sl f)), some (.p (chg sl c)), some (.ref S.length), a, b, e0, none] (S ++ [A])
        = .nx [some (.p (plc sl f)), some (.p (chg sl c)), some (.ref S.length), a, b, e0, some (.ref (S.length + 1))] (S ++ [A', .dt (kvOf slK (ord sl f) (sth f))]) := by
      refine stasg ?_ rfl
      have := dcm_ev (Y := slK) (M := M46 (j + 1)) (own := [3]) (tg := .nm 3) (it := .of (.v 2)) (kx := .v 3) (vx := .dix (.v 2) (.v 3)) (ρ := [some (.p (plc sl f)), some (.p (chg sl c)), some (.ref S.length), a, b, e0, none]) (S := S ++ [A]) (w := ⟨(ord sl f).map fun s => .p (sP s), none⟩) (S1 := S ++ [A']) (fun s => D.p (sP s)) (fun s => s) (sth f) (ord sl f)
        (of_ev (evv rfl) wk) (by omega) rfl (fun _ => rfl) (by rw [List.map_id']; exact ord_nodup asc) (fun s hs => ⟨_, rfl, fun l => ⟨evv rfl, edix (evv rfl) (evv rfl) (by
          have := (dA' l).ix hs
          rw [List.append_assoc]
          exact this)⟩⟩)
      rw [List.map_id'] at this
      rw [this]
      simp
    have loop2 := forTX (tg := .tp [.nm 3, .nm 4, .nm 5]) (body := evCz (M46 (j + 1)) putBody) row (((rows sl c).map row).map .p) (fun _ => False)
      (fun ps ρ T => (∃ a b e, ρ = [some (.p (plc sl f)), some (.p (chg sl c)), some (.ref S.length), a, b, e, some (.ref (S.length + 1))]) ∧ ∃ ks F, T = S ++ [A', .dt (kvOf slK ks F)] ∧ Holds sl (ps.foldl up f) ks F) (rows sl c)
      (by
        rintro ps r qs _ _ hx ⟨⟨a, b, e, rfl⟩, ks, F, rfl, hh⟩
        obtain ⟨h1, h2⟩ := mem_rows.mp (show r ∈ rows sl c by rw [hx]; simp)
        obtain ⟨t1, t2⟩ := hc r.1 h1 r.2 h2
        have hlen : ks.length < LINE := by have := hh.len asc.nodup; omega
        have hT : (S ++ [A', O.dt (kvOf slK ks F)])[S.length + 1]? = some (.dt (kvOf slK ks F)) := by simp
        refine ⟨[some (.p (plc sl f)), some (.p (chg sl c)), some (.ref S.length), some (.p (sP r.1)), some (.p r.2.1), some (.p r.2.2), some (.ref (S.length + 1))], rfl, .inl ?_⟩
        have ev : evE (M46 (j + 1)) (.cmp .NotEq (.v 5) (.tp .nil)) [some (.p (plc sl f)), some (.p (chg sl c)), some (.ref S.length), some (.p (sP r.1)), some (.p r.2.1), some (.p r.2.2), some (.ref (S.length + 1))] (S ++ [A', .dt (kvOf slK ks F)]) = .ok (.p (.bl (!decide (r.2.2 = un)))) (S ++ [A', .dt (kvOf slK ks F)]) :=
          ecmp (evv rfl) etp0 (ne_nice t2.nice (show PD.nice 30 un = true from rfl) (by decide))
        rw [List.foldl_append, List.foldl_cons, List.foldl_nil]
        by_cases q : r.2.2 = un
        · have hin : ∀ b : Bool, (r.1 ∈ ks ↔ b = true) → evE (M46 (j + 1)) (.din false (.v 3) (.v 6)) [some (.p (plc sl f)), some (.p (chg sl c)), some (.ref S.length), some (.p (sP r.1)), some (.p r.2.1), some (.p r.2.2), some (.ref (S.length + 1))] (S ++ [A', .dt (kvOf slK ks F)]) = .ok (.p (.bl b)) (S ++ [A', .dt (kvOf slK ks F)]) := fun b hb => by
            refine edin (evv rfl) (evv rfl) ?_
            show dIn false (.p (slK.g r.1)) _ _ = _
            rw [DicAt.inn (Y := slK) (S := S ++ [A', .dt (kvOf slK ks F)]) (n := S.length + 1) (.inl hT) false r.1]
            cases b <;> simp [hb]
          have hu : up (ps.foldl up f) r = up (ps.foldl up f) (r.1, r.2.1, un) := by rw [← q]
          rw [hu]
          by_cases hk : r.1 ∈ ks
          · refine ⟨_, S ++ [A', .dt (kvOf slK (ks.filter fun s => decide (s ≠ r.1)) F)], (evz_step (stif2 (ev.trans (by rw [decide_eq_true q]; rfl)) ((evz_step (stif1 (hin true (by simp [hk])) ((evz_step (stddl (evv rfl) (evv rfl) ?_)).trans (evz_nil ..)))).trans (evz_nil ..)))).trans (evz_nil ..), ⟨_, _, _, rfl⟩, _, _, rfl, hh.del⟩
            have := ddel_of (Y := slK) hT hk
            rw [set1] at this
            exact this
          · exact ⟨_, _, (evz_step (stif2 (ev.trans (by rw [decide_eq_true q]; rfl)) ((evz_step (stif0 (hin false (by simp [hk])))).trans (evz_nil ..)))).trans (evz_nil ..), ⟨_, _, _, rfl⟩, _, _, rfl, hh.same hk⟩
        · obtain ⟨ks', hp, hh'⟩ : ∃ ks', dPut (.ref (S.length + 1)) (.p (sP r.1)) (.p r.2.2) (S ++ [A', .dt (kvOf slK ks F)]) = some (S ++ [A', .dt (kvOf slK ks' (fput F r.1 (.p r.2.2)))]) ∧ Holds sl (up (ps.foldl up f) r) ks' (fput F r.1 (.p r.2.2)) := by
            have h3 := dput_of (Y := slK) hT hlen r.1 (.p r.2.2)
            have h4 := hh.put h1 (b := r.2.1) q
            rw [set1] at h3
            by_cases hk : r.1 ∈ ks
            · rw [if_pos hk] at h3 h4; exact ⟨_, h3, h4⟩
            · rw [if_neg hk] at h3 h4; exact ⟨_, h3, h4⟩
          exact ⟨_, _, (evz_step (stif1 (ev.trans (by rw [decide_eq_false q]; rfl)) ((evz_step (stdsu (evv rfl) (evv rfl) (evv rfl) hp)).trans (evz_nil ..)))).trans (evz_nil ..), ⟨_, _, _, rfl⟩, _, _, rfl, hh'⟩) (rows sl c) [] [some (.p (plc sl f)), some (.p (chg sl c)), some (.ref S.length), a, b, e0, some (.ref (S.length + 1))] (S ++ [A', .dt (kvOf slK (ord sl f) (sth f))]) rfl ⟨⟨_, _, _, rfl⟩, _, _, rfl, ⟨ord_nodup asc, fun s => mem_ord, fun s hs => rfl⟩⟩
    rcases loop2 with ⟨ρ', S', e2, ⟨a2, b2, e3, rfl⟩, ks, F, rfl, hh⟩ | ⟨_, _, z⟩
    · have hap : ∀ s ∈ sl, (rows sl c).foldl up f s = ap f c s := fun s hs => by rw [up_all, if_pos hs]
      have pl := place_of_ok (g := ap f c) (S := S ++ [A', .dt (kvOf slK ks F)]) (n := S.length + 1) (j := j) (ks := ks) (F := F) asc hl (hf.ap hc) (.inl (by simp)) hh.nd
        (fun s => by
          rw [hh.mem]
          constructor
          · rintro ⟨z1, z2⟩; exact ⟨z1, by rw [← hap s z1]; exact z2⟩
          · rintro ⟨z1, z2⟩; exact ⟨z1, by rw [hap s z1]; exact z2⟩)
        (fun s hs => by rw [hh.val s hs, hap s ((hh.mem s).mp hs).1])
      have w1 : evW (M46 (j + 1)) (.of (.v 1)) [some (.p (plc sl f)), some (.p (chg sl c)), some (.ref S.length), none, none, none, none] (S ++ [A]) = .ok ⟨((rows sl c).map row).map .p, none⟩ (S ++ [A]) := wof (evv rfl)
      have w2 : evW (M46 (j + 1)) (.of (.v 1)) [some (.p (plc sl f)), some (.p (chg sl c)), some (.ref S.length), a, b, e0, some (.ref (S.length + 1))] (S ++ [A', .dt (kvOf slK (ord sl f) (sth f))]) = .ok ⟨((rows sl c).map row).map .p, none⟩ (S ++ [A', .dt (kvOf slK (ord sl f) (sth f))]) := wof (evv rfl)
      cases q : placeRz sl (ap f c) with
      | done x =>
        rw [q] at pl
        refine runB_rt (d := .p x) (S' := S ++ [A', .dt (kvOf slK ks F)]) ?_ (tidy_pa _ _)
        exact (evz_step c1).trans ((evz_step (stfor w1 e1)).trans ((evz_step c2).trans ((evz_step (stfor w2 e2)).trans (evz_end (stret (ecall1 (evv rfl) pl))))))
      | stale x =>
        rw [q] at pl
        refine runB_exc (x := ⟨4, [("slot", .p (sP x))]⟩) (ρ' := [some (.p (plc sl f)), some (.p (chg sl c)), some (.ref S.length), a2, b2, e3, some (.ref (S.length + 1))]) (S' := S ++ [A', .dt (kvOf slK ks F)]) ?_ (tidyX_same _ rfl)
        refine (evz_step c1).trans ((evz_step (stfor w1 e1)).trans ((evz_step c2).trans ((evz_step (stfor w2 e2)).trans (evz_exc ?_))))
        rw [evc_ret, ecall1 (evv rfl) pl]
        rfl
    · exact z.elim
  · rw [hfi]
    refine runB_exc (x := ⟨4, [("slot", .p (sP x))]⟩) (ρ' := ρ') (S' := S ++ [A]) ?_ (tidyX_same _ rfl)
    exact (evz_step c1).trans (evz_exc (stfor (wof (evv rfl)) e1))
end
end PH

set_option maxHeartbeats 4000000
/-! k46: the law's own reading: the thing in a slot, the difference, two joined. -/
namespace PH
open L2 PySem PySem.Spec PyProof.Rows
theorem filter_one {l : List Sl} (nd : l.Nodup) (s : Sl) {p : Sl → Bool} (h : ∀ e ∈ l, p e = true ↔ e = s) : l.filter p = if s ∈ l then [s] else [] := by
  induction l with
  | nil => rfl
  | cons x l ih =>
    have hn := List.nodup_cons.mp nd
    have ih := ih hn.2 fun e he => h e (List.mem_cons_of_mem _ he)
    rw [List.filter_cons, ih]
    by_cases e : x = s
    · subst e
      rw [if_pos ((h x List.mem_cons_self).mpr rfl), if_neg hn.1, if_pos List.mem_cons_self]
    · rw [if_neg (fun z => e ((h x List.mem_cons_self).mp z))]
      have : (s ∈ x :: l) ↔ s ∈ l := by simp [Ne.symm e]
      by_cases q : s ∈ l
      · rw [if_pos q, if_pos (this.mpr q)]
      · rw [if_neg q, if_neg (fun z => q (this.mp z))]
theorem stapp {M : Mo} {ρ : Nv} {S : Sto} {n : Nat} {xs : List PD} {y : PD} {a e : E} (h0 : evE M a ρ S = .ok (.ref n) S) (h : S[n]? = some (.pl xs)) (hl : xs.length < LINE) (he : evE M e ρ S = .ok (.p y) S) : evC M (.ex (.mth .append a (.cons e .nil))) ρ S = .nx ρ (S.set n (.pl (xs ++ [y]))) := by
  refine stex (d := .p .non) ?_
  rw [ev_mth, h0, Res.bind_ok', if_pos (recv_new h rfl rfl), es1 he es0, Res.bind_ok']
  exact app_at' h hl
theorem eq_nice {n k : Nat} {x y : PD} {S : Sto} (hx : x.nice n = true) (hy : y.nice k = true) (hn : n ≤ 64) : cmpI .Eq (.p x) (.p y) S = .ok (.p (.bl (decide (x = y)))) S := eq_of (eqI_p hx hy hn)
section
variable {sl : List Sl} {f g : Sl → PD} {c d : Chg} {S : Sto} {j n m : Nat}
theorem thing_ok (asc : Asc sl) (hl : sl.length ≤ 1000) (hf : Sts sl f) {s : Sl} (hs : s ∈ sl) : C46 (j + 1) 12 [.p (plc sl f), .p (sP s)] S = .ok (.p (f s)) S := by
  have ll : (live sl f).length ≤ sl.length := List.length_filter_le _ _
  have lp : (paks sl f).length ≤ sl.length := Nat.le_trans (List.length_filter_le _ _) ll
  have lc : (pcs sl f).length ≤ sl.length := Nat.le_trans (List.length_filter_le _ _) ll
  have hL : LINE = 16777216 := rfl
  refine call_of (e := k46_E_law_thing) rfl rfl ?_
  -- behind the row of what was found
  have fin : ∀ xs : List PD, (xs = [] ∧ f s = un ∨ xs = [f s]) → evCz (M46 j) (.cons (.ite (.cmp .Eq (.blt .len (.cons (.v 2) .nil)) (.k (.int 0))) (.cons (.ret (.tp .nil)) .nil) .nil) (.cons (.ret (.ix (.v 2) (.k (.int 0)))) .nil)) [some (.p (plc sl f)), some (.p (sP s)), some (.ref S.length), none, none] (S ++ [.pl xs]) = .rt (.p (f s)) (S ++ [.pl xs]) := fun xs hx => by
    have h0 : (S ++ [O.pl xs])[S.length]? = some (.pl xs) := by simp
    have ln : bltI .len [.ref S.length] (S ++ [.pl xs]) = .ok (.p (.int xs.length)) (S ++ [.pl xs]) := by rw [len_ref h0 rfl]; simp [O.ds]
    rcases hx with ⟨rfl, e⟩ | rfl
    · rw [e]
      exact evz_end (stif1 (ecmp (eblt1 (evv rfl) ln) (ev_k ..) (eq_int ..)) (evz_end (stret etp0)))
    · exact (evz_step (stif0 (ecmp (eblt1 (evv rfl) ln) (ev_k ..) (eq_int ..)))).trans (evz_end (stret (eix (evv rfl) (ev_k ..) (ix_data (xs := [f s]) (data_pl h0) rfl))))
  have hk : evE (M46 j) (.cmp .Eq (.ix (.v 1) (.k (.int 0))) (.k (.str [112, 97, 99, 107, 97, 103, 101]))) [some (.p (plc sl f)), some (.p (sP s)), none, none, none] S = .ok (.p (.bl (decide (s.1 = false)))) S :=
    ecmp (eix_k (i := 0) (xs := [.str (kd s.1), .str s.2]) (evv (i := 1) rfl) rfl) (ev_k ..) (kd_eq false)
  by_cases hb : s.1 = false
  · rw [decide_eq_true hb] at hk
    have hfil : (paks sl f).filter (fun e => decide (PD.str e.2 = PD.str s.2)) = if s ∈ paks sl f then [s] else [] := filter_one (paks_nodup asc) s fun e he => by
      have := (mem_paks.mp he).2.2
      simp only [decide_eq_true_eq, PD.str.injEq]
      exact ⟨fun z => Prod.ext (this.trans hb.symm) z, fun z => by rw [z]⟩
    have h1 := lcI_ev1 (M := M46 j) (own := [3]) (tg := .nm 3) (it := .of (.ix (.v 0) (.k (.int 0)))) (c := .cmp .Eq (.ix (.v 3) (.k (.int 0))) (.ix (.v 1) (.k (.int 1)))) (elt := .v 3) (ρ := [some (.p (plc sl f)), some (.p (sP s)), none, none, none]) (S := S) (w := ⟨((paks sl f).map f).map .p, none⟩) (fun e => D.p (f e)) (fun e => decide (PD.str e.2 = PD.str s.2)) f (paks sl f)
      (wof (eix_k (i := 0) (evv rfl) rfl)) (by omega) (by simp) (fun _ => rfl) (fun e he => ⟨_, rfl, fun l => ⟨by
        obtain ⟨_, r, e2⟩ := paks_form hf he
        exact bindT (ecmp (eix_k (i := 0) (evv (by rw [e2]; rfl)) rfl) (eix_k (i := 1) (xs := [.str (kd s.1), .str s.2]) (evv (i := 1) rfl) rfl) (eq_nice (n := 0) (k := 0) rfl rfl (by decide))), fun _ => evv rfl⟩⟩)
    rw [hfil] at h1
    refine runB_rt (d := .p (f s)) (S' := S ++ [.pl ((if s ∈ paks sl f then [s] else []).map f)]) ?_ (tidy_pa _ _)
    refine (evz_step (ρ1 := [some (.p (plc sl f)), some (.p (sP s)), some (.ref S.length), none, none]) (stif1 hk ((evz_step (stasg h1 rfl)).trans (evz_nil ..)))).trans (fin _ ?_)
    by_cases q : s ∈ paks sl f
    · rw [if_pos q]; exact .inr rfl
    · rw [if_neg q]
      refine .inl ⟨rfl, Decidable.byContradiction fun z => q (mem_paks.mpr ⟨hs, z, hb⟩)⟩
  · have hb' : s.1 = true := by simpa using hb
    rw [decide_eq_false hb] at hk
    have hfil : (pcs sl f).filter (fun e => decide (PD.str e.2 = PD.str s.2)) = if s ∈ pcs sl f then [s] else [] := filter_one (pcs_nodup asc) s fun e he => by
      have := (mem_pcs.mp he).2.2
      simp only [decide_eq_true_eq, PD.str.injEq]
      exact ⟨fun z => Prod.ext (this.trans hb'.symm) z, fun z => by rw [z]⟩
    have h1 := lcI_ev1 (M := M46 j) (own := [4]) (tg := .nm 4) (it := .of (.ix (.v 0) (.k (.int 1)))) (c := .cmp .Eq (.ix (.v 4) (.k (.int 0))) (.ix (.v 1) (.k (.int 1)))) (elt := .ix (.v 4) (.k (.int 1))) (ρ := [some (.p (plc sl f)), some (.p (sP s)), none, none, none]) (S := S) (w := ⟨((pcs sl f).map (pair f)).map .p, none⟩) (fun e => D.p (pair f e)) (fun e => decide (PD.str e.2 = PD.str s.2)) f (pcs sl f)
      (wof (eix_k (i := 1) (evv rfl) rfl)) (by omega) (by simp) (fun _ => rfl) (fun e he => ⟨_, rfl, fun l => ⟨
        bindT (ecmp (eix_k (i := 0) (xs := [.str e.2, f e]) (evv (i := 4) rfl) rfl) (eix_k (i := 1) (xs := [.str (kd s.1), .str s.2]) (evv (i := 1) rfl) rfl) (eq_nice (n := 0) (k := 0) rfl rfl (by decide))), fun _ => eix_k (i := 1) (xs := [.str e.2, f e]) (evv (i := 4) rfl) rfl⟩⟩)
    rw [hfil] at h1
    refine runB_rt (d := .p (f s)) (S' := S ++ [.pl ((if s ∈ pcs sl f then [s] else []).map f)]) ?_ (tidy_pa _ _)
    refine (evz_step (ρ1 := [some (.p (plc sl f)), some (.p (sP s)), some (.ref S.length), none, none]) (stif2 hk ((evz_step (stasg h1 rfl)).trans (evz_nil ..)))).trans (fin _ ?_)
    by_cases q : s ∈ pcs sl f
    · rw [if_pos q]; exact .inr rfl
    · rw [if_neg q]
      refine .inl ⟨rfl, Decidable.byContradiction fun z => q (mem_pcs.mpr ⟨hs, z, hb'⟩)⟩
theorem ldiff_ok (asc : Asc sl) (hl : sl.length ≤ 1000) (hf : Sts sl f) (hg : Sts sl g) (hm : S[m]? = some (.pl (sl.map sP))) : C46 (j + 2) 13 [.ref m, .p (plc sl f), .p (plc sl g)] S = .ok (.p (chg sl (dfc f g))) S := by
  have hL : LINE = 16777216 := rfl
  have loop := forWX (w := ⟨(sl.map sP).map .p, some (m, .pl (sl.map sP))⟩) (tg := .nm 4) (body := evCz (M46 (j + 1)) (.cons (.ite (.cmp .NotEq (.call 12 (.cons (.v 1) (.cons (.v 4) .nil))) (.call 12 (.cons (.v 2) (.cons (.v 4) .nil)))) (.cons (.ex (.mth .append (.v 3) (.cons (.tp (.cons (.v 4) (.cons (.call 12 (.cons (.v 1) (.cons (.v 4) .nil))) (.cons (.call 12 (.cons (.v 2) (.cons (.v 4) .nil))) .nil)))) .nil))) .nil) .nil) .nil)) sP (fun _ => False)
    (fun ps ρ T => (∃ a, ρ = [some (.ref m), some (.p (plc sl f)), some (.p (plc sl g)), some (.ref S.length), a]) ∧ T = S ++ [.pl ((rows ps (dfc f g)).map row)]) (fun ps ρ T ⟨_, h⟩ => by rw [h]; exact still_pl (pre_get hm)) sl
    (by
      rintro ps x qs _ _ hx ⟨⟨a, rfl⟩, rfl⟩
      have hxm : x ∈ sl := by rw [hx]; simp
      generalize hT : S ++ [O.pl ((rows ps (dfc f g)).map row)] = T
      have ht : T[S.length]? = some (.pl ((rows ps (dfc f g)).map row)) := by rw [← hT]; simp
      refine ⟨[some (.ref m), some (.p (plc sl f)), some (.p (plc sl g)), some (.ref S.length), some (.p (sP x))], rfl, .inl ?_⟩
      have v1 : evE (M46 (j + 1)) (.call 12 (.cons (.v 1) (.cons (.v 4) .nil))) [some (.ref m), some (.p (plc sl f)), some (.p (plc sl g)), some (.ref S.length), some (.p (sP x))] T = .ok (.p (f x)) T := ecall2 (evv rfl) (evv rfl) (thing_ok asc hl hf hxm)
      have v2 : evE (M46 (j + 1)) (.call 12 (.cons (.v 2) (.cons (.v 4) .nil))) [some (.ref m), some (.p (plc sl f)), some (.p (plc sl g)), some (.ref S.length), some (.p (sP x))] T = .ok (.p (g x)) T := ecall2 (evv rfl) (evv rfl) (thing_ok asc hl hg hxm)
      have ev := ecmp v1 v2 (ne_nice (S := T) (hf x hxm).nice (hg x hxm).nice (by decide))
      by_cases q : f x = g x
      · refine ⟨_, T, (evz_step (stif0 (ev.trans (by rw [decide_eq_true q]; rfl)))).trans (evz_nil ..), ⟨_, rfl⟩, ?_⟩
        rw [← hT, rows_snoc]; simp [dfc, q]
      · have hlen : ((rows ps (dfc f g)).map row).length < LINE := by
          have := rows_len ps (dfc f g)
          have : ps.length ≤ sl.length := by rw [hx]; simp
          simp only [List.length_map]; omega
        refine ⟨_, T.set S.length (.pl ((rows ps (dfc f g)).map row ++ [row (x, f x, g x)])), (evz_step (stif1 (ev.trans (by rw [decide_eq_false q]; rfl)) ((evz_step (stex (d := .p .non) ?_)).trans (evz_nil ..)))).trans (evz_nil ..), ⟨_, rfl⟩, ?_⟩
        · rw [ev_mth, evv rfl, Res.bind_ok', if_pos (recv_new ht rfl rfl), es1 (etp3 (evv rfl) v1 v2) es0, Res.bind_ok']
          exact app_at' ht hlen
        · rw [← hT, rows_snoc]; simp [dfc, q]) sl [] [some (.ref m), some (.p (plc sl f)), some (.p (plc sl g)), some (.ref S.length), none] (S ++ [.pl []]) rfl ⟨⟨_, rfl⟩, by simp [rows]⟩
  rcases loop with ⟨ρ', S', e, ⟨a, rfl⟩, rfl⟩ | ⟨_, _, z⟩
  · refine call_of (e := k46_E_law_difference) rfl rfl (runB_rt (d := .p (chg sl (dfc f g))) (S' := S ++ [.pl ((rows sl (dfc f g)).map row)]) ?_ (tidy_pa _ _))
    exact (evz_step (ρ1 := [some (.ref m), some (.p (plc sl f)), some (.p (plc sl g)), some (.ref S.length), none]) (S1 := S ++ [.pl []]) (stasg els0 rfl)).trans ((evz_step (stfor (of_ev (evv rfl) (wk_pl (pre_get hm))) e)).trans (evz_end (stretT (evv rfl) (data_pl (by simp)))))
  · exact z.elim
/-- the rows of one slot -/
theorem rows_at (h : sl.Nodup) {s : Sl} (hs : s ∈ sl) : (rows sl c).filter (fun r => decide (sP r.1 = sP s)) = ((c s).map fun p => (s, p.1, p.2)).toList := by
  induction sl with
  | nil => cases hs
  | cons x sl ih =>
    have hn := List.nodup_cons.mp h
    have hr : rows (x :: sl) c = ((c x).map fun p => (x, p.1, p.2)).toList ++ rows sl c := by
      unfold rows
      rw [List.filterMap_cons]
      cases q : c x <;> simp
    rw [hr, List.filter_append]
    by_cases e : x = s
    · subst e
      have : (rows sl c).filter (fun r => decide (sP r.1 = sP x)) = [] := List.filter_eq_nil_iff.mpr fun r hr' => by
        have := (mem_rows.mp hr').1
        have hne : r.1 ≠ x := fun z => hn.1 (z ▸ this)
        simpa using fun z => hne (sP_inj z)
      rw [this]
      cases q : c x <;> simp
    · rw [ih hn.2 (by simpa [Ne.symm e] using hs)]
      have hne : ¬ sP x = sP s := fun z => e (sP_inj z)
      cases q : c x <;> simp [hne]
theorem ljoin_ok (asc : Asc sl) (hl : sl.length ≤ 1000) (hc : Cgs sl c) (hd : Cgs sl d) (hm : S[m]? = some (.pl (sl.map sP))) : C46 (j + 1) 16 [.ref m, .p (chg sl c), .p (chg sl d)] S = .ok (.p (joinRz sl c d).pd) S := by
  have hL : LINE = 16777216 := rfl
  have lc := rows_len sl c
  have ld := rows_len sl d
  let R0 : Nat → Option D → Option D → Option D → Nv := fun nf a b e => [some (.ref m), some (.p (chg sl c)), some (.p (chg sl d)), some (.ref nf), a, b, none, e]
  have loop := forWX (w := ⟨(sl.map sP).map .p, some (m, .pl (sl.map sP))⟩) (tg := .nm 4) (body := evCz (M46 j) (match k46_law_joined.body with
      | .cons _ (.cons (.forr _ _ b) _) => b
      | _ => .nil)) sP (fun o => ∃ x T, sl.find? (bad c d) = some x ∧ o = .rt (.p (.tup [tStale, sP x])) T ∧ ∃ l, T = S ++ l)
    (fun ps ρ T => (∃ nf a b e, ρ = R0 nf a b e ∧ S.length ≤ nf ∧ T[nf]? = some (.pl ((rows ps (jc c d)).map row))) ∧ (∃ l, T = S ++ l) ∧ ∀ y ∈ ps, bad c d y = false) (fun ps ρ T ⟨_, ⟨l, h⟩, _⟩ => by rw [h]; exact still_pl (pre_get hm)) sl
    (by
      rintro ps x qs _ T hx ⟨⟨nf, a, b, e, rfl, hge, hnf⟩, ⟨l, hTl⟩, hb⟩
      have hxm : x ∈ sl := by rw [hx]; simp
      have hpl : (rows ps (jc c d)).length ≤ sl.length := by
        have := rows_len ps (jc c d)
        have : ps.length ≤ sl.length := by rw [hx]; simp
        omega
      refine ⟨R0 nf (some (.p (sP x))) b e, rfl, ?_⟩
      -- the rows of the slot
      let oC : List PD := (((c x).map fun p => (x, p.1, p.2)).toList : List Row).map row
      let oD : List PD := (((d x).map fun p => (x, p.1, p.2)).toList : List Row).map row
      have one : ∀ (cc : Chg) (a : E) (lr : (rows sl cc).length ≤ sl.length) (ρ : Nv) (U : Sto), ρ[6]? = some none → (∀ r : Row, ∀ l, evE (M46 j) a ρ (U ++ l) = .ok (.p (chg sl cc)) (U ++ l)) → evE (M46 j) a ρ U = .ok (.p (chg sl cc)) U → ρ[4]? = some (some (.p (sP x))) → 6 < ρ.length →
          evE (M46 j) (.lcI [6] (.nm 6) (.of a) (.cmp .Eq (.ix (.v 6) (.k (.int 0))) (.v 4)) (.v 6)) ρ U = .ok (.ref U.length) (U ++ [.pl ((((cc x).map fun p => (x, p.1, p.2)).toList : List Row).map row)]) := fun cc a lr ρ U h6 _ ha h4 hlen => by
        have := lcI_ev1 (M := M46 j) (own := [6]) (tg := .nm 6) (it := .of a) (c := .cmp .Eq (.ix (.v 6) (.k (.int 0))) (.v 4)) (elt := .v 6) (ρ := ρ) (S := U) (w := ⟨((rows sl cc).map row).map .p, none⟩) (fun r => D.p (row r)) (fun r => decide (sP r.1 = sP x)) row (rows sl cc)
          (wof ha) (by omega) (by simp) (fun _ => rfl) (fun r hr => ⟨(wipeN ρ [6]).set 6 (some (.p (row r))), rfl, fun l => by
            have e6 : ((wipeN ρ [6]).set 6 (some (.p (row r))))[6]? = some (some (.p (row r))) := List.getElem?_set_self (by simpa [wipeN] using hlen)
            have e4 : ((wipeN ρ [6]).set 6 (some (.p (row r))))[4]? = some (some (.p (sP x))) := by
              rw [List.getElem?_set_ne (by decide), wipeN, wipeN, List.getElem?_set_ne (by decide)]; exact h4
            exact ⟨bindT (ecmp (eix_k (i := 0) (xs := [sP r.1, r.2.1, r.2.2]) (evv e6) rfl) (evv e4) (eq_nice (n := 1) (k := 1) rfl rfl (by decide))), fun _ => evv e6⟩⟩)
        rw [rows_at asc.nodup hxm] at this
        exact this
      have s1 : evC (M46 j) (.asg (.nm 5) (.lcI [6] (.nm 6) (.of (.v 1)) (.cmp .Eq (.ix (.v 6) (.k (.int 0))) (.v 4)) (.v 6))) (R0 nf (some (.p (sP x))) b e) T = .nx (R0 nf (some (.p (sP x))) (some (.ref T.length)) e) (T ++ [.pl oC]) :=
        stasg (one c (.v 1) lc _ T rfl (fun _ l => evv rfl) (evv rfl) rfl (by simp [R0])) rfl
      have s2 : evC (M46 j) (.asg (.nm 7) (.lcI [6] (.nm 6) (.of (.v 2)) (.cmp .Eq (.ix (.v 6) (.k (.int 0))) (.v 4)) (.v 6))) (R0 nf (some (.p (sP x))) (some (.ref T.length)) e) (T ++ [.pl oC]) = .nx (R0 nf (some (.p (sP x))) (some (.ref T.length)) (some (.ref (T.length + 1)))) (T ++ [.pl oC, .pl oD]) :=
        stasg (by
          have := one d (.v 2) ld (R0 nf (some (.p (sP x))) (some (.ref T.length)) e) (T ++ [.pl oC]) rfl (fun _ l => evv rfl) (evv rfl) rfl (by simp [R0])
          simpa using this) rfl
      generalize hU : T ++ [O.pl oC, .pl oD] = U at s2
      have u1 : U[T.length]? = some (.pl oC) := by rw [← hU]; simp
      have u2 : U[T.length + 1]? = some (.pl oD) := by rw [← hU]; simp
      have u3 : U[nf]? = some (.pl ((rows ps (jc c d)).map row)) := by rw [← hU]; exact pre_get hnf
      have u4 : ∃ l, U = S ++ l := ⟨l ++ [.pl oC, .pl oD], by rw [← hU, hTl, List.append_assoc]⟩
      have ln1 : bltI .len [.ref T.length] U = .ok (.p (.int oC.length)) U := by rw [len_ref u1 rfl]; simp [O.ds]
      have ln2 : bltI .len [.ref (T.length + 1)] U = .ok (.p (.int oD.length)) U := by rw [len_ref u2 rfl]; simp [O.ds]
      let ρ2 : Nv := R0 nf (some (.p (sP x))) (some (.ref T.length)) (some (.ref (T.length + 1)))
      have tst : evE (M46 j) (.bo .Or (.cons (.cmp .Eq (.blt .len (.cons (.v 5) .nil)) (.k (.int 0))) (.cons (.cmp .Eq (.blt .len (.cons (.v 7) .nil)) (.k (.int 0))) .nil))) ρ2 U = .ok (.p (.bl (decide ((oC.length : Int) = 0) || decide ((oD.length : Int) = 0)))) U :=
        eor2 (ecmp (eblt1 (evv rfl) ln1) (ev_k ..) (eq_int ..)) (ecmp (eblt1 (evv rfl) ln2) (ev_k ..) (eq_int ..))
      have hbs : bad c d x = false → ∀ y ∈ ps ++ [x], bad c d y = false := fun h y hy => by
        rcases List.mem_append.mp hy with z | z
        · exact hb y z
        · rw [List.mem_singleton.mp z]; exact h
      have loc : oC.length ≤ 1 := by simp only [oC, List.length_map]; cases c x <;> simp
      have lod : oD.length ≤ 1 := by simp only [oD, List.length_map]; cases d x <;> simp
      -- found = found + one + two
      have addC : ∃ V n3, evC (M46 j) (.asg (.nm 3) (.bin .Add (.bin .Add (.v 3) (.v 5)) (.v 7))) ρ2 U = .nx (R0 n3 (some (.p (sP x))) (some (.ref T.length)) (some (.ref (T.length + 1)))) V ∧ V[n3]? = some (.pl ((rows ps (jc c d)).map row ++ oC ++ oD)) ∧ S.length ≤ n3 ∧ ∃ l, V = U ++ l := by
        refine ⟨U ++ [.pl ((rows ps (jc c d)).map row ++ oC), .pl ((rows ps (jc c d)).map row ++ oC ++ oD)], U.length + 1, stasg (ebin (ebin (evv rfl) (evv rfl) (bin_addL u3 u1 (by simp; omega))) (evv rfl) ?_) rfl, by simp, by obtain ⟨l4, e4⟩ := u4; rw [e4, List.length_append]; omega, _, rfl⟩
        rw [bin_addL (a := (rows ps (jc c d)).map row ++ oC) (b := oD) (by simp) (pre_get u2) (by simp; omega)]
        simp
      cases q1 : c x with
      | none =>
        have eC : oC = [] := by simp [oC, q1]
        obtain ⟨V, n3, a1, a2, a4, l3, a3⟩ := addC
        refine .inl ⟨_, V, (evz_step s1).trans ((evz_step s2).trans ((evz_step (stif1 (tst.trans (by rw [eC]; rfl)) ((evz_step a1).trans (evz_nil ..)))).trans (evz_nil ..))), ⟨n3, _, _, _, rfl, a4, ?_⟩, ?_, hbs (by simp [bad, q1])⟩
        · rw [a2, rows_snoc, eC]
          cases q2 : d x <;> simp [jc, q1, q2, oD]
        · obtain ⟨l4, hl4⟩ := u4
          exact ⟨l4 ++ l3, by rw [a3, hl4, List.append_assoc]⟩
      | some p =>
        cases q2 : d x with
        | none =>
          have eD : oD = [] := by simp [oD, q2]
          obtain ⟨V, n3, a1, a2, a4, l3, a3⟩ := addC
          refine .inl ⟨_, V, (evz_step s1).trans ((evz_step s2).trans ((evz_step (stif1 (tst.trans (by rw [eD]; simp)) ((evz_step a1).trans (evz_nil ..)))).trans (evz_nil ..))), ⟨n3, _, _, _, rfl, a4, ?_⟩, ?_, hbs (by simp [bad, q1, q2])⟩
          · rw [a2, rows_snoc, eD]
            simp [jc, q1, q2, oC]
          · obtain ⟨l4, hl4⟩ := u4
            exact ⟨l4 ++ l3, by rw [a3, hl4, List.append_assoc]⟩
        | some q =>
          have eC : oC = [row (x, p.1, p.2)] := by simp [oC, q1]
          have eD : oD = [row (x, q.1, q.2)] := by simp [oD, q2]
          obtain ⟨np1, np2⟩ := hc x hxm p q1
          obtain ⟨nq1, nq2⟩ := hd x hxm q q2
          have tst0 := tst.trans (show _ = Res.ok (D.p (.bl false)) U by rw [eC, eD]; rfl)
          have gC : ∀ (i : Nat) y, [sP x, p.1, p.2][i]? = some y → evE (M46 j) (.ix (.ix (.v 5) (.k (.int 0))) (.k (.int (i : Int)))) ρ2 U = .ok (.p y) U := fun i y hy => eix_k (eix (evv rfl) (ev_k ..) (ix_data (xs := oC) (data_pl u1) (by rw [eC]; rfl))) hy
          have gD : ∀ (i : Nat) y, [sP x, q.1, q.2][i]? = some y → evE (M46 j) (.ix (.ix (.v 7) (.k (.int 0))) (.k (.int (i : Int)))) ρ2 U = .ok (.p y) U := fun i y hy => eix_k (eix (evv rfl) (ev_k ..) (ix_data (xs := oD) (data_pl u2) (by rw [eD]; rfl))) hy
          have t1 := ecmp (gC 2 p.2 rfl) (gD 1 q.1 rfl) (ne_nice (S := U) np2.nice nq1.nice (by decide))
          have t2 := ecmp (gC 1 p.1 rfl) (gD 2 q.2 rfl) (ne_nice (S := U) np1.nice nq2.nice (by decide))
          by_cases e1 : p.2 = q.1
          · have hbx : bad c d x = false := by simp [bad, q1, q2, e1]
            by_cases e2 : p.1 = q.2
            · refine .inl ⟨ρ2, U, (evz_step s1).trans ((evz_step s2).trans ((evz_step (stif2 tst0 ((evz_step (stif2 (t1.trans (by rw [decide_eq_true e1]; rfl)) ((evz_step (stif0 (t2.trans (by rw [decide_eq_true e2]; rfl)))).trans (evz_nil ..)))).trans (evz_nil ..)))).trans (evz_nil ..))), ⟨nf, _, _, _, rfl, hge, ?_⟩, u4, hbs hbx⟩
              rw [u3, rows_snoc]; simp [jc, q1, q2, e2]
            · refine .inl ⟨ρ2, U.set nf (.pl ((rows ps (jc c d)).map row ++ [row (x, p.1, q.2)])), (evz_step s1).trans ((evz_step s2).trans ((evz_step (stif2 tst0 ((evz_step (stif2 (t1.trans (by rw [decide_eq_true e1]; rfl)) ((evz_step (stif1 (t2.trans (by rw [decide_eq_false e2]; rfl)) ((evz_step (stapp (evv rfl) u3 (by simp; omega) (etp3 (evv rfl) (gC 1 p.1 rfl) (gD 2 q.2 rfl)))).trans (evz_nil ..)))).trans (evz_nil ..)))).trans (evz_nil ..)))).trans (evz_nil ..))), ⟨nf, _, _, _, rfl, hge, ?_⟩, ?_, hbs hbx⟩
              · rw [List.getElem?_set_self (List.getElem?_eq_some_iff.mp u3).1, rows_snoc]; simp [jc, q1, q2, e2]
              · obtain ⟨l4, e4⟩ := u4
                exact ⟨l4.set (nf - S.length) _, by rw [e4, List.set_append_right _ _ hge]⟩
          · have hbx : bad c d x = true := by simp [bad, q1, q2, e1]
            refine .inr ?_
            have hev : evCz (M46 j) (match k46_law_joined.body with
      | .cons _ (.cons (.forr _ _ b) _) => b
      | _ => .nil) (R0 nf (some (.p (sP x))) b e) T = .rt (.p (.tup [tStale, sP x])) U :=
              (evz_step s1).trans ((evz_step s2).trans (evz_end (stif2 tst0 (evz_end (stif1 (t1.trans (by rw [decide_eq_false e1]; rfl)) (evz_end (stret (etp2 (ev_k ..) (evv rfl)))))))))
            rw [hev]
            exact ⟨trivial, x, U, by rw [hx]; exact find_split hb hbx, rfl, u4⟩) sl [] (R0 S.length none none none) (S ++ [.pl []]) rfl ⟨⟨_, _, _, _, rfl, Nat.le_refl _, by simp [rows]⟩, ⟨_, rfl⟩, fun y hy => nomatch hy⟩
  refine call_of (e := k46_E_law_joined) rfl rfl ?_
  have c1 : evC (M46 j) (.asg (.nm 3) (.ls .nil)) [some (.ref m), some (.p (chg sl c)), some (.p (chg sl d)), none, none, none, none, none] S = .nx (R0 S.length none none none) (S ++ [.pl []]) := stasg els0 rfl
  have w1 : evW (M46 j) (.of (.v 0)) (R0 S.length none none none) (S ++ [.pl []]) = .ok ⟨(sl.map sP).map .p, some (m, .pl (sl.map sP))⟩ (S ++ [.pl []]) := of_ev (evv rfl) (wk_pl (pre_get hm))
  unfold joinRz
  rcases loop with ⟨ρ', S', e, ⟨nf, a, b, e0, rfl, hge, hnf⟩, ⟨l, rfl⟩, hb⟩ | ⟨o, e, x, T, hfi, rfl, l, rfl⟩
  · have hfn : sl.find? (bad c d) = none := List.find?_eq_none.mpr fun y hy => by rw [hb y hy]; decide
    rw [hfn]
    refine runB_rt (d := .p (.tup [tDone, chg sl (jc c d)])) (S' := S ++ l) ?_ (tidy_pa _ _)
    exact (evz_step c1).trans ((evz_step (stfor w1 e)).trans (evz_end (stret (etp2 (ev_k ..) (eblt1 (evv rfl) (tuple_ev (data_pl hnf)))))))
  · rw [hfi]
    refine runB_rt (d := .p (.tup [tStale, sP x])) (S' := S ++ l) ?_ (tidy_pa _ _)
    exact (evz_step c1).trans (evz_end (stfor w1 e))
end
end PH

set_option maxHeartbeats 4000000
/-! k46: the law's own reading: a difference applied, what the program did. -/
namespace PH
open L2 PySem PySem.Spec PyProof.Rows
theorem live_snoc (ps : List Sl) (x : Sl) (g : Sl → PD) : live (ps ++ [x]) g = live ps g ++ if g x ≠ un then [x] else [] := by
  unfold live
  rw [List.filter_append, List.filter_cons, List.filter_nil]
  by_cases h : g x = un <;> simp [h]
theorem paks_snoc (ps : List Sl) (x : Sl) (g : Sl → PD) : paks (ps ++ [x]) g = paks ps g ++ if g x ≠ un ∧ x.1 = false then [x] else [] := by
  unfold paks
  rw [live_snoc, List.filter_append]
  by_cases h : g x = un
  · simp [h]
  · cases h2 : x.1 <;> simp [h, h2]
theorem pcs_snoc (ps : List Sl) (x : Sl) (g : Sl → PD) : pcs (ps ++ [x]) g = pcs ps g ++ if g x ≠ un ∧ x.1 = true then [x] else [] := by
  unfold pcs
  rw [live_snoc, List.filter_append]
  by_cases h : g x = un
  · simp [h]
  · cases h2 : x.1 <;> simp [h, h2]
section
variable {sl : List Sl} {f g : Sl → PD} {c d : Chg} {S : Sto} {j n m : Nat}
abbrev apB1 : Cz := match k46_law_applied.body with
  | .cons (.forr _ _ b) _ => b
  | _ => .nil
abbrev apB2 : Cz := match k46_law_applied.body with
  | .cons _ (.cons _ (.cons _ (.cons (.forr _ _ b) _))) => b
  | _ => .nil
abbrev apB3 : Cz := match k46_law_applied.body with
  | .cons _ (.cons _ (.cons _ (.cons _ (.cons (.forr _ _ b) _)))) => b
  | _ => .nil
theorem set_2a {S : Sto} {a b y : O} : (S ++ [a, b]).set S.length y = S ++ [y, b] := by simp
theorem set_2b {S : Sto} {a b y : O} : (S ++ [a, b]).set (S.length + 1) y = S ++ [a, y] := by simp
theorem lapply_ok (asc : Asc sl) (hl : sl.length ≤ 1000) (hf : Sts sl f) (hc : Cgs sl c) (hm : S[m]? = some (.pl (sl.map sP))) : C46 (j + 2) 15 [.ref m, .p (plc sl f), .p (chg sl c)] S = .ok (.p (appRz sl f c).pd) S := by
  have hL : LINE = 16777216 := rfl
  generalize hg : ap f c = g
  have hgs : Sts sl g := by rw [← hg]; exact hf.ap hc
  have lrow := rows_len sl c
  let P0 : D := .p (plc sl f)
  let Q0 : D := .p (chg sl c)
  -- does a row begin with something else
  have loop1 := forTX (tg := .tp [.nm 3, .nm 4, .nm 5]) (body := evCz (M46 (j + 1)) apB1) row (((rows sl c).map row).map .p) (fun o => ∃ x, sl.find? (off f c) = some x ∧ o = .rt (.p (.tup [tStale, sP x])) S)
    (fun ps ρ T => (∃ a b e, ρ = [some (.ref m), some P0, some Q0, a, b, e, none, none, none, none, none, none, none]) ∧ T = S ∧ ∀ r ∈ ps, f r.1 = r.2.1) (rows sl c)
    (by
      rintro ps r qs _ T hx ⟨⟨a, b, e, rfl⟩, hT, hb⟩
      subst T
      obtain ⟨h1, h2⟩ := mem_rows.mp (show r ∈ rows sl c by rw [hx]; simp)
      obtain ⟨t1, t2⟩ := hc r.1 h1 r.2 h2
      refine ⟨[some (.ref m), some P0, some Q0, some (.p (sP r.1)), some (.p r.2.1), some (.p r.2.2), none, none, none, none, none, none, none], rfl, ?_⟩
      have ev : evE (M46 (j + 1)) (.cmp .NotEq (.call 12 (.cons (.v 1) (.cons (.v 3) .nil))) (.v 4)) [some (.ref m), some P0, some Q0, some (.p (sP r.1)), some (.p r.2.1), some (.p r.2.2), none, none, none, none, none, none, none] S = .ok (.p (.bl (!decide (f r.1 = r.2.1)))) S :=
        ecmp (ecall2 (evv rfl) (evv rfl) (thing_ok asc hl hf h1)) (evv rfl) (ne_nice (hf r.1 h1).nice t1.nice (by decide))
      by_cases q : f r.1 = r.2.1
      · refine .inl ⟨_, _, (evz_step (stif0 (ev.trans (by rw [decide_eq_true q]; rfl)))).trans (evz_nil ..), ⟨_, _, _, rfl⟩, rfl, fun y hy => ?_⟩
        rcases List.mem_append.mp hy with z | z
        · exact hb y z
        · rw [List.mem_singleton.mp z]; exact q
      · have hev : evCz (M46 (j + 1)) apB1 [some (.ref m), some P0, some Q0, some (.p (sP r.1)), some (.p r.2.1), some (.p r.2.2), none, none, none, none, none, none, none] S = .rt (.p (.tup [tStale, sP r.1])) S :=
          evz_end (stif1 (ev.trans (by rw [decide_eq_false q]; rfl)) (evz_end (stret (etp2 (ev_k ..) (evv rfl)))))
        refine .inr ?_
        rw [hev]
        refine ⟨trivial, r.1, ?_, rfl⟩
        have h3 := rows_off c (fun r => decide (f r.1 ≠ r.2.1)) sl
        rw [hx, find_split (fun y hy => by simpa using hb y hy) (by simpa using q)] at h3
        exact h3.symm) (rows sl c) [] [some (.ref m), some P0, some Q0, none, none, none, none, none, none, none, none, none, none] S rfl ⟨⟨_, _, _, rfl⟩, rfl, fun y hy => nomatch hy⟩
  refine call_of (e := k46_E_law_applied) rfl rfl ?_
  unfold appRz
  rw [hg]
  rcases loop1 with ⟨ρ', S', e1, ⟨a, b, e0, rfl⟩, rfl, hall⟩ | ⟨o, e1, x, hfi, rfl⟩
  · have hfn : sl.find? (off f c) = none := by
      have h3 := rows_off c (fun r => decide (f r.1 ≠ r.2.1)) sl
      rw [List.find?_eq_none.mpr fun r hr => by simpa using hall r hr] at h3
      exact h3.symm
    rw [hfn]
    show _ = Res.ok (D.p (placeRz sl g).pd) S'
    let R1 : Option D → Option D → Option D → Option D → Option D → Nv := fun a b e t u => [some (.ref m), some P0, some Q0, a, b, e, some (.ref S'.length), some (.ref (S'.length + 1)), t, u, none, none, none]
    have s2 : evC (M46 (j + 1)) (.asg (.nm 6) (.ls .nil)) [some (.ref m), some P0, some Q0, a, b, e0, none, none, none, none, none, none, none] S' = .nx [some (.ref m), some P0, some Q0, a, b, e0, some (.ref S'.length), none, none, none, none, none, none] (S' ++ [.pl []]) := stasg els0 rfl
    have s3 : evC (M46 (j + 1)) (.asg (.nm 7) (.ls .nil)) [some (.ref m), some P0, some Q0, a, b, e0, some (.ref S'.length), none, none, none, none, none, none] (S' ++ [.pl []]) = .nx (R1 a b e0 none none) (S' ++ [.pl [], .pl []]) := stasg (els0.trans (by simp)) rfl
    -- slot by slot
    have loop2 := forWX (w := ⟨(sl.map sP).map .p, some (m, .pl (sl.map sP))⟩) (tg := .nm 3) (body := evCz (M46 (j + 1)) apB2) sP (fun _ => False)
      (fun ps ρ T => (∃ a b e t u, ρ = R1 a b e t u) ∧ T = S' ++ [.pl ((paks ps g).map g), .pl ((pcs ps g).map (pair g))]) (fun ps ρ T ⟨_, h⟩ => by rw [h]; exact still_pl (pre_get hm)) sl
      (by
        rintro ps x qs _ _ hx ⟨⟨a, b, e, t, u, rfl⟩, rfl⟩
        have hxm : x ∈ sl := by rw [hx]; simp
        have hpl : ps.length ≤ sl.length := by rw [hx]; simp
        have l1 : ((paks ps g).map g).length < LINE := by
          have h1 : (live ps g).length ≤ ps.length := List.length_filter_le _ _
          have h2 : (paks ps g).length ≤ (live ps g).length := List.length_filter_le _ _
          simp only [List.length_map]; omega
        have l2 : ((pcs ps g).map (pair g)).length < LINE := by
          have h1 : (live ps g).length ≤ ps.length := List.length_filter_le _ _
          have h2 : (pcs ps g).length ≤ (live ps g).length := List.length_filter_le _ _
          simp only [List.length_map]; omega
        generalize hT : S' ++ [O.pl ((paks ps g).map g), .pl ((pcs ps g).map (pair g))] = T
        have t1 : T[S'.length]? = some (.pl ((paks ps g).map g)) := by rw [← hT]; simp
        have t2 : T[S'.length + 1]? = some (.pl ((pcs ps g).map (pair g))) := by rw [← hT]; simp
        refine ⟨R1 (some (.p (sP x))) b e t u, rfl, .inl ?_⟩
        have a1 : evC (M46 (j + 1)) (.asg (.nm 8) (.call 12 (.cons (.v 1) (.cons (.v 3) .nil)))) (R1 (some (.p (sP x))) b e t u) T = .nx (R1 (some (.p (sP x))) b e (some (.p (f x))) u) T := stasg (ecall2 (evv rfl) (evv rfl) (thing_ok asc hl hf hxm)) rfl
        -- the rows once more
        obtain ⟨ρ2, S2, e2, ⟨b2, e3, u2, rfl⟩, hS2⟩ := forT (tg := .tp [.nm 9, .nm 4, .nm 5]) (body := evCz (M46 (j + 1)) (.cons (.ite (.cmp .Eq (.v 9) (.v 3)) (.cons (.asg (.nm 8) (.v 5)) .nil) .nil) .nil)) (ρ := R1 (some (.p (sP x))) b e (some (.p (f x))) u) (S := T) row (((rows sl c).map row).map .p)
          (fun rs ρ U => (∃ b e u, ρ = R1 (some (.p (sP x))) b e (some (.p (rs.foldl up f x))) u) ∧ U = T) (rows sl c)
          (by
            rintro rs r ts _ U hr ⟨⟨b, e, u, rfl⟩, hU⟩
            subst U
            refine ⟨R1 (some (.p (sP x))) (some (.p r.2.1)) (some (.p r.2.2)) (some (.p (rs.foldl up f x))) (some (.p (sP r.1))), rfl, ?_⟩
            have ev : evE (M46 (j + 1)) (.cmp .Eq (.v 9) (.v 3)) (R1 (some (.p (sP x))) (some (.p r.2.1)) (some (.p r.2.2)) (some (.p (rs.foldl up f x))) (some (.p (sP r.1)))) T = .ok (.p (.bl (decide (sP r.1 = sP x)))) T := ecmp (evv rfl) (evv rfl) (eq_nice (n := 1) (k := 1) rfl rfl (by decide))
            rw [List.foldl_append, List.foldl_cons, List.foldl_nil]
            by_cases q : x = r.1
            · have hv : up (rs.foldl up f) r x = r.2.2 := by simp [up, q]
              rw [hv]
              exact ⟨R1 (some (.p (sP x))) (some (.p r.2.1)) (some (.p r.2.2)) (some (.p r.2.2)) (some (.p (sP r.1))), T, (evz_step (stif1 (ev.trans (by rw [decide_eq_true (by rw [q])])) ((evz_step (stasg (evv rfl) rfl)).trans (evz_nil ..)))).trans (evz_nil ..), ⟨_, _, _, rfl⟩, rfl⟩
            · have hv : up (rs.foldl up f) r x = rs.foldl up f x := by simp [up, q]
              rw [hv]
              exact ⟨_, T, (evz_step (stif0 (ev.trans (by rw [decide_eq_false fun z => q (sP_inj z).symm])))).trans (evz_nil ..), ⟨_, _, _, rfl⟩, rfl⟩) ⟨⟨_, _, _, rfl⟩, rfl⟩
        subst S2
        have hgx : (rows sl c).foldl up f x = g x := by rw [up_all, if_pos hxm, ← hg]
        rw [hgx] at e2
        have a2 : evC (M46 (j + 1)) (.forr (.tp [(.nm 9), (.nm 4), (.nm 5)]) (.of (.v 2)) (.cons (.ite (.cmp .Eq (.v 9) (.v 3)) (.cons (.asg (.nm 8) (.v 5)) .nil) .nil) .nil)) (R1 (some (.p (sP x))) b e (some (.p (f x))) u) T = .nx (R1 (some (.p (sP x))) b2 e3 (some (.p (g x))) u2) T := stfor (wof (evv rfl)) e2
        have ne : evE (M46 (j + 1)) (.cmp .NotEq (.v 8) (.tp .nil)) (R1 (some (.p (sP x))) b2 e3 (some (.p (g x))) u2) T = .ok (.p (.bl (!decide (g x = un)))) T := ecmp (evv rfl) etp0 (ne_nice (hgs x hxm).nice (show PD.nice 30 un = true from rfl) (by decide))
        have hk : evE (M46 (j + 1)) (.cmp .Eq (.ix (.v 3) (.k (.int 0))) (.k (.str [112, 97, 99, 107, 97, 103, 101]))) (R1 (some (.p (sP x))) b2 e3 (some (.p (g x))) u2) T = .ok (.p (.bl (decide (x.1 = false)))) T :=
          ecmp (eix_k (i := 0) (xs := [.str (kd x.1), .str x.2]) (evv (i := 3) rfl) rfl) (ev_k ..) (kd_eq false)
        by_cases q : g x = un
        · have n0 := ne.trans (show _ = Res.ok (D.p (.bl false)) T by rw [decide_eq_true q]; rfl)
          refine ⟨R1 (some (.p (sP x))) b2 e3 (some (.p (g x))) u2, T, (evz_step a1).trans ((evz_step a2).trans ((evz_step (stif2 (eand0 n0) ((evz_step (stif0 n0)).trans (evz_nil ..)))).trans (evz_nil ..))), ⟨_, _, _, _, _, rfl⟩, ?_⟩
          rw [paks_snoc, pcs_snoc, ← hT]; simp [q]
        · have n1 := ne.trans (show _ = Res.ok (D.p (.bl true)) T by rw [decide_eq_false q]; rfl)
          by_cases hb : x.1 = false
          · rw [decide_eq_true hb] at hk
            refine ⟨R1 (some (.p (sP x))) b2 e3 (some (.p (g x))) u2, _, (evz_step a1).trans ((evz_step a2).trans ((evz_step (stif1 (eand1 n1 (ebo1 hk)) ((evz_step (stapp (evv rfl) t1 l1 (evv rfl))).trans (evz_nil ..)))).trans (evz_nil ..))), ⟨_, _, _, _, _, rfl⟩, ?_⟩
            rw [paks_snoc, pcs_snoc, ← hT, set_2a]; simp [q, hb]
          · have hb' : x.1 = true := by simpa using hb
            rw [decide_eq_false hb] at hk
            refine ⟨R1 (some (.p (sP x))) b2 e3 (some (.p (g x))) u2, _, (evz_step a1).trans ((evz_step a2).trans ((evz_step (stif2 (eand1 n1 (ebo1 hk)) ((evz_step (stif1 n1 ((evz_step (stapp (evv rfl) t2 l2 (etp2 (eix_k (i := 1) (xs := [.str (kd x.1), .str x.2]) (evv (i := 3) rfl) rfl) (evv rfl)))).trans (evz_nil ..)))).trans (evz_nil ..)))).trans (evz_nil ..))), ⟨_, _, _, _, _, rfl⟩, ?_⟩
            rw [paks_snoc, pcs_snoc, ← hT, set_2b]; simp [q, hb', pair]) sl [] (R1 a b e0 none none) (S' ++ [.pl [], .pl []]) rfl ⟨⟨_, _, _, _, _, rfl⟩, by simp [paks, pcs, live]⟩
    rcases loop2 with ⟨ρ', S2, e2, ⟨a2, b2, e3, t, u, rfl⟩, rfl⟩ | ⟨_, _, z⟩
    · let R2 : Option D → Option D → Nv := fun y z => [some (.ref m), some P0, some Q0, a2, b2, e3, some (.ref S'.length), some (.ref (S'.length + 1)), t, u, y, z, none]
      have ll : (live sl g).length ≤ sl.length := List.length_filter_le _ _
      have lp : (paks sl g).length ≤ sl.length := Nat.le_trans (List.length_filter_le _ _) ll
      let nms : List PD := (paks sl g).map fun s => .str s.2
      have loop3 := forWX (w := ⟨((pcs sl g).map (pair g)).map .p, some (S'.length + 1, .pl ((pcs sl g).map (pair g)))⟩) (tg := .tp [.nm 10, .nm 11]) (body := evCz (M46 (j + 1)) apB3) (pair g) (fun o => ∃ p l, (pcs sl g).find? (lost sl g) = some p ∧ o = .rt (.p (.tup [tStale, sP p])) (S' ++ l))
        (fun ps ρ T => (∃ y z, ρ = R2 y z) ∧ (∃ l, T = S' ++ (.pl ((paks sl g).map g) :: .pl ((pcs sl g).map (pair g)) :: l)) ∧ ∀ y ∈ ps, lost sl g y = false) (fun ps ρ T ⟨_, ⟨l, h⟩, _⟩ => by rw [h]; exact still_pl (by simp)) (pcs sl g)
        (by
          rintro ps x qs _ T hx ⟨⟨y, z, rfl⟩, ⟨l, hT⟩, hb⟩
          have hxm : x ∈ pcs sl g := by rw [hx]; simp
          obtain ⟨ex, mm, e4⟩ := pcs_form hgs hxm
          have t1 : T[S'.length]? = some (.pl ((paks sl g).map g)) := by rw [hT]; simp
          refine ⟨R2 (some (.p (.str x.2))) (some (.p (g x))), rfl, ?_⟩
          have hlc : evE (M46 (j + 1)) (.lc [12] (.nm 12) (.of (.v 6)) (.ix (.v 12) (.k (.int 0)))) (R2 (some (.p (.str x.2))) (some (.p (g x)))) T = .ok (.ref T.length) (T ++ [.pl nms]) :=
            lc_ev1 (fun s => D.p (g s)) (fun s => .str s.2) (paks sl g) (of_ev (evv rfl) (wk_pl t1)) (by omega) (by simp) (fun l => still_pl (pre_get t1)) (fun s hs => ⟨_, rfl, fun l => by
              obtain ⟨_, r, e⟩ := paks_form hgs hs
              exact eix_k (i := 0) (evv (by rw [e]; rfl)) rfl⟩)
          have g4 : (T ++ [O.pl nms])[T.length]? = some (.pl nms) := by simp
          have hin : evE (M46 (j + 1)) (.cmp .NotIn (.v 11) (.lc [12] (.nm 12) (.of (.v 6)) (.ix (.v 12) (.k (.int 0))))) (R2 (some (.p (.str x.2))) (some (.p (g x)))) T = .ok (.p (.bl (lost sl g x))) (T ++ [.pl nms]) := by
            refine ecmp (evv rfl) hlc ?_
            have h1 : (g x).nice 0 = true := by rw [e4]; rfl
            have h2 : PD.nices 0 nms = true := by rw [nices_iff]; intro y hy; obtain ⟨s, _, rfl⟩ := List.mem_map.mp hy; rfl
            exact cmp_nin (in_ref g4 h1 h2 (by decide))
          have hT2 : ∃ l, T ++ [O.pl nms] = S' ++ (.pl ((paks sl g).map g) :: .pl ((pcs sl g).map (pair g)) :: l) := ⟨l ++ [.pl nms], by rw [hT]; simp⟩
          cases hq : lost sl g x with
          | false =>
            rw [hq] at hin
            refine .inl ⟨_, _, (evz_step (stif0 hin)).trans (evz_nil ..), ⟨_, _, rfl⟩, hT2, fun y hy => ?_⟩
            rcases List.mem_append.mp hy with z | z
            · exact hb y z
            · rw [List.mem_singleton.mp z]; exact hq
          | true =>
            rw [hq] at hin
            obtain ⟨l2, hT2⟩ := hT2
            have hk : sP x = .tup [.str [112, 105, 101, 99, 101], .str x.2] := by rw [ex]; rfl
            have hev : evCz (M46 (j + 1)) apB3 (R2 (some (.p (.str x.2))) (some (.p (g x)))) T = .rt (.p (.tup [tStale, sP x])) (T ++ [.pl nms]) := by
              rw [hk]
              exact evz_end (stif1 hin (evz_end (stret (etp2 (ev_k ..) (etp2 (ev_k ..) (evv rfl))))))
            refine .inr ?_
            rw [hev]
            exact ⟨trivial, x, _, by rw [hx]; exact find_split hb hq, by rw [hT2]⟩) (pcs sl g) [] (R2 none none) (S' ++ [.pl ((paks sl g).map g), .pl ((pcs sl g).map (pair g))]) rfl ⟨⟨_, _, rfl⟩, ⟨[], rfl⟩, fun y hy => nomatch hy⟩
      have w1 : evW (M46 (j + 1)) (.of (.v 2)) [some (.ref m), some P0, some Q0, none, none, none, none, none, none, none, none, none, none] S' = .ok ⟨((rows sl c).map row).map .p, none⟩ S' := wof (evv rfl)
      have w2 : evW (M46 (j + 1)) (.of (.v 0)) (R1 a b e0 none none) (S' ++ [.pl [], .pl []]) = .ok ⟨(sl.map sP).map .p, some (m, .pl (sl.map sP))⟩ (S' ++ [.pl [], .pl []]) := of_ev (evv rfl) (wk_pl (pre_get hm))
      have w3 : evW (M46 (j + 1)) (.of (.v 7)) (R2 none none) (S' ++ [.pl ((paks sl g).map g), .pl ((pcs sl g).map (pair g))]) = .ok ⟨((pcs sl g).map (pair g)).map .p, some (S'.length + 1, .pl ((pcs sl g).map (pair g)))⟩ (S' ++ [.pl ((paks sl g).map g), .pl ((pcs sl g).map (pair g))]) := of_ev (evv rfl) (wk_pl (by simp))
      unfold placeRz
      rcases loop3 with ⟨ρ', S3, e4, ⟨y, z, rfl⟩, ⟨l, rfl⟩, hb⟩ | ⟨o, e4, p, l, hfi, rfl⟩
      · have hfn : (pcs sl g).find? (lost sl g) = none := List.find?_eq_none.mpr fun y hy => by rw [hb y hy]; decide
        rw [hfn]
        refine runB_rt (d := .p (.tup [tDone, plc sl g])) (S' := S' ++ (.pl ((paks sl g).map g) :: .pl ((pcs sl g).map (pair g)) :: l)) ?_ (tidy_pa _ _)
        exact (evz_step (stfor w1 e1)).trans ((evz_step s2).trans ((evz_step s3).trans ((evz_step (stfor w2 e2)).trans ((evz_step (stfor w3 e4)).trans (evz_end (stret (etp2 (ev_k ..) (etp2 (eblt1 (evv rfl) (tuple_ev (data_pl (by simp)))) (eblt1 (evv rfl) (tuple_ev (data_pl (by simp)))))))))))) 
      · rw [hfi]
        refine runB_rt (d := .p (.tup [tStale, sP p])) (S' := S' ++ l) ?_ (tidy_pa _ _)
        exact (evz_step (stfor w1 e1)).trans ((evz_step s2).trans ((evz_step s3).trans ((evz_step (stfor w2 e2)).trans (evz_end (stfor w3 e4)))))
    · exact z.elim
  · rw [hfi]
    refine runB_rt (d := .p (.tup [tStale, sP x])) (S' := S) ?_ (tidy_p _)
    exact evz_end (stfor (wof (evv rfl)) e1)
end
end PH

set_option maxHeartbeats 4000000
/-! k46: the law: what the program did; its slots, changes. -/
namespace PH
open L2 PySem PySem.Spec PyProof.Rows
section
variable {sl : List Sl} {f g : Sl → PD} {c d : Chg} {S : Sto} {j n m : Nat}
def wApply : Cs := [97, 112, 112, 108, 121]
def wJoin : Cs := [106, 111, 105, 110]
theorem did_ok {way : Cs} {x y : PD} {R : Rz} (h : (if way = wApply then C46 (j + 2) 4 [.p x, .p y] S else C46 (j + 2) 6 [.p x, .p y] S) = R.res S) : C46 (j + 3) 18 [.p (.str way), .p x, .p y] S = .ok (.p R.pd) S := by
  refine call_of (e := k46_E_law_did) rfl rfl (runB_rt (d := .p R.pd) (S' := S) ?_ (tidy_p _))
  have tst : evE (M46 (j + 2)) (.cmp .Eq (.v 0) (.k (.str [97, 112, 112, 108, 121]))) [some (.p (.str way)), some (.p x), some (.p y), none, none] S = .ok (.p (.bl (decide (PD.str way = PD.str wApply)))) S := ecmp (evv rfl) (ev_k ..) (eq_nice (n := 0) (k := 0) rfl rfl (by decide))
  have hd : decide (PD.str way = PD.str wApply) = decide (way = wApply) := by simp
  rw [hd] at tst
  cases R with
  | done z =>
    have body : evCz (M46 (j + 2)) (.cons (.ite (.cmp .Eq (.v 0) (.k (.str [97, 112, 112, 108, 121]))) (.cons (.asg (.nm 3) (.call 4 (.cons (.v 1) (.cons (.v 2) .nil)))) .nil) (.cons (.asg (.nm 3) (.call 6 (.cons (.v 1) (.cons (.v 2) .nil)))) .nil)) .nil) [some (.p (.str way)), some (.p x), some (.p y), none, none] S
        = .nx [some (.p (.str way)), some (.p x), some (.p y), some (.p z), none] S := by
      by_cases hw : way = wApply
      · rw [if_pos hw] at h
        rw [decide_eq_true hw] at tst
        exact (evz_step (stif1 tst ((evz_step (stasg (ecall2 (evv rfl) (evv rfl) h) rfl)).trans (evz_nil ..)))).trans (evz_nil ..)
      · rw [if_neg hw] at h
        rw [decide_eq_false hw] at tst
        exact (evz_step (stif2 tst ((evz_step (stasg (ecall2 (evv rfl) (evv rfl) h) rfl)).trans (evz_nil ..)))).trans (evz_nil ..)
    exact (evz_step (trx_no body fun _ _ _ => by simp)).trans (evz_end (stret (etp2 (ev_k ..) (evv rfl))))
  | stale s =>
    have body : evCz (M46 (j + 2)) (.cons (.ite (.cmp .Eq (.v 0) (.k (.str [97, 112, 112, 108, 121]))) (.cons (.asg (.nm 3) (.call 4 (.cons (.v 1) (.cons (.v 2) .nil)))) .nil) (.cons (.asg (.nm 3) (.call 6 (.cons (.v 1) (.cons (.v 2) .nil)))) .nil)) .nil) [some (.p (.str way)), some (.p x), some (.p y), none, none] S
        = .exc ⟨4, [("slot", .p (sP s))]⟩ [some (.p (.str way)), some (.p x), some (.p y), none, none] S := by
      by_cases hw : way = wApply
      · rw [if_pos hw] at h
        rw [decide_eq_true hw] at tst
        exact evz_exc (stif1 tst (evz_exc (stasgX (ecall2 (evv rfl) (evv rfl) h))))
      · rw [if_neg hw] at h
        rw [decide_eq_false hw] at tst
        exact evz_exc (stif2 tst (evz_exc (stasgX (ecall2 (evv rfl) (evv rfl) h))))
    refine evz_end (trx_exc (fs := [("slot", sP s)]) body (by simp) rfl rfl fun p q => ?_)
    have hM : (Mo.at (M46 (j + 2)) p q 4).glob XC = some (.tup [.int p, .int q, .int (4 : Nat)]) := by simp [Mo.at]
    have isx : ∀ cs, evE (Mo.at (M46 (j + 2)) p q 4) (.isx 4 cs) [some (.p (.str way)), some (.p x), some (.p y), none, some (.xv p q 4 [("slot", sP s)])] S = .ok (.p (.bl (cs.any (subX 4)))) S := fun cs => ev_isx (fs := [("slot", sP s)]) rfl hM
    have fl : evE (Mo.at (M46 (j + 2)) p q 4) (.fld 4 "slot") [some (.p (.str way)), some (.p x), some (.p y), none, some (.xv p q 4 [("slot", sP s)])] S = .ok (.p (sP s)) S := ev_fld (fs := [("slot", sP s)]) rfl hM rfl
    have r : evCz (Mo.at (M46 (j + 2)) p q 4) (.cons (.ite (.bo .Or (.cons (.no (.isx 4 [1000])) (.cons (.no (.isx 4 [1001])) .nil))) (.cons (.ret (.tp (.cons (.k (.str [111, 116, 104, 101, 114])) (.cons (.tp .nil) .nil)))) .nil) .nil)
        (.cons (.ite (.isx 4 [0, 1, 2, 3]) (.cons (.ret (.tp (.cons (.k (.str [111, 116, 104, 101, 114])) (.cons (.tp .nil) .nil)))) .nil) .nil)
        (.cons (.ret (.tp (.cons (.k (.str [115, 116, 97, 108, 101])) (.cons (.fld 4 "slot") .nil)))) .nil))) [some (.p (.str way)), some (.p x), some (.p y), none, some (.xv p q 4 [("slot", sP s)])] S = .rt (.p (.tup [tStale, sP s])) S :=
      (evz_step (stif0 (eor0 (enot1 (isx [1000])) (ebo1 (enot1 (isx [1001])))))).trans ((evz_step (stif0 (isx [0, 1, 2, 3]))).trans (evz_end (stret (etp2 (ev_k ..) fl))))
    show (evCz (Mo.at (M46 (j + 2)) p q 4) _ [some (.p (.str way)), some (.p x), some (.p y), none, some (.xv p q 4 [("slot", sP s)])] S).gone 4 = _
    rw [r]
    rfl
end
end PH

set_option maxHeartbeats 4000000
/-! k46: the law's names, entries. -/
namespace PH
open L2 PySem PySem.Spec PyProof.Rows
def wds : List Cs := [[108, 105, 98], [122], [97, 112, 112, 45, 99, 111, 114, 101], [98, 50], [109, 97, 105, 108, 45, 101, 114, 57], [99], [108, 105, 98, 50], [97, 98]]
def stems : List Cs := [[], [120], [112, 97, 99, 107, 45], [109, 48, 45, 109]]
def tails46 : List Cs := [[], [45, 121], [57]]
def ltrs : Cs := [109, 122, 98, 107, 97, 116, 113, 100]
def nmE (r : Nat) : List Cs := (List.range 5).map fun k => wds.getD ((r + 3 * k) % 8) []
def nmO (s t q : Nat) : List Cs := (List.range 5).map fun k => stems.getD s [] ++ [ltrs.getD ((q + 5 * k) % 8) 0] ++ tails46.getD t []
def sLog : Cs := [108, 111, 103]
def sZip : Cs := [122, 105, 112, 45, 55]
/-- five names that serve -/
def Nms (ns : List Cs) : Prop := ns.length = 5 ∧ ns.Nodup ∧ (ns.getD 0 []) ≠ sLog ∧ (ns.getD 0 []) ≠ sZip ∧ ∀ n ∈ ns, n.length ≤ 20
instance (ns : List Cs) : Decidable (Nms ns) := by unfold Nms; infer_instance
theorem nmE_ok : ∀ r, r < 8 → Nms (nmE r) := by decide +kernel
theorem nmO_ok : ∀ s, s < 4 → ∀ t, t < 3 → ∀ q, q < 8 → Nms (nmO s t q) := by decide +kernel
section
variable {S : Sto} {j : Nat}
theorem ix_strs {S : Sto} {n : Nat} {xs : List Cs} {i : Nat} (h : S[n]? = some (.pl (xs.map .str))) (hi : i < xs.length) : ixI (.ref n) (.p (.int (i : Int))) S = .ok (.p (.str (xs.getD i []))) S := by
  refine ix_data (data_pl h) (atI_nat ?_)
  simp [hi]
theorem names_ok {a b : Int} (ha : 0 ≤ a) (hb : 0 ≤ b) : ∃ ns, Nms ns ∧ C46 (j + 1) 8 [.p (.int a), .p (.int b), .p (.int 5)] S = .ok (.ref S.length) (S ++ [.pl (ns.map .str)]) := by
  obtain ⟨B, rfl⟩ := Int.eq_ofNat_of_zero_le hb
  have hL : LINE = 16777216 := rfl
  have tst : ∀ T, evE (M46 j) (.cmp .Eq (.bin .Mod (.blt .int (.cons (.v 0) .nil)) (.k (.int 2))) (.k (.int 0))) [some (.p (.int a)), some (.p (.int (B : Int))), some (.p (.int 5)), none, none, none, none] T = .ok (.p (.bl (decide (a % 2 = 0)))) T := fun T =>
    ecmp (ebin (eblt1 (evv rfl) (int_int ..)) (ev_k ..) (bin_mod (by decide))) (ev_k ..) (eq_int ..)
  by_cases h2 : a % 2 = 0
  · refine ⟨nmE (B % 8), nmE_ok _ (Nat.mod_lt _ (by decide)), call_of (e := k46_E_law_names) rfl rfl (runB_rt (d := .ref (S.length + 1)) (S' := S ++ [.pl (wds.map .str), .pl ((nmE (B % 8)).map .str)]) ?_ (tidy_new' (by omega) (by simp)))⟩
    have hw : (S ++ [O.pl (wds.map .str)])[S.length]? = some (.pl (wds.map .str)) := by simp
    have lc := lc_rg (M := M46 j) (own := [4]) (tg := .nm 4) (it := .rg1 (.v 2)) (elt := .ix (.v 3) (.bin .Mod (.blt .int (.cons (.bin .Add (.v 1) (.bin .Mult (.k (.int 3)) (.v 4))) .nil)) (.k (.int 8)))) (ρ := [some (.p (.int a)), some (.p (.int (B : Int))), some (.p (.int 5)), some (.ref S.length), none, none, none]) (S := S ++ [.pl (wds.map .str)]) (n := 5) (fun k => .str (wds.getD ((B % 8 + 3 * k) % 8) []))
      (rg1_nat (n := 5) (evv rfl) (by decide)) (by decide) (fun k hk => ⟨_, rfl, fun l => by
        have e1 : ((B : Int) + 3 * (k : Int)) % 8 = (((B % 8 + 3 * k) % 8 : Nat) : Int) := by omega
        refine eix (d2 := .p (.int (((B % 8 + 3 * k) % 8 : Nat) : Int))) (evv rfl) (ebin (eblt1 (ebin (evv rfl) (ebin (ev_k ..) (evv rfl) (bin_mulL _ (by decide))) (bin_add ..)) (int_int ..)) (ev_k ..) ((bin_mod (by decide)).trans (by rw [e1]))) (ix_strs (pre_get hw) (Nat.mod_lt _ (by decide)))⟩)
    refine evz_end (stif1 ((tst S).trans (by rw [decide_eq_true h2])) ((evz_step (ρ1 := [some (.p (.int a)), some (.p (.int (B : Int))), some (.p (.int 5)), some (.ref S.length), none, none, none]) (S1 := S ++ [.pl (wds.map .str)]) (stasg ?_ rfl)).trans (evz_end (stret (lc.trans ?_)))))
    · rw [ev_ls]; simp only [evs_cons, evs_nil, ev_k, Res.bind_ok']; rfl
    · simp [nmE, List.map_map, Function.comp_def]
  · refine ⟨nmO (B % 4) (B / 4 % 3) (B / 12 % 8), nmO_ok _ (Nat.mod_lt _ (by decide)) _ (Nat.mod_lt _ (by decide)) _ (Nat.mod_lt _ (by decide)), call_of (e := k46_E_law_names) rfl rfl (runB_rt (d := .ref (S.length + 2)) (S' := S ++ [.pl (stems.map .str), .pl (tails46.map .str), .pl ((nmO (B % 4) (B / 4 % 3) (B / 12 % 8)).map .str)]) ?_ (tidy_new' (by omega) (by simp)))⟩
    have e4 : (B : Int) % 4 = ((B % 4 : Nat) : Int) := by omega
    have e3 : (B : Int) / 4 % 3 = ((B / 4 % 3 : Nat) : Int) := by omega
    let st := stems.getD (B % 4) []
    let tl := tails46.getD (B / 4 % 3) []
    have sl : st.length ≤ 5 := (show ∀ i, i < 4 → (stems.getD i []).length ≤ 5 by decide) _ (Nat.mod_lt _ (by decide))
    have tll : tl.length ≤ 2 := (show ∀ i, i < 3 → (tails46.getD i []).length ≤ 2 by decide) _ (Nat.mod_lt _ (by decide))
    have s1 : evC (M46 j) (.asg (.nm 5) (.ix (.ls (.cons (.k (.str [])) (.cons (.k (.str [120])) (.cons (.k (.str [112, 97, 99, 107, 45])) (.cons (.k (.str [109, 48, 45, 109])) .nil))))) (.bin .Mod (.blt .int (.cons (.v 1) .nil)) (.k (.int 4))))) [some (.p (.int a)), some (.p (.int (B : Int))), some (.p (.int 5)), none, none, none, none] S
        = .nx [some (.p (.int a)), some (.p (.int (B : Int))), some (.p (.int 5)), none, none, some (.p (.str st)), none] (S ++ [.pl (stems.map .str)]) :=
      stasg (eix (d1 := .ref S.length) (S1 := S ++ [.pl (stems.map .str)]) (d2 := .p (.int ((B % 4 : Nat) : Int))) (by rw [ev_ls]; simp only [evs_cons, evs_nil, ev_k, Res.bind_ok']; rfl) (ebin (eblt1 (evv rfl) (int_int ..)) (ev_k ..) ((bin_mod (by decide)).trans (by rw [e4]))) (ix_strs (by simp) (Nat.mod_lt _ (by decide)))) rfl
    have s2 : evC (M46 j) (.asg (.nm 6) (.ix (.ls (.cons (.k (.str [])) (.cons (.k (.str [45, 121])) (.cons (.k (.str [57])) .nil)))) (.bin .Mod (.bin .FloorDiv (.blt .int (.cons (.v 1) .nil)) (.k (.int 4))) (.k (.int 3))))) [some (.p (.int a)), some (.p (.int (B : Int))), some (.p (.int 5)), none, none, some (.p (.str st)), none] (S ++ [.pl (stems.map .str)])
        = .nx [some (.p (.int a)), some (.p (.int (B : Int))), some (.p (.int 5)), none, none, some (.p (.str st)), some (.p (.str tl))] (S ++ [.pl (stems.map .str), .pl (tails46.map .str)]) :=
      stasg (eix (d1 := .ref (S.length + 1)) (S1 := S ++ [.pl (stems.map .str), .pl (tails46.map .str)]) (d2 := .p (.int ((B / 4 % 3 : Nat) : Int))) (by rw [ev_ls]; simp only [evs_cons, evs_nil, ev_k, Res.bind_ok']; simp [mkL, allP, tails46]) (ebin (ebin (eblt1 (evv rfl) (int_int ..)) (ev_k ..) (bin_div (by decide))) (ev_k ..) ((bin_mod (by decide)).trans (by rw [e3]))) (ix_strs (by simp) (Nat.mod_lt _ (by decide)))) rfl
    have lc := lc_rg (M := M46 j) (own := [4]) (tg := .nm 4) (it := .rg1 (.v 2)) (elt := .bin .Add (.bin .Add (.v 5) (.ix (.k (.str [109, 122, 98, 107, 97, 116, 113, 100])) (.bin .Mod (.blt .int (.cons (.bin .Add (.bin .FloorDiv (.v 1) (.k (.int 12))) (.bin .Mult (.k (.int 5)) (.v 4))) .nil)) (.k (.int 8))))) (.v 6))
      (ρ := [some (.p (.int a)), some (.p (.int (B : Int))), some (.p (.int 5)), none, none, some (.p (.str st)), some (.p (.str tl))]) (S := S ++ [.pl (stems.map .str), .pl (tails46.map .str)]) (n := 5) (fun k => .str (st ++ [ltrs.getD ((B / 12 % 8 + 5 * k) % 8) 0] ++ tl))
      (rg1_nat (n := 5) (evv rfl) (by decide)) (by decide) (fun k hk => ⟨_, rfl, fun l => by
        have e1 : ((B : Int) / 12 + 5 * (k : Int)) % 8 = (((B / 12 % 8 + 5 * k) % 8 : Nat) : Int) := by omega
        have hx : ∀ U, ixI (.p (.str ltrs)) (.p (.int (((B / 12 % 8 + 5 * k) % 8 : Nat) : Int))) U = .ok (.p (.str [ltrs.getD ((B / 12 % 8 + 5 * k) % 8) 0])) U := fun U => by
          have hlt : (B / 12 % 8 + 5 * k) % 8 < 8 := Nat.mod_lt _ (by decide)
          have : atI ltrs (((B / 12 % 8 + 5 * k) % 8 : Nat) : Int) = some (ltrs.getD ((B / 12 % 8 + 5 * k) % 8) 0) := atI_nat (by rw [List.getD_eq_getElem?_getD, List.getElem?_eq_getElem (show _ < ltrs.length from hlt)]; rfl)
          simp only [ixI, this]; rfl
        refine ebin (ebin (evv rfl) (eix (d2 := .p (.int (((B / 12 % 8 + 5 * k) % 8 : Nat) : Int))) (ev_k ..) (ebin (eblt1 (ebin (ebin (evv rfl) (ev_k ..) (bin_div (by decide))) (ebin (ev_k ..) (evv rfl) (bin_mulL _ (by decide))) (bin_add ..)) (int_int ..)) (ev_k ..) ((bin_mod (by decide)).trans (by rw [e1]))) (hx _)) (bin_addS (by simp; omega))) (evv rfl) (bin_addS (by simp; omega))⟩)
    refine (evz_step (stif0 ((tst S).trans (by rw [decide_eq_false h2])))).trans ((evz_step s1).trans ((evz_step s2).trans (evz_end (stret (lc.trans ?_)))))
    simp [nmO, List.map_map, Function.comp_def, st, tl]
/-! ### entries -/
def verS : Shp := .c .i (.c .i (.c .i (.c .i .e)))
def pairS : Shp := .c .s (.c .s .e)
def enOf (p : Shp) : Shp := .c .s (.c verS (.c (.l .s) (.c p .e)))
def plS : Nat → Shp
  | 0 => .e
  | k + 1 => .c (.l (enOf (plS k))) (.c (.l pairS) .e)
def enS : Shp := enOf (plS 2)
/-- an entry of the name, or nothing -/
def Ent46 (n : Cs) (x : PD) : Prop := (x = un ∨ ∃ r, x = .tup (.str n :: r)) ∧ enS.ok x = true ∧ x.wt ≤ 100
theorem Ent46.thg {n : Cs} {x : PD} (h : Ent46 n x) : Thg (false, n) x := ⟨h.1.imp id fun ⟨r, e⟩ => .inl ⟨rfl, r, e⟩, Shp.dat _ _ h.2.1, Shp.nice _ _ h.2.1 30 (by decide), h.2.2⟩
def v4 (a b c d : Int) : PD := .tup [.int a, .int b, .int c, .int d]
def inn46 (n : Cs) : PD := .tup [.tup [.tup [.str n, v4 0 1 0 999, .tup [.str [102]], un]], .tup [.tup [.str sLog, .str n]]]
def dpL (n : Cs) : List PD := [.tup [.str [98], v4 2 0 0 999, un, inn46 n], .tup [.str (n ++ [48]), v4 1 0 0 999, un, un]]
theorem inn_ok (n : Cs) : (plS 1).ok (inn46 n) = true := by simp [inn46, plS, enOf, Shp.ok, v4, verS, pairS, un]
theorem inn_ok2 (n : Cs) : (plS 2).ok (inn46 n) = true := by simp [inn46, plS, enOf, Shp.ok, v4, verS, pairS, un]
theorem dpL_ok (n : Cs) : ∀ x ∈ dpL n, (enOf (plS 1)).ok x = true := by
  intro x hx
  simp only [dpL, List.mem_cons, List.not_mem_nil, or_false] at hx
  have h1 := inn_ok n
  rcases hx with rfl | rfl
  · simp [enOf, Shp.ok, v4, verS, un, h1]
  · simp [enOf, Shp.ok, v4, verS, un, plS]
def dp46 (n : Cs) : List PD := (dpL n).mergeSort PD.le
theorem dp_srt (n : Cs) : srtI (dpL n) = some (dp46 n) := by
  have h1 : ∀ x ∈ dpL n, ∀ y ∈ dpL n, PD.like x y = true := fun x hx y hy => Shp.like _ x y (dpL_ok n x hx) (dpL_ok n y hy)
  have h2 : ∀ x ∈ dpL n, isTup1 x = true := fun x hx => by
    simp only [dpL, List.mem_cons, List.not_mem_nil, or_false] at hx
    rcases hx with rfl | rfl <;> rfl
  have h3 : ∀ x ∈ dpL n, x.dep ≤ 64 := fun x hx => Nat.le_trans (dep_nice 30 x (Shp.nice _ x (dpL_ok n x hx) 30 (by decide))) (by decide)
  unfold srtI dp46
  rw [if_pos ⟨h1, .inl h2, h3⟩]
theorem wts_perm {xs ys : List PD} (h : xs.Perm ys) : PD.wts xs = PD.wts ys := by
  induction h with
  | nil => rfl
  | cons x _ ih => simp [PD.wts, ih]
  | swap x y l => simp only [PD.wts]; omega
  | trans _ _ h1 h2 => exact h1.trans h2
def deep46 (n : Cs) : PD := .tup [.tup (dp46 n), un]
theorem deep_ok (n : Cs) : (plS 2).ok (deep46 n) = true := by
  have h : (dp46 n).all (enOf (plS 1)).ok = true := by
    rw [List.all_eq_true]
    exact fun x hx => dpL_ok n x ((List.mergeSort_perm _ _).subset hx)
  have e : plS 2 = .c (.l (enOf (plS 1))) (.c (.l pairS) .e) := rfl
  rw [e]
  unfold deep46
  simp only [Shp.ok, h, un, List.all_nil, Bool.true_and, Bool.and_self]
theorem deep_wt (n : Cs) : (deep46 n).wt ≤ 60 := by
  unfold deep46 dp46
  simp only [PD.wt, PD.wts, wts_perm (List.mergeSort_perm (dpL n) PD.le)]
  simp [dpL, inn46, v4, un, PD.wt, PD.wts]
def vers46 (N : Nat) : List PD := [v4 1 0 0 999, v4 1 0 0 998, v4 ((N % 1000 : Nat) : Int) 2 0 7]
def fts46 : List PD := [un, .tup [.str [102, 97, 115, 116]], .tup [.str [102, 97, 115, 116], .str [115, 108, 105, 109]]]
def inns46 (n : Cs) : List PD := [un, un, inn46 n, deep46 n]
def ent46 (n : Cs) (N : Nat) : PD := if N / 7 % 3 = 0 then un else .tup [.str n, (vers46 N).getD (N / 63 % 3) un, fts46.getD (N / 21 % 3) un, (inns46 n).getD (N / 189 % 4) un]
theorem getD_all {l : List PD} {p : PD → Prop} {d : PD} (h : ∀ x ∈ l, p x) (hd : p d) (i : Nat) : p (l.getD i d) := by
  rw [List.getD_eq_getElem?_getD]
  cases q : l[i]? with
  | none => exact hd
  | some x => exact h x (List.mem_of_getElem? q)
theorem ent46_ok (n : Cs) (N : Nat) : Ent46 n (ent46 n N) := by
  unfold ent46
  split
  · exact ⟨.inl rfl, by rfl, by decide⟩
  · have h1 : verS.ok ((vers46 N).getD (N / 63 % 3) un) = true ∧ ((vers46 N).getD (N / 63 % 3) un).wt ≤ 5 := getD_all (p := fun x => verS.ok x = true ∧ x.wt ≤ 5) (by intro x hx; simp only [vers46, List.mem_cons, List.not_mem_nil, or_false] at hx; rcases hx with rfl | rfl | rfl <;> exact ⟨rfl, by simp [v4, PD.wt, PD.wts]⟩) ⟨rfl, by decide⟩ _
    have h2 : (Shp.l .s).ok (fts46.getD (N / 21 % 3) un) = true ∧ (fts46.getD (N / 21 % 3) un).wt ≤ 3 := getD_all (p := fun x => (Shp.l .s).ok x = true ∧ x.wt ≤ 3) (by intro x hx; simp only [fts46, List.mem_cons, List.not_mem_nil, or_false] at hx; rcases hx with rfl | rfl | rfl <;> exact ⟨rfl, by simp [un, PD.wt, PD.wts]⟩) ⟨rfl, by decide⟩ _
    have h3 : (plS 2).ok ((inns46 n).getD (N / 189 % 4) un) = true ∧ ((inns46 n).getD (N / 189 % 4) un).wt ≤ 60 := getD_all (p := fun x => (plS 2).ok x = true ∧ x.wt ≤ 60) (by
      intro x hx; simp only [inns46, List.mem_cons, List.not_mem_nil, or_false] at hx
      rcases hx with rfl | rfl | rfl | rfl
      · exact ⟨rfl, by decide⟩
      · exact ⟨rfl, by decide⟩
      · exact ⟨inn_ok2 n, by simp [inn46, v4, un, PD.wt, PD.wts]⟩
      · exact ⟨deep_ok n, deep_wt n⟩) ⟨rfl, by decide⟩ _
    refine ⟨.inr ⟨_, rfl⟩, ?_, ?_⟩
    · have h2' := h2.1
      simp only [enS, enOf, Shp.ok, h1.1, h3.1, Bool.true_and, Bool.and_true] at h2' ⊢
      exact h2'
    · simp only [PD.wt, PD.wts]; have := h1.2; have := h2.2; have := h3.2; omega
end
end PH

set_option maxHeartbeats 4000000
/-! k46: the law's entries, worked out. -/
namespace PH
open L2 PySem PySem.Spec PyProof.Rows
section
variable {M : Mo} {ρ : Nv} {S S1 S2 S3 S4 : Sto} {x y z w : PD} {a b c d : E} {j : Nat}
theorem etp4 (h1 : evE M a ρ S = .ok (.p x) S1) (h2 : evE M b ρ S1 = .ok (.p y) S2) (h3 : evE M c ρ S2 = .ok (.p z) S3) (h4 : evE M d ρ S3 = .ok (.p w) S4) : evE M (.tp (.cons a (.cons b (.cons c (.cons d .nil))))) ρ S = .ok (.p (.tup [x, y, z, w])) S4 := by rw [ev_tp, es1 h1 (es1 h2 (es1 h3 (es1 h4 es0))), Res.bind_ok']; rfl
theorem els1 (h1 : evE M a ρ S = .ok (.p x) S) : evE M (.ls (.cons a .nil)) ρ S = .ok (.ref S.length) (S ++ [.pl [x]]) := by rw [ev_ls, es1 h1 es0, Res.bind_ok']; rfl
theorem els2 (h1 : evE M a ρ S = .ok (.p x) S) (h2 : evE M b ρ S = .ok (.p y) S) : evE M (.ls (.cons a (.cons b .nil))) ρ S = .ok (.ref S.length) (S ++ [.pl [x, y]]) := by rw [ev_ls, es1 h1 (es1 h2 es0), Res.bind_ok']; rfl
theorem els3 (h1 : evE M a ρ S = .ok (.p x) S) (h2 : evE M b ρ S = .ok (.p y) S) (h3 : evE M c ρ S = .ok (.p z) S) : evE M (.ls (.cons a (.cons b (.cons c .nil)))) ρ S = .ok (.ref S.length) (S ++ [.pl [x, y, z]]) := by rw [ev_ls, es1 h1 (es1 h2 (es1 h3 es0)), Res.bind_ok']; rfl
theorem els4 (h1 : evE M a ρ S = .ok (.p x) S) (h2 : evE M b ρ S = .ok (.p y) S) (h3 : evE M c ρ S = .ok (.p z) S) (h4 : evE M d ρ S = .ok (.p w) S) : evE M (.ls (.cons a (.cons b (.cons c (.cons d .nil))))) ρ S = .ok (.ref S.length) (S ++ [.pl [x, y, z, w]]) := by rw [ev_ls, es1 h1 (es1 h2 (es1 h3 (es1 h4 es0))), Res.bind_ok']; rfl
theorem ver_ev (p q r s : Int) : evE M (.tp (.cons (.k (.int p)) (.cons (.k (.int q)) (.cons (.k (.int r)) (.cons (.k (.int s)) .nil))))) ρ S = .ok (.p (v4 p q r s)) S := etp4 (ev_k ..) (ev_k ..) (ev_k ..) (ev_k ..)
theorem ix_pl {n i : Nat} {xs : List PD} (h : S[n]? = some (.pl xs)) (hi : i < xs.length) : ixI (.ref n) (.p (.int (i : Int))) S = .ok (.p (xs.getD i un)) S := ix_data (data_pl h) (atI_nat (by rw [List.getD_eq_getElem?_getD, List.getElem?_eq_getElem hi]; rfl))
theorem dm_ev {i : Nat} {N : Nat} (p q : Nat) (h : ρ[i]? = some (some (.p (.int (N : Int))))) (hp : 0 < p ∧ p < 1073741824) (hq : 0 < q) : evE M (.bin .Mod (.bin .FloorDiv (.v i) (.k (.int (p : Int)))) (.k (.int (q : Int)))) ρ S = .ok (.p (.int ((N / p % q : Nat) : Int))) S :=
  ebin (ebin (evv h) (ev_k ..) (bin_div (by omega))) (ev_k ..) ((bin_mod (by omega)).trans (by rw [Int.natCast_emod, Int.natCast_ediv]))
theorem entry_ok {n : Cs} {N : Nat} (hn : n.length ≤ 20) : C46 (j + 1) 9 [.p (.str n), .p (.int (N : Int))] S = .ok (.p (ent46 n N)) S := by
  have hL : LINE = 16777216 := rfl
  refine call_of (e := k46_E_law_entry) rfl rfl ?_
  have tst : evE (M46 j) (.cmp .Eq (.bin .Mod (.bin .FloorDiv (.v 1) (.k (.int 7))) (.k (.int 3))) (.k (.int 0))) [some (.p (.str n)), some (.p (.int (N : Int))), none, none, none, none, none] S = .ok (.p (.bl (decide ((((N / 7 % 3 : Nat) : Int)) = 0)))) S :=
    ecmp (dm_ev 7 3 rfl (by decide) (by decide)) (ev_k ..) (eq_int ..)
  unfold ent46
  by_cases h0 : N / 7 % 3 = 0
  · rw [if_pos h0]
    refine runB_rt (d := .p un) (S' := S) ?_ (tidy_p _)
    exact evz_end (stif1 (tst.trans (by rw [h0]; rfl)) (evz_end (stret etp0)))
  · rw [if_neg h0]
    have hT : decide ((((N / 7 % 3 : Nat) : Int)) = 0) = false := decide_eq_false (by omega)
    rw [hT] at tst
    let S1 := S ++ [.pl (vers46 N)]
    let S2 := S ++ [.pl (vers46 N), .pl (dpL n), .pl (dp46 n)]
    let S3 := S ++ [.pl (vers46 N), .pl (dpL n), .pl (dp46 n), .pl (inns46 n)]
    let S4 := S ++ [.pl (vers46 N), .pl (dpL n), .pl (dp46 n), .pl (inns46 n), .pl fts46]
    let ρ0 : Nv := [some (.p (.str n)), some (.p (.int (N : Int))), none, none, none, none, none]
    have c1 : evC (M46 j) (.asg (.nm 2) (.ls (.cons (.tp (.cons (.k (.int 1)) (.cons (.k (.int 0)) (.cons (.k (.int 0)) (.cons (.k (.int 999)) .nil))))) (.cons (.tp (.cons (.k (.int 1)) (.cons (.k (.int 0)) (.cons (.k (.int 0)) (.cons (.k (.int 998)) .nil))))) (.cons (.tp (.cons (.bin .Mod (.v 1) (.k (.int 1000))) (.cons (.k (.int 2)) (.cons (.k (.int 0)) (.cons (.k (.int 7)) .nil))))) .nil))))) ρ0 S
        = .nx [some (.p (.str n)), some (.p (.int (N : Int))), some (.ref S.length), none, none, none, none] S1 :=
      stasg (els3 (ver_ev ..) (ver_ev ..) (etp4 (ebin (evv rfl) (ev_k ..) ((bin_mod (by decide)).trans (by rw [show ((N : Int) % 1000) = ((N % 1000 : Nat) : Int) by omega]))) (ev_k ..) (ev_k ..) (ev_k ..))) rfl
    have c2 : evC (M46 j) (.asg (.nm 3) (.tp (.cons (.tp (.cons (.tp (.cons (.v 0) (.cons (.tp (.cons (.k (.int 0)) (.cons (.k (.int 1)) (.cons (.k (.int 0)) (.cons (.k (.int 999)) .nil))))) (.cons (.tp (.cons (.k (.str [102])) .nil)) (.cons (.tp .nil) .nil))))) .nil)) (.cons (.tp (.cons (.tp (.cons (.k (.str [108, 111, 103])) (.cons (.v 0) .nil))) .nil)) .nil)))) [some (.p (.str n)), some (.p (.int (N : Int))), some (.ref S.length), none, none, none, none] S1
        = .nx [some (.p (.str n)), some (.p (.int (N : Int))), some (.ref S.length), some (.p (inn46 n)), none, none, none] S1 :=
      stasg (etp2 (etp1 (etp4 (evv rfl) (ver_ev ..) (etp1 (ev_k ..)) etp0)) (etp1 (etp2 (ev_k ..) (evv rfl)))) rfl
    have c3 : ∀ R : Nv, R = [some (.p (.str n)), some (.p (.int (N : Int))), some (.ref S.length), some (.p (inn46 n)), none, none, none] → evE (M46 j) (.blt .tuple (.cons (.blt .sorted (.cons (.ls (.cons (.tp (.cons (.k (.str [98])) (.cons (.tp (.cons (.k (.int 2)) (.cons (.k (.int 0)) (.cons (.k (.int 0)) (.cons (.k (.int 999)) .nil))))) (.cons (.tp .nil) (.cons (.v 3) .nil))))) (.cons (.tp (.cons (.bin .Add (.v 0) (.k (.str [48]))) (.cons (.tp (.cons (.k (.int 1)) (.cons (.k (.int 0)) (.cons (.k (.int 0)) (.cons (.k (.int 999)) .nil))))) (.cons (.tp .nil) (.cons (.tp .nil) .nil))))) .nil))) .nil)) .nil)) R S1
        = .ok (.p (.tup (dp46 n))) S2 := fun R hR => by
      subst hR
      refine eblt1 (eblt1 (els2 (etp4 (ev_k ..) (ver_ev ..) etp0 (evv rfl)) (etp4 (ebin (evv rfl) (ev_k ..) (bin_addS (by simp; omega))) (ver_ev ..) etp0 etp0)) (sorted_ev (xs := dpL n) (data_pl (by simp [dpL])) (dp_srt n))) ?_
      refine (tuple_ev (xs := dp46 n) (data_pl (by simp))).trans ?_
      simp [S2, S1, dpL]
    have c4 : evE (M46 j) (.ls (.cons (.tp .nil) (.cons (.tp .nil) (.cons (.v 3) (.cons (.tp (.cons (.v 4) (.cons (.tp .nil) .nil))) .nil))))) [some (.p (.str n)), some (.p (.int (N : Int))), some (.ref S.length), some (.p (inn46 n)), some (.p (.tup (dp46 n))), none, none] S2 = .ok (.ref (S.length + 3)) S3 := by
      refine (els4 etp0 etp0 (evv rfl) (etp2 (evv rfl) etp0)).trans ?_
      simp [S3, S2, inns46, deep46]
    have c5 : evE (M46 j) (.ix (.ls (.cons (.tp .nil) (.cons (.tp (.cons (.k (.str [102, 97, 115, 116])) .nil)) (.cons (.tp (.cons (.k (.str [102, 97, 115, 116])) (.cons (.k (.str [115, 108, 105, 109])) .nil))) .nil)))) (.bin .Mod (.bin .FloorDiv (.v 1) (.k (.int 21))) (.k (.int 3)))) [some (.p (.str n)), some (.p (.int (N : Int))), some (.ref S.length), some (.p (inn46 n)), some (.p (.tup (dp46 n))), some (.ref (S.length + 3)), none] S3 = .ok (.p (fts46.getD (N / 21 % 3) un)) S4 := by
      refine eix (d1 := .ref (S.length + 4)) (S1 := S4) ((els3 etp0 (etp1 (ev_k ..)) (etp2 (ev_k ..) (ev_k ..))).trans (by simp [S4, S3, fts46])) (dm_ev 21 3 rfl (by decide) (by decide)) (ix_pl (by simp [S4]) (Nat.mod_lt _ (by decide)))
    refine runB_rt (d := .p (.tup [.str n, (vers46 N).getD (N / 63 % 3) un, fts46.getD (N / 21 % 3) un, (inns46 n).getD (N / 189 % 4) un])) (S' := S4) ?_ (tidy_pa _ _)
    refine (evz_step (stif0 tst)).trans ((evz_step c1).trans ((evz_step c2).trans ((evz_step (stasg (c3 _ rfl) rfl)).trans ((evz_step (stasg c4 rfl)).trans ((evz_step (stasg c5 rfl)).trans (evz_end (stret (etp4 (evv rfl) (eix (evv rfl) (dm_ev 63 3 rfl (by decide) (by decide)) (ix_pl (by simp [S4]) (Nat.mod_lt _ (by decide)))) (evv rfl) (eix (evv rfl) (dm_ev 189 4 rfl (by decide) (by decide)) (ix_pl (by simp [S4]) (Nat.mod_lt _ (by decide))))))))))))
end
end PH

set_option maxHeartbeats 4000000
/-! k46: the law's slots and places. -/
namespace PH
open L2 PySem PySem.Spec PyProof.Rows
/-- a loop over a range, by the count of turns -/
theorem forI_rgN {tg : Tg} {body : Nv → Sto → Out} {ρ : Nv} {S : Sto} {n : Nat} (P : Nat → Nv → Sto → Prop)
    (h1 : ∀ i ρ S, i < n → P i ρ S → ∃ ρ1, asgT tg (.p (.int (i : Int))) ρ = some ρ1 ∧ ∃ ρ2 S2, body ρ1 S = .nx ρ2 S2 ∧ P (i + 1) ρ2 S2) (h : P 0 ρ S) :
    ∃ ρ' S', forI ⟨rgS 0 1 n, none⟩ tg body (rgS 0 1 n) ρ S = .nx ρ' S' ∧ P n ρ' S' := by
  have := forI_list (w := ⟨rgS 0 1 n, none⟩) (tg := tg) (body := body) (ρ := ρ) (S := S) (fun (i : Nat) => D.p (.int (i : Int))) (List.range n) (fun ps ρ S => P ps.length ρ S) (fun ps x qs ρ S e hp => by
    have hl : ps.length < n := by
      have := congrArg List.length e
      simp at this; omega
    have hx : x = ps.length := by
      have := congrArg (fun l => l[ps.length]?) e
      simp [hl] at this
      exact this.symm
    subst hx
    obtain ⟨ρ1, a, ρ2, S2, b, c⟩ := h1 ps.length ρ S hl hp
    exact ⟨rfl, ρ1, a, ρ2, S2, .inl b, by simpa using c⟩) (fun _ _ _ => rfl) h
  rw [rgS01]
  obtain ⟨ρ', S', e, hp⟩ := this
  rw [rgS01] at e
  exact ⟨ρ', S', e, by simpa using hp⟩
def mkSl (ns ps : List Cs) : List Sl := (srt ns).map (fun n => (false, n)) ++ (srt ps).map fun p => (true, p)
theorem mem_srt {xs : List Cs} {x : Cs} : x ∈ srt xs ↔ x ∈ xs := List.mem_mergeSort
theorem mem_mkSl {ns ps : List Cs} {s : Sl} : s ∈ mkSl ns ps ↔ (s.1 = false ∧ s.2 ∈ ns) ∨ (s.1 = true ∧ s.2 ∈ ps) := by
  unfold mkSl
  simp only [List.mem_append, List.mem_map, mem_srt]
  obtain ⟨b, x⟩ := s
  cases b <;> simp
theorem srt_lt {xs : List Cs} (h : xs.Nodup) : (srt xs).Pairwise fun a b => a < b := by
  have h2 : (srt xs).Nodup := (List.mergeSort_perm xs leC).nodup_iff.mpr h
  refine ((srt_pw xs).and h2).imp fun {a b} ⟨h3, h4⟩ => ?_
  rcases List.le_iff_lt_or_eq.mp h3 with z | z
  · exact z
  · exact absurd z h4
theorem sl_strict {a b : Sl} (h : PD.lt (sP a) (sP b) = true) : slE.le a b = true ∧ a ≠ b := by
  refine ⟨?_, fun e => ?_⟩
  · show PD.le (sP a) (sP b) = true
    unfold PD.le; rw [pd_lt_asymm h]; rfl
  · rw [e, pd_lt_irrefl] at h; cases h
theorem asc_mk {ns ps : List Cs} (h1 : ns.Nodup) (h2 : ps.Nodup) : Asc (mkSl ns ps) := by
  unfold mkSl Asc
  rw [List.pairwise_append]
  refine ⟨List.pairwise_map.mpr ((srt_lt h1).imp fun {a b} h => sl_strict (a := (false, a)) (b := (false, b)) ((sP_lt _ _).mpr (.inr ⟨rfl, h⟩))), List.pairwise_map.mpr ((srt_lt h2).imp fun {a b} h => sl_strict (a := (true, a)) (b := (true, b)) ((sP_lt _ _).mpr (.inr ⟨rfl, h⟩))), fun a ha b hb => ?_⟩
  obtain ⟨x, _, rfl⟩ := List.mem_map.mp ha
  obtain ⟨y, _, rfl⟩ := List.mem_map.mp hb
  exact sl_strict ((sP_lt _ _).mpr (.inl ⟨rfl, rfl⟩))
theorem srt_len (xs : List Cs) : (srt xs).length = xs.length := by simp [srt, List.length_mergeSort]
section
variable {S : Sto} {j a b q : Nat} {ns ps : List Cs}
theorem slots_ok (ha : S[a]? = some (.pl (ns.map .str))) (hb : S[b]? = some (.pl (ps.map .str))) (l1 : ns.length ≤ 100) (l2 : ps.length ≤ 100) : C46 (j + 1) 11 [.ref a, .ref b] S = .ok (.ref S.length) (S ++ [.pl ((mkSl ns ps).map sP)]) := by
  have hL : LINE = 16777216 := rfl
  let A : List PD := (srt ns).map fun n => sP (false, n)
  let B : List PD := (srt ps).map fun n => sP (true, n)
  have e1 : evE (M46 j) (.lc [2] (.nm 2) (.of (.blt .sorted (.cons (.v 0) .nil))) (.tp (.cons (.k (.str [112, 97, 99, 107, 97, 103, 101])) (.cons (.v 2) .nil)))) [some (.ref a), some (.ref b), none, none] S = .ok (.ref (S.length + 1)) (S ++ [.pl ((srt ns).map .str), .pl A]) := by
    have h0 : (S ++ [O.pl ((srt ns).map .str)])[S.length]? = some (.pl ((srt ns).map .str)) := by simp
    have := lc_ev1 (M := M46 j) (own := [2]) (tg := .nm 2) (it := .of (.blt .sorted (.cons (.v 0) .nil))) (elt := .tp (.cons (.k (.str [112, 97, 99, 107, 97, 103, 101])) (.cons (.v 2) .nil))) (ρ := [some (.ref a), some (.ref b), none, none]) (S := S) (fun n : Cs => D.p (.str n)) (fun n => sP (false, n)) (srt ns)
      (of_ev (eblt1 (evv rfl) (sorted_strs (data_pl ha))) (wk_pl h0)) (by rw [srt_len]; omega) (by simp) (fun l => still_pl (pre_get h0)) (fun n _ => ⟨_, rfl, fun l => etp2 (ev_k ..) (evv rfl)⟩)
    rw [this]
    simp [A]
  have e2 : evE (M46 j) (.lc [3] (.nm 3) (.of (.blt .sorted (.cons (.v 1) .nil))) (.tp (.cons (.k (.str [112, 105, 101, 99, 101])) (.cons (.v 3) .nil)))) [some (.ref a), some (.ref b), none, none] (S ++ [.pl ((srt ns).map .str), .pl A]) = .ok (.ref (S.length + 3)) (S ++ [.pl ((srt ns).map .str), .pl A, .pl ((srt ps).map .str), .pl B]) := by
    have h0 : (S ++ [O.pl ((srt ns).map .str), .pl A] ++ [.pl ((srt ps).map .str)])[(S ++ [O.pl ((srt ns).map .str), .pl A]).length]? = some (.pl ((srt ps).map .str)) := by rw [List.getElem?_append_right (Nat.le_refl _)]; simp
    have := lc_ev1 (M := M46 j) (own := [3]) (tg := .nm 3) (it := .of (.blt .sorted (.cons (.v 1) .nil))) (elt := .tp (.cons (.k (.str [112, 105, 101, 99, 101])) (.cons (.v 3) .nil))) (ρ := [some (.ref a), some (.ref b), none, none]) (S := S ++ [.pl ((srt ns).map .str), .pl A]) (fun n : Cs => D.p (.str n)) (fun n => sP (true, n)) (srt ps)
      (of_ev (eblt1 (evv rfl) (sorted_strs (data_pl (pre_get hb)))) (wk_pl h0)) (by rw [srt_len]; omega) (by simp) (fun l => still_pl (pre_get h0)) (fun n _ => ⟨_, rfl, fun l => etp2 (ev_k ..) (evv rfl)⟩)
    rw [this]
    simp [B]
  have hAB : (mkSl ns ps).map sP = A ++ B := by simp [mkSl, A, B, List.map_map, Function.comp_def]
  refine call_of (e := k46_E_law_slots) rfl rfl (runB_rt (d := .ref (S.length + 4)) (S' := S ++ [.pl ((srt ns).map .str), .pl A, .pl ((srt ps).map .str), .pl B, .pl ((mkSl ns ps).map sP)]) (evz_end (stret (ebin e1 e2 ?_))) (tidy_new' (by omega) (by simp)))
  rw [bin_addL (a := A) (b := B) (by simp) (by simp) (by simp [A, B, srt_len]; omega), hAB]
  simp
/-! ### places -/
def entAt (ns : List Cs) (xs : List Int) (n : Cs) : PD := ent46 n (xs.getD (ns.idxOf n) 0).toNat
def liveN (ns : List Cs) (xs : List Int) (l : List Cs) : List Cs := l.filter fun n => decide (entAt ns xs n ≠ un)
def srvAt (ns ps : List Cs) (xs : List Int) (p : Cs) : PD :=
  if 0 < (liveN ns xs ns).length ∧ 0 < (xs.getD (ns.length + ps.idxOf p) 0).toNat / 7 % 3 then .str ((liveN ns xs ns).getD ((xs.getD (ns.length + ps.idxOf p) 0).toNat / 21 % (liveN ns xs ns).length) []) else un
def stAt (ns ps : List Cs) (xs : List Int) (s : Sl) : PD := if s.1 then srvAt ns ps xs s.2 else entAt ns xs s.2
theorem stAt_sts (ns ps : List Cs) (xs : List Int) (sl : List Sl) : Sts sl (stAt ns ps xs) := fun s _ => by
  obtain ⟨b, x⟩ := s
  cases b with
  | false => exact (ent46_ok x _).thg
  | true =>
    show Thg (true, x) (srvAt ns ps xs x)
    unfold srvAt
    split
    · exact ⟨.inr (.inr ⟨rfl, _, rfl⟩), rfl, rfl, by simp [PD.wt]⟩
    · exact Thg.un _
def Closed (sl : List Sl) (f : Sl → PD) : Prop := (pcs sl f).find? (lost sl f) = none
theorem getD_mem {l : List Cs} {i : Nat} (h : i < l.length) : l.getD i [] ∈ l := by
  rw [List.getD_eq_getElem?_getD, List.getElem?_eq_getElem h]; exact List.getElem_mem h
theorem stAt_closed (ns ps : List Cs) (xs : List Int) : Closed (mkSl ns ps) (stAt ns ps xs) := by
  refine List.find?_eq_none.mpr fun p hp => ?_
  obtain ⟨h1, h2, h3⟩ := mem_pcs.mp hp
  obtain ⟨b, x⟩ := p
  simp only at h3
  subst h3
  have h4 : srvAt ns ps xs x ≠ un := h2
  unfold srvAt at h4
  split at h4
  · rename_i hc
    have e : stAt ns ps xs (true, x) = .str ((liveN ns xs ns).getD ((xs.getD (ns.length + ps.idxOf x) 0).toNat / 21 % (liveN ns xs ns).length) []) := by
      show srvAt ns ps xs x = _
      unfold srvAt; rw [if_pos hc]
    have hm : (liveN ns xs ns).getD ((xs.getD (ns.length + ps.idxOf x) 0).toNat / 21 % (liveN ns xs ns).length) [] ∈ liveN ns xs ns := getD_mem (Nat.mod_lt _ hc.1)
    generalize (liveN ns xs ns).getD ((xs.getD (ns.length + ps.idxOf x) 0).toNat / 21 % (liveN ns xs ns).length) [] = m at e hm
    obtain ⟨m1, m2⟩ := List.mem_filter.mp hm
    have : (PD.str m) ∈ (paks (mkSl ns ps) (stAt ns ps xs)).map fun s => PD.str s.2 := List.mem_map.mpr ⟨(false, m), mem_paks.mpr ⟨mem_mkSl.mpr (.inl ⟨rfl, m1⟩), by simpa [stAt] using m2, rfl⟩, rfl⟩
    simp [lost, e, this]
  · exact absurd rfl h4
theorem paks_mk (ns ps : List Cs) (f : Sl → PD) : paks (mkSl ns ps) f = ((srt ns).filter fun n => decide (f (false, n) ≠ un)).map fun n => (false, n) := by
  unfold paks live mkSl
  rw [List.filter_append, List.filter_append, List.filter_map, List.filter_map, List.filter_map, List.filter_map]
  have h1 : (((srt ps).filter ((fun s => decide (f s ≠ un)) ∘ fun p => (true, p))).filter ((fun s : Sl => !s.1) ∘ fun p => (true, p))) = [] := List.filter_eq_nil_iff.mpr fun x _ => by simp
  have h2 : (((srt ns).filter ((fun s => decide (f s ≠ un)) ∘ fun p => (false, p))).filter ((fun s : Sl => !s.1) ∘ fun p => (false, p))) = (srt ns).filter ((fun s => decide (f s ≠ un)) ∘ fun p => (false, p)) := List.filter_eq_self.mpr fun x _ => by simp
  rw [h1, h2]
  simp [Function.comp_def]
theorem pcs_mk (ns ps : List Cs) (f : Sl → PD) : pcs (mkSl ns ps) f = ((srt ps).filter fun n => decide (f (true, n) ≠ un)).map fun n => (true, n) := by
  unfold pcs live mkSl
  rw [List.filter_append, List.filter_append, List.filter_map, List.filter_map, List.filter_map, List.filter_map]
  have h1 : (((srt ns).filter ((fun s => decide (f s ≠ un)) ∘ fun p => (false, p))).filter ((fun s : Sl => s.1) ∘ fun p => (false, p))) = [] := List.filter_eq_nil_iff.mpr fun x _ => by simp
  have h2 : (((srt ps).filter ((fun s => decide (f s ≠ un)) ∘ fun p => (true, p))).filter ((fun s : Sl => s.1) ∘ fun p => (true, p))) = (srt ps).filter ((fun s => decide (f s ≠ un)) ∘ fun p => (true, p)) := List.filter_eq_self.mpr fun x _ => by simp
  rw [h1, h2]
  simp [Function.comp_def]
/-- entries put in order -/
theorem ents_srt (nd : ns.Nodup) (xs : List Int) : srtI ((liveN ns xs ns).map (entAt ns xs)) = some ((paks (mkSl ns ps) (stAt ns ps xs)).map (stAt ns ps xs)) := by
  have hp : (paks (mkSl ns ps) (stAt ns ps xs)).map (stAt ns ps xs) = (liveN ns xs (srt ns)).map (entAt ns xs) := by
    rw [paks_mk, List.map_map]; rfl
  rw [hp]
  have form : ∀ n ∈ liveN ns xs (srt ns), ∃ r, entAt ns xs n = .tup (.str n :: r) := fun n hn => by
    have h2 : entAt ns xs n ≠ un := by simpa using (List.mem_filter.mp hn).2
    rcases (ent46_ok n (xs.getD (ns.idxOf n) 0).toNat).1 with z | z
    · exact absurd z h2
    · exact z
  have shape : ∀ x ∈ (liveN ns xs ns).map (entAt ns xs), enS.ok x = true := fun x hx => by
    obtain ⟨n, _, rfl⟩ := List.mem_map.mp hx
    exact (ent46_ok n _).2.1
  refine srtI_eq (((List.mergeSort_perm ns leC).filter _).map _) ?_ (fun x hx y hy => Shp.like _ x y (shape x hx) (shape y hy)) (.inl fun x hx => ?_) (fun x hx => Nat.le_trans (dep_nice 30 x (Shp.nice _ x (shape x hx) 30 (by decide))) (by decide))
  · refine List.pairwise_map.mpr ?_
    refine List.Pairwise.imp_of_mem (fun {a b} ha hb hlt => ?_) ((srt_lt nd).sublist List.filter_sublist)
    obtain ⟨r1, e1⟩ := form a ha
    obtain ⟨r2, e2⟩ := form b hb
    rw [e1, e2, lt_head (fun z => by rw [z] at hlt; exact List.lt_irrefl _ hlt)]
    exact decide_eq_true hlt
  · obtain ⟨n, hn, rfl⟩ := List.mem_map.mp hx
    obtain ⟨r, e⟩ := form n (List.mem_filter.mpr ⟨mem_srt.mpr (List.mem_filter.mp hn).1, (List.mem_filter.mp hn).2⟩)
    rw [e]; rfl
def liveP (ns ps : List Cs) (xs : List Int) (l : List Cs) : List Cs := l.filter fun p => decide (srvAt ns ps xs p ≠ un)
def srvP (ns ps : List Cs) (xs : List Int) (p : Cs) : PD := .tup [.str p, srvAt ns ps xs p]
theorem srv_srt (nd : ps.Nodup) (xs : List Int) : srtI ((liveP ns ps xs ps).map (srvP ns ps xs)) = some ((pcs (mkSl ns ps) (stAt ns ps xs)).map (pair (stAt ns ps xs))) := by
  have hp : (pcs (mkSl ns ps) (stAt ns ps xs)).map (pair (stAt ns ps xs)) = (liveP ns ps xs (srt ps)).map (srvP ns ps xs) := by
    rw [pcs_mk, List.map_map]; rfl
  rw [hp]
  have shape : ∀ x ∈ (liveP ns ps xs ps).map (srvP ns ps xs), pairS.ok x = true := fun x hx => by
    obtain ⟨n, hn, rfl⟩ := List.mem_map.mp hx
    have h2 : srvAt ns ps xs n ≠ un := by simpa using (List.mem_filter.mp hn).2
    unfold srvP
    unfold srvAt at h2 ⊢
    split at h2
    · rename_i hc; rw [if_pos hc]; rfl
    · exact absurd rfl h2
  refine srtI_eq (((List.mergeSort_perm ps leC).filter _).map _) ?_ (fun x hx y hy => Shp.like _ x y (shape x hx) (shape y hy)) (.inl fun x hx => ?_) (fun x hx => Nat.le_trans (dep_nice 30 x (Shp.nice _ x (shape x hx) 30 (by decide))) (by decide))
  · refine List.pairwise_map.mpr ?_
    refine List.Pairwise.imp_of_mem (fun {a b} ha hb hlt => ?_) ((srt_lt nd).sublist List.filter_sublist)
    unfold srvP
    rw [lt_head (fun z => by rw [z] at hlt; exact List.lt_irrefl _ hlt)]
    exact decide_eq_true hlt
  · obtain ⟨n, hn, rfl⟩ := List.mem_map.mp hx
    rfl
end
end PH

set_option maxHeartbeats 4000000
/-! k46: the law's places, worked out. -/
namespace PH
open L2 PySem PySem.Spec PyProof.Rows
section
variable {S : Sto} {j a b q : Nat} {ns ps : List Cs} {xs : List Int}
theorem take_get {α : Type} {l : List α} {i : Nat} (h : i < l.length) : l.take (i + 1) = l.take i ++ [l[i]] := List.take_succ_eq_append_getElem h
theorem ix_ints {T : Sto} {n i : Nat} (h : T[n]? = some (.pl (xs.map .int))) (hx : Low xs) (hi : i < xs.length) : ixI (.ref n) (.p (.int (i : Int))) T = .ok (.p (.int ((xs.getD i 0).toNat : Int))) T := by
  have e : ((xs.getD i 0).toNat : Int) = xs[i] := by
    rw [List.getD_eq_getElem?_getD, List.getElem?_eq_getElem hi]
    exact Int.toNat_of_nonneg (hx _ (List.getElem_mem hi)).1
  rw [e]
  exact ix_data (data_pl h) (atI_nat (by simp [hi]))
theorem lplace_ok (hn : Nms ns) (hp : ps.Nodup) (hpl : ps.length = 3) (hx : Low xs) (hxl : 8 ≤ xs.length) (ha : S[a]? = some (.pl (ns.map .str))) (hb : S[b]? = some (.pl (ps.map .str))) (hq : S[q]? = some (.pl (xs.map .int))) :
    C46 (j + 2) 10 [.ref a, .ref b, .ref q] S = .ok (.p (plc (mkSl ns ps) (stAt ns ps xs))) S := by
  have hL : LINE = 16777216 := rfl
  obtain ⟨hl, nd, _, _, hlen⟩ := hn
  refine call_of (e := k46_E_law_place) rfl rfl ?_
  have lna : ∀ l, bltI .len [.ref a] (S ++ l) = .ok (.p (.int (5 : Nat))) (S ++ l) := fun l => by rw [len_ref (pre_get ha) rfl]; simp [O.ds, hl]
  have lnb : ∀ l, bltI .len [.ref b] (S ++ l) = .ok (.p (.int (3 : Nat))) (S ++ l) := fun l => by rw [len_ref (pre_get hb) rfl]; simp [O.ds, hpl]
  -- the entries
  obtain ⟨ρ1, T1, e1, ⟨k1, x1, rfl⟩, rfl⟩ := forI_rgN (n := 5) (tg := .nm 4) (body := evCz (M46 (j + 1)) (.cons (.asg (.nm 5) (.call 9 (.cons (.ix (.v 0) (.v 4)) (.cons (.ix (.v 2) (.v 4)) .nil)))) (.cons (.ite (.cmp .NotEq (.v 5) (.tp .nil)) (.cons (.ex (.mth .append (.v 3) (.cons (.v 5) .nil))) .nil) .nil) .nil)))
    (ρ := [some (.ref a), some (.ref b), some (.ref q), some (.ref S.length), none, none, none, none]) (S := S ++ [.pl []]) (fun k ρ T => (∃ k x, ρ = [some (.ref a), some (.ref b), some (.ref q), some (.ref S.length), k, x, none, none]) ∧ T = S ++ [.pl ((liveN ns xs (ns.take k)).map (entAt ns xs))])
    (by
      rintro k _ _ hk ⟨⟨k0, x0, rfl⟩, rfl⟩
      have hk' : k < ns.length := by omega
      generalize hT : S ++ [O.pl ((liveN ns xs (ns.take k)).map (entAt ns xs))] = T
      have ht : T[S.length]? = some (.pl ((liveN ns xs (ns.take k)).map (entAt ns xs))) := by rw [← hT]; simp
      have gn : ns.getD k [] = ns[k] := by rw [List.getD_eq_getElem?_getD, List.getElem?_eq_getElem hk']; rfl
      have he : ent46 (ns.getD k []) (xs.getD k 0).toNat = entAt ns xs ns[k] := by unfold entAt; rw [gn, nd.idxOf_getElem k hk']
      have ev : evE (M46 (j + 1)) (.call 9 (.cons (.ix (.v 0) (.v 4)) (.cons (.ix (.v 2) (.v 4)) .nil))) [some (.ref a), some (.ref b), some (.ref q), some (.ref S.length), some (.p (.int (k : Int))), x0, none, none] T = .ok (.p (entAt ns xs ns[k])) T := by
        rw [← he, ← hT]
        exact ecall2 (eix (evv rfl) (evv rfl) (ix_strs (pre_get ha) hk')) (eix (evv rfl) (evv rfl) (ix_ints (pre_get hq) hx (by omega))) (entry_ok (hlen _ (getD_mem hk')))
      have ne : evE (M46 (j + 1)) (.cmp .NotEq (.v 5) (.tp .nil)) [some (.ref a), some (.ref b), some (.ref q), some (.ref S.length), some (.p (.int (k : Int))), some (.p (entAt ns xs ns[k])), none, none] T = .ok (.p (.bl (!decide (entAt ns xs ns[k] = un)))) T :=
        ecmp (evv rfl) etp0 (ne_nice (ent46_ok _ _).thg.nice (show PD.nice 30 un = true from rfl) (by decide))
      have hl1 : ((liveN ns xs (ns.take k)).map (entAt ns xs)).length < LINE := by
        have : (liveN ns xs (ns.take k)).length ≤ (ns.take k).length := List.length_filter_le _ _
        rw [List.length_map]; rw [List.length_take] at this; omega
      refine ⟨[some (.ref a), some (.ref b), some (.ref q), some (.ref S.length), some (.p (.int (k : Int))), x0, none, none], rfl, [some (.ref a), some (.ref b), some (.ref q), some (.ref S.length), some (.p (.int (k : Int))), some (.p (entAt ns xs ns[k])), none, none], ?_⟩
      have hs : liveN ns xs (ns.take (k + 1)) = liveN ns xs (ns.take k) ++ if entAt ns xs ns[k] ≠ un then [ns[k]] else [] := by
        unfold liveN
        rw [take_get hk', List.filter_append, List.filter_cons, List.filter_nil]
        by_cases z : entAt ns xs ns[k] = un <;> simp [z]
      by_cases z : entAt ns xs ns[k] = un
      · refine ⟨T, (evz_step (stasg ev rfl)).trans ((evz_step (stif0 (ne.trans (by rw [decide_eq_true z]; rfl)))).trans (evz_nil ..)), ⟨_, _, rfl⟩, ?_⟩
        rw [← hT, hs]; simp [z]
      · refine ⟨_, (evz_step (stasg ev rfl)).trans ((evz_step (stif1 (ne.trans (by rw [decide_eq_false z]; rfl)) ((evz_step (stapp (evv rfl) ht hl1 (evv rfl))).trans (evz_nil ..)))).trans (evz_nil ..)), ⟨_, _, rfl⟩, ?_⟩
        rw [← hT, hs]; simp [z]) ⟨⟨_, _, rfl⟩, by simp [liveN]⟩
  have hfull : ns.take 5 = ns := List.take_of_length_le (by omega)
  rw [hfull] at e1
  generalize hEn : (liveN ns xs ns).map (entAt ns xs) = en at e1
  have hel : en.length = (liveN ns xs ns).length := by rw [← hEn]; simp
  have helb : (liveN ns xs ns).length ≤ 5 := by have : (liveN ns xs ns).length ≤ ns.length := List.length_filter_le _ _; omega
  -- what serves
  obtain ⟨ρ2, T2, e2, ⟨k2, x2, y2, rfl⟩, rfl⟩ := forI_rgN (n := 3) (tg := .nm 4) (body := evCz (M46 (j + 1)) (match k46_law_place.body with
      | .cons _ (.cons _ (.cons _ (.cons (.forr _ _ b) _))) => b
      | _ => .nil)) (ρ := [some (.ref a), some (.ref b), some (.ref q), some (.ref S.length), k1, x1, some (.ref (S.length + 1)), none]) (S := S ++ [.pl en, .pl []]) (fun k ρ T => (∃ k x y, ρ = [some (.ref a), some (.ref b), some (.ref q), some (.ref S.length), k, x, some (.ref (S.length + 1)), y]) ∧ T = S ++ [.pl en, .pl ((liveP ns ps xs (ps.take k)).map (srvP ns ps xs))])
    (by
      rintro k _ _ hk ⟨⟨k0, x0, y0, rfl⟩, rfl⟩
      have hk' : k < ps.length := by omega
      generalize hT : S ++ [O.pl en, .pl ((liveP ns ps xs (ps.take k)).map (srvP ns ps xs))] = T
      have hTl : ∃ l, T = S ++ l := ⟨_, hT.symm⟩
      have ht1 : T[S.length]? = some (.pl en) := by rw [← hT]; simp
      have ht2 : T[S.length + 1]? = some (.pl ((liveP ns ps xs (ps.take k)).map (srvP ns ps xs))) := by rw [← hT]; simp
      have gp : ps.getD k [] = ps[k] := by rw [List.getD_eq_getElem?_getD, List.getElem?_eq_getElem hk']; rfl
      generalize hN : (xs.getD (5 + k) 0).toNat = N
      have ev : evE (M46 (j + 1)) (.ix (.v 2) (.bin .Add (.blt .len (.cons (.v 0) .nil)) (.v 4))) [some (.ref a), some (.ref b), some (.ref q), some (.ref S.length), some (.p (.int (k : Int))), x0, some (.ref (S.length + 1)), y0] T = .ok (.p (.int (N : Int))) T := by
        obtain ⟨l, rfl⟩ := hTl
        rw [← hN]
        exact eix (d2 := .p (.int ((5 + k : Nat) : Int))) (evv rfl) (ebin (eblt1 (evv rfl) (lna l)) (evv rfl) ((bin_add ..).trans (by rw [Int.natCast_add]))) (ix_ints (pre_get hq) hx (by omega))
      let ρ3 : Nv := [some (.ref a), some (.ref b), some (.ref q), some (.ref S.length), some (.p (.int (k : Int))), x0, some (.ref (S.length + 1)), some (.p (.int (N : Int)))]
      have lne : bltI .len [.ref S.length] T = .ok (.p (.int (en.length : Nat))) T := by rw [len_ref ht1 rfl]; simp [O.ds]
      have t1 : evE (M46 (j + 1)) (.cmp .Gt (.blt .len (.cons (.v 3) .nil)) (.k (.int 0))) ρ3 T = .ok (.p (.bl (decide (0 < (en.length : Int))))) T := ecmp (eblt1 (evv rfl) lne) (ev_k ..) (cmp_gt ..)
      have t2 : evE (M46 (j + 1)) (.cmp .Gt (.bin .Mod (.bin .FloorDiv (.v 7) (.k (.int 7))) (.k (.int 3))) (.k (.int 0))) ρ3 T = .ok (.p (.bl (decide (0 < ((N / 7 % 3 : Nat) : Int))))) T := ecmp (dm_ev 7 3 rfl (by decide) (by decide)) (ev_k ..) (cmp_gt ..)
      have tt := eand2 t1 t2
      have hN2 : (xs.getD (ns.length + ps.idxOf ps[k]) 0).toNat = N := by rw [hp.idxOf_getElem k hk', hl]; exact hN
      have hs : liveP ns ps xs (ps.take (k + 1)) = liveP ns ps xs (ps.take k) ++ if srvAt ns ps xs ps[k] ≠ un then [ps[k]] else [] := by
        unfold liveP
        rw [take_get hk', List.filter_append, List.filter_cons, List.filter_nil]
        by_cases z : srvAt ns ps xs ps[k] = un <;> simp [z]
      have hl2 : ((liveP ns ps xs (ps.take k)).map (srvP ns ps xs)).length < LINE := by
        have : (liveP ns ps xs (ps.take k)).length ≤ (ps.take k).length := List.length_filter_le _ _
        rw [List.length_map]; rw [List.length_take] at this; omega
      refine ⟨[some (.ref a), some (.ref b), some (.ref q), some (.ref S.length), some (.p (.int (k : Int))), x0, some (.ref (S.length + 1)), y0], rfl, ρ3, ?_⟩
      by_cases hc : 0 < en.length ∧ 0 < N / 7 % 3
      · have hv : srvAt ns ps xs ps[k] = .str ((liveN ns xs ns).getD (N / 21 % (liveN ns xs ns).length) []) := by
          unfold srvAt; rw [hN2, if_pos (by rw [← hel]; exact hc)]
        have hne : srvAt ns ps xs ps[k] ≠ un := by rw [hv]; intro z; cases z
        have hb1 : (decide (0 < (en.length : Int)) && decide (0 < ((N / 7 % 3 : Nat) : Int))) = true := by
          rw [Bool.and_eq_true, decide_eq_true_eq, decide_eq_true_eq]; omega
        have hmod : N / 21 % en.length < en.length := Nat.mod_lt _ hc.1
        have e0 : evE (M46 (j + 1)) (.ix (.ix (.v 3) (.bin .Mod (.bin .FloorDiv (.v 7) (.k (.int 21))) (.blt .len (.cons (.v 3) .nil)))) (.k (.int 0))) ρ3 T = .ok (.p (srvAt ns ps xs ps[k])) T := by
          have hmem : (liveN ns xs ns).getD (N / 21 % (liveN ns xs ns).length) [] ∈ liveN ns xs ns := getD_mem (by rw [← hel]; exact hmod)
          have hentry : en.getD (N / 21 % en.length) un = entAt ns xs ((liveN ns xs ns).getD (N / 21 % (liveN ns xs ns).length) []) := by
            rw [hel, ← hEn, List.getD_eq_getElem?_getD, List.getD_eq_getElem?_getD, List.getElem?_map, List.getElem?_eq_getElem (by rw [← hel]; exact hmod)]
            rfl
          have h2 : entAt ns xs ((liveN ns xs ns).getD (N / 21 % (liveN ns xs ns).length) []) ≠ un := by simpa using (List.mem_filter.mp hmem).2
          obtain ⟨r, hr⟩ : ∃ r, entAt ns xs ((liveN ns xs ns).getD (N / 21 % (liveN ns xs ns).length) []) = .tup (.str ((liveN ns xs ns).getD (N / 21 % (liveN ns xs ns).length) []) :: r) := (ent46_ok _ _).1.resolve_left h2
          have hx1 := ix_pl (n := S.length) ht1 hmod
          rw [hentry, hr] at hx1
          rw [hv]
          refine eix_k (i := 0) (eix (d2 := .p (.int ((N / 21 % en.length : Nat) : Int))) (evv rfl) (ebin (ebin (evv rfl) (ev_k ..) (bin_div (by decide))) (eblt1 (evv rfl) lne) ((bin_mod (by omega)).trans (by rw [Int.natCast_emod, Int.natCast_ediv]; rfl))) hx1) rfl
        have e9 : evE (M46 (j + 1)) (.ix (.v 1) (.v 4)) ρ3 T = .ok (.p (.str ps[k])) T := by
          obtain ⟨l, rfl⟩ := hTl
          rw [← gp]
          exact eix (evv rfl) (evv rfl) (ix_strs (pre_get hb) hk')
        refine ⟨_, (evz_step (stasg ev rfl)).trans ((evz_step (stif1 (tt.trans (by rw [hb1])) ((evz_step (stapp (evv rfl) ht2 hl2 (etp2 e9 e0))).trans (evz_nil ..)))).trans (evz_nil ..)), ⟨_, _, _, rfl⟩, ?_⟩
        rw [← hT, hs]; simp [hne, srvP]
      · have hv : srvAt ns ps xs ps[k] = un := by unfold srvAt; rw [hN2, if_neg (by rw [← hel]; exact hc)]
        have hb1 : (decide (0 < (en.length : Int)) && decide (0 < ((N / 7 % 3 : Nat) : Int))) = false := by
          rw [Bool.and_eq_false_iff, decide_eq_false_iff_not, decide_eq_false_iff_not]; omega
        refine ⟨T, (evz_step (stasg ev rfl)).trans ((evz_step (stif0 (tt.trans (by rw [hb1])))).trans (evz_nil ..)), ⟨_, _, _, rfl⟩, ?_⟩
        rw [← hT, hs]; simp [hv]) ⟨⟨_, _, _, rfl⟩, by simp [liveP]⟩
  have hfull2 : ps.take 3 = ps := List.take_of_length_le (by omega)
  rw [hfull2] at e2
  generalize hSv : (liveP ns ps xs ps).map (srvP ns ps xs) = sv at e2
  have g1 := ents_srt (ps := ps) nd xs
  have g2 := srv_srt (ns := ns) hp xs
  rw [hEn] at g1
  rw [hSv] at g2
  generalize hA : (paks (mkSl ns ps) (stAt ns ps xs)).map (stAt ns ps xs) = A at g1
  generalize hB : (pcs (mkSl ns ps) (stAt ns ps xs)).map (pair (stAt ns ps xs)) = B at g2
  have hplc : plc (mkSl ns ps) (stAt ns ps xs) = .tup [.tup A, .tup B] := by unfold plc; rw [hA, hB]
  rw [hplc]
  refine runB_rt (d := .p (.tup [.tup A, .tup B])) (S' := S ++ [.pl en, .pl sv, .pl A, .pl B]) ?_ (tidy_pa _ _)
  have c1 : evC (M46 (j + 1)) (.asg (.nm 3) (.ls .nil)) [some (.ref a), some (.ref b), some (.ref q), none, none, none, none, none] S = .nx [some (.ref a), some (.ref b), some (.ref q), some (.ref S.length), none, none, none, none] (S ++ [.pl []]) := stasg els0 rfl
  have c2 : evC (M46 (j + 1)) (.asg (.nm 6) (.ls .nil)) [some (.ref a), some (.ref b), some (.ref q), some (.ref S.length), k1, x1, none, none] (S ++ [.pl en]) = .nx [some (.ref a), some (.ref b), some (.ref q), some (.ref S.length), k1, x1, some (.ref (S.length + 1)), none] (S ++ [.pl en, .pl []]) := stasg (els0.trans (by simp)) rfl
  refine (evz_step c1).trans ((evz_step (stfor (rgL_ev (n := 5) (evv rfl) (lna _)) e1)).trans ((evz_step c2).trans ((evz_step (stfor (rgL_ev (n := 3) (evv rfl) (lnb _)) e2)).trans (evz_end (stret ?_)))))
  refine etp2 (S1 := S ++ [.pl en, .pl sv, .pl A]) (eblt1 (eblt1 (evv rfl) (sorted_ev (xs := en) (data_pl (by simp)) g1)) ?_) (eblt1 (eblt1 (evv rfl) (sorted_ev (xs := sv) (data_pl (by simp)) g2)) ?_)
  · refine (tuple_ev (xs := A) (data_pl (by simp))).trans ?_
    simp
  · refine (tuple_ev (xs := B) (data_pl (by simp))).trans ?_
    simp
end
end PH

set_option maxHeartbeats 4000000
/-! k46: the law's drawn changes. -/
namespace PH
open L2 PySem PySem.Spec PyProof.Rows
section
variable {S : Sto} {j a m q : Nat} {ns ps : List Cs} {xs : List Int} {f : Sl → PD}
def opts (ns : List Cs) : List PD := [un] ++ ns.map .str
def aft46 (ns : List Cs) (x : Sl) (N : Nat) : PD := if x.1 then (opts ns).getD (N / 8 % (ns.length + 1)) un else ent46 x.2 (N / 8 % 3000)
def oth46 (ns : List Cs) (x : Sl) (N : Nat) : PD := if x.1 then (opts ns).getD (N / 64 % (ns.length + 1)) un else ent46 x.2 (N / 64)
def bef46 (ns : List Cs) (f : Sl → PD) (x : Sl) (N : Nat) : PD := if N % 8 = 0 then oth46 ns x N else f x
def one46 (ns : List Cs) (f : Sl → PD) (x : Sl) (N : Nat) : Option (PD × PD) := if N % 2 = 0 ∧ bef46 ns f x N ≠ aft46 ns x N then some (bef46 ns f x N, aft46 ns x N) else none
def chg46 (sl : List Sl) (ns : List Cs) (xs : List Int) (f : Sl → PD) : Chg := fun x => one46 ns f x (xs.getD (sl.idxOf x) 0).toNat
theorem opts_thg (ns : List Cs) (x : Cs) (i : Nat) : Thg (true, x) ((opts ns).getD i un) := getD_all (p := Thg (true, x)) (fun y hy => by
  rcases List.mem_append.mp hy with z | z
  · rw [List.mem_singleton.mp z]; exact Thg.un _
  · obtain ⟨n, _, rfl⟩ := List.mem_map.mp z
    exact ⟨.inr (.inr ⟨rfl, _, rfl⟩), rfl, rfl, by simp [PD.wt]⟩) (Thg.un _) i
theorem aft_thg (ns : List Cs) (x : Sl) (N : Nat) : Thg x (aft46 ns x N) := by
  obtain ⟨b, x⟩ := x
  cases b with
  | false => exact (ent46_ok x _).thg
  | true => exact opts_thg ns x _
theorem oth_thg (ns : List Cs) (x : Sl) (N : Nat) : Thg x (oth46 ns x N) := by
  obtain ⟨b, x⟩ := x
  cases b with
  | false => exact (ent46_ok x _).thg
  | true => exact opts_thg ns x _
theorem bef_thg {sl : List Sl} (hf : Sts sl f) {x : Sl} (hx : x ∈ sl) (N : Nat) : Thg x (bef46 ns f x N) := by
  unfold bef46
  split
  · exact oth_thg ns x N
  · exact hf x hx
theorem chg46_ok {sl : List Sl} (hf : Sts sl f) : Cgs sl (chg46 sl ns xs f) := fun s hs p hp => by
  unfold chg46 one46 at hp
  split at hp
  · cases hp; exact ⟨bef_thg hf hs _, aft_thg ns s _⟩
  · cases hp
theorem change_ok {sl : List Sl} (asc : Asc sl) (hl : sl.length = 8) (hf : Sts sl f) (hlen : ∀ s ∈ sl, s.1 = false → s.2.length ≤ 20) (hns : ns.length = 5) (hx : Low xs) (hxl : 8 ≤ xs.length)
    (hm : S[m]? = some (.pl (sl.map sP))) (ha : S[a]? = some (.pl (ns.map .str))) (hq : S[q]? = some (.pl (xs.map .int))) : C46 (j + 2) 14 [.ref m, .p (plc sl f), .ref a, .ref q] S = .ok (.p (chg sl (chg46 sl ns xs f))) S := by
  have hL : LINE = 16777216 := rfl
  refine call_of (e := k46_E_law_change) rfl rfl ?_
  generalize hc : chg46 sl ns xs f = c
  have lnm : bltI .len [.ref m] (S ++ [.pl []]) = .ok (.p (.int (8 : Nat))) (S ++ [.pl []]) := by rw [len_ref (pre_get hm) rfl]; simp [O.ds, hl]
  let R : Option D → Option D → Option D → Option D → Option D → Nv := fun k n b e o => [some (.ref m), some (.p (plc sl f)), some (.ref a), some (.ref q), some (.ref S.length), k, n, b, e, o]
  obtain ⟨ρ1, T1, e1, ⟨k1, n1, b1, f1, o1, rfl⟩, l1, rfl⟩ := forI_rgN (n := 8) (tg := .nm 5) (body := evCz (M46 (j + 1)) (match k46_law_change.body with
      | .cons _ (.cons (.forr _ _ b) _) => b
      | _ => .nil)) (ρ := R none none none none none) (S := S ++ [.pl []]) (fun k ρ T => (∃ k n b e o, ρ = R k n b e o) ∧ ∃ l, T = S ++ (.pl ((rows (sl.take k) c).map row) :: l))
    (by
      rintro k _ _ hk ⟨⟨k0, n0, b0, e0, o0, rfl⟩, l, rfl⟩
      have hk' : k < sl.length := by omega
      obtain ⟨x, hxk⟩ : ∃ x, sl[k] = x := ⟨_, rfl⟩
      have hxm : x ∈ sl := by rw [← hxk]; exact List.getElem_mem hk'
      generalize hN : (xs.getD k 0).toNat = N
      have hcx : c x = one46 ns f x N := by rw [← hc]; unfold chg46; rw [← hxk, asc.nodup.idxOf_getElem k hk', hN]
      generalize hT : S ++ (O.pl ((rows (sl.take k) c).map row) :: l) = T
      have hTl : ∃ l, T = S ++ l := ⟨_, hT.symm⟩
      have ht : T[S.length]? = some (.pl ((rows (sl.take k) c).map row)) := by rw [← hT]; simp
      have tm : T[m]? = some (.pl (sl.map sP)) := by rw [← hT]; exact pre_get hm
      have ta : T[a]? = some (.pl (ns.map .str)) := by rw [← hT]; exact pre_get ha
      have tq : T[q]? = some (.pl (xs.map .int)) := by rw [← hT]; exact pre_get hq
      have hlr : ((rows (sl.take k) c).map row).length < LINE := by
        have := rows_len (sl.take k) c
        rw [List.length_map]; rw [List.length_take] at this; omega
      have ixs : ∀ (ρ : Nv) (U : Sto), U[m]? = some (.pl (sl.map sP)) → ρ[0]? = some (some (.ref m)) → ρ[5]? = some (some (.p (.int (k : Int)))) → evE (M46 (j + 1)) (.ix (.v 0) (.v 5)) ρ U = .ok (.p (sP x)) U := fun ρ U hU h0 h5 =>
        eix (evv h0) (evv h5) (ix_data (data_pl hU) (atI_nat (by simp [hk', hxk])))
      have a6 : evC (M46 (j + 1)) (.asg (.nm 6) (.ix (.v 3) (.v 5))) (R (some (.p (.int (k : Int)))) n0 b0 e0 o0) T = .nx (R (some (.p (.int (k : Int)))) (some (.p (.int (N : Int)))) b0 e0 o0) T := by
        rw [← hN]
        exact stasg (eix (evv rfl) (evv rfl) (ix_ints tq hx (by omega))) rfl
      have a7 : evC (M46 (j + 1)) (.asg (.nm 7) (.call 12 (.cons (.v 1) (.cons (.ix (.v 0) (.v 5)) .nil)))) (R (some (.p (.int (k : Int)))) (some (.p (.int (N : Int)))) b0 e0 o0) T = .nx (R (some (.p (.int (k : Int)))) (some (.p (.int (N : Int)))) (some (.p (f x))) e0 o0) T :=
        stasg (ecall2 (evv rfl) (ixs _ _ tm rfl rfl) (thing_ok asc (by omega) hf hxm)) rfl
      -- what it may end with, what it may begin with
      have a89 : ∃ l2, evC (M46 (j + 1)) (.ite (.cmp .Eq (.ix (.ix (.v 0) (.v 5)) (.k (.int 0))) (.k (.str [112, 97, 99, 107, 97, 103, 101]))) (.cons (.asg (.nm 8) (.call 9 (.cons (.ix (.ix (.v 0) (.v 5)) (.k (.int 1))) (.cons (.bin .Mod (.bin .FloorDiv (.v 6) (.k (.int 8))) (.k (.int 3000))) .nil))))
      (.cons (.asg (.nm 9) (.call 9 (.cons (.ix (.ix (.v 0) (.v 5)) (.k (.int 1))) (.cons (.bin .FloorDiv (.v 6) (.k (.int 64))) .nil)))) .nil)) (.cons (.asg (.nm 8) (.ix (.bin .Add (.ls (.cons (.tp .nil) .nil)) (.v 2)) (.bin .Mod (.bin .FloorDiv (.v 6) (.k (.int 8))) (.bin .Add (.blt .len (.cons (.v 2) .nil)) (.k (.int 1))))))
      (.cons (.asg (.nm 9) (.ix (.bin .Add (.ls (.cons (.tp .nil) .nil)) (.v 2)) (.bin .Mod (.bin .FloorDiv (.v 6) (.k (.int 64))) (.bin .Add (.blt .len (.cons (.v 2) .nil)) (.k (.int 1)))))) .nil))) (R (some (.p (.int (k : Int)))) (some (.p (.int (N : Int)))) (some (.p (f x))) e0 o0) T
          = .nx (R (some (.p (.int (k : Int)))) (some (.p (.int (N : Int)))) (some (.p (f x))) (some (.p (aft46 ns x N))) (some (.p (oth46 ns x N)))) (T ++ l2) := by
        have hk : ∀ e o, evE (M46 (j + 1)) (.cmp .Eq (.ix (.ix (.v 0) (.v 5)) (.k (.int 0))) (.k (.str [112, 97, 99, 107, 97, 103, 101]))) (R (some (.p (.int (k : Int)))) (some (.p (.int (N : Int)))) (some (.p (f x))) e o) T = .ok (.p (.bl (decide (x.1 = false)))) T := fun e o =>
          ecmp (eix_k (i := 0) (xs := [.str (kd x.1), .str x.2]) (ixs _ _ tm rfl rfl) rfl) (ev_k ..) (kd_eq false)
        by_cases hb : x.1 = false
        · have hlx := hlen x hxm hb
          have h8 : aft46 ns x N = ent46 x.2 (N / 8 % 3000) := by unfold aft46; rw [hb]; rfl
          have h9 : oth46 ns x N = ent46 x.2 (N / 64) := by unfold oth46; rw [hb]; rfl
          refine ⟨[], stif1 ((hk e0 o0).trans (by rw [decide_eq_true hb])) ?_⟩
          rw [h8, h9, List.append_nil]
          refine (evz_step (stasg (ecall2 (d2 := .p (.int ((N / 8 % 3000 : Nat) : Int))) (eix_k (i := 1) (xs := [.str (kd x.1), .str x.2]) (ixs _ _ tm rfl rfl) rfl) (dm_ev 8 3000 rfl (by decide) (by decide)) (entry_ok hlx)) rfl)).trans ((evz_step (stasg (ecall2 (d2 := .p (.int ((N / 64 : Nat) : Int))) (eix_k (i := 1) (xs := [.str (kd x.1), .str x.2]) (ixs _ _ tm rfl rfl) rfl) (ebin (evv rfl) (ev_k ..) ((bin_div (by decide)).trans (by rw [Int.natCast_ediv]; rfl))) (entry_ok hlx)) rfl)).trans (evz_nil ..))
        · have hb' : x.1 = true := by simpa using hb
          have h8 : aft46 ns x N = (opts ns).getD (N / 8 % 6) un := by unfold aft46; rw [hb', hns]; rfl
          have h9 : oth46 ns x N = (opts ns).getD (N / 64 % 6) un := by unfold oth46; rw [hb', hns]; rfl
          have hol : (opts ns).length = 6 := by simp [opts, hns]
          have lnn : ∀ U, U[a]? = some (.pl (ns.map .str)) → bltI .len [.ref a] U = .ok (.p (.int (5 : Nat))) U := fun U hU => by rw [len_ref hU rfl]; simp [O.ds, hns]
          have pick : ∀ (p : Nat) (e o : Option D) (U : Sto), 0 < p ∧ p < 1073741824 → U[a]? = some (.pl (ns.map .str)) → evE (M46 (j + 1)) (.ix (.bin .Add (.ls (.cons (.tp .nil) .nil)) (.v 2)) (.bin .Mod (.bin .FloorDiv (.v 6) (.k (.int (p : Int)))) (.bin .Add (.blt .len (.cons (.v 2) .nil)) (.k (.int 1))))) (R (some (.p (.int (k : Int)))) (some (.p (.int (N : Int)))) (some (.p (f x))) e o) U
              = .ok (.p ((opts ns).getD (N / p % 6) un)) (U ++ [.pl [un], .pl (opts ns)]) := fun p e o U hp hU => by
            refine eix (d1 := .ref (U.length + 1)) (S1 := U ++ [.pl [un], .pl (opts ns)]) (d2 := .p (.int ((N / p % 6 : Nat) : Int))) (ebin (els1 etp0) (evv rfl) ?_) (ebin (ebin (evv rfl) (ev_k ..) (bin_div (by omega))) (ebin (eblt1 (evv rfl) (lnn _ (pre_get hU))) (ev_k ..) (bin_add ..)) ((bin_mod (by decide)).trans (by rw [Int.natCast_emod, Int.natCast_ediv]; rfl))) (ix_pl (by simp) (by rw [hol]; exact Nat.mod_lt _ (by decide)))
            rw [bin_addL (a := [un]) (b := ns.map .str) (by simp) (pre_get hU) (by simp; omega)]
            simp [opts]
          refine ⟨[.pl [un], .pl (opts ns), .pl [un], .pl (opts ns)], stif2 ((hk e0 o0).trans (by rw [decide_eq_false hb])) ?_⟩
          rw [h8, h9]
          refine (evz_step (stasg (pick 8 _ _ T (by decide) ta) rfl)).trans ((evz_step (stasg ((pick 64 _ _ (T ++ [.pl [un], .pl (opts ns)]) (by decide) (pre_get ta)).trans (by simp)) rfl)).trans (evz_nil ..))
      obtain ⟨l2, a89⟩ := a89
      have ev8 : evE (M46 (j + 1)) (.cmp .Eq (.bin .Mod (.v 6) (.k (.int 8))) (.k (.int 0))) (R (some (.p (.int (k : Int)))) (some (.p (.int (N : Int)))) (some (.p (f x))) (some (.p (aft46 ns x N))) (some (.p (oth46 ns x N)))) (T ++ l2) = .ok (.p (.bl (decide (N % 8 = 0)))) (T ++ l2) :=
        ecmp (ebin (evv rfl) (ev_k ..) (bin_mod (by decide))) (ev_k ..) ((eq_int ..).trans (by rw [show decide ((N : Int) % 8 = 0) = decide (N % 8 = 0) from decide_eq_decide.mpr (by omega)]))
      have a10 : evC (M46 (j + 1)) (.ite (.cmp .Eq (.bin .Mod (.v 6) (.k (.int 8))) (.k (.int 0))) (.cons (.asg (.nm 7) (.v 9)) .nil) .nil) (R (some (.p (.int (k : Int)))) (some (.p (.int (N : Int)))) (some (.p (f x))) (some (.p (aft46 ns x N))) (some (.p (oth46 ns x N)))) (T ++ l2)
          = .nx (R (some (.p (.int (k : Int)))) (some (.p (.int (N : Int)))) (some (.p (bef46 ns f x N))) (some (.p (aft46 ns x N))) (some (.p (oth46 ns x N)))) (T ++ l2) := by
        unfold bef46
        by_cases h : N % 8 = 0
        · rw [if_pos h]
          rw [decide_eq_true h] at ev8
          exact stif1 ev8 ((evz_step (stasg (evv rfl) rfl)).trans (evz_nil ..))
        · rw [if_neg h]
          rw [decide_eq_false h] at ev8
          exact stif0 ev8
      have ev2 : evE (M46 (j + 1)) (.cmp .Eq (.bin .Mod (.v 6) (.k (.int 2))) (.k (.int 0))) (R (some (.p (.int (k : Int)))) (some (.p (.int (N : Int)))) (some (.p (bef46 ns f x N))) (some (.p (aft46 ns x N))) (some (.p (oth46 ns x N)))) (T ++ l2) = .ok (.p (.bl (decide (N % 2 = 0)))) (T ++ l2) :=
        ecmp (ebin (evv rfl) (ev_k ..) (bin_mod (by decide))) (ev_k ..) ((eq_int ..).trans (by rw [show decide ((N : Int) % 2 = 0) = decide (N % 2 = 0) from decide_eq_decide.mpr (by omega)]))
      have evn : evE (M46 (j + 1)) (.cmp .NotEq (.v 7) (.v 8)) (R (some (.p (.int (k : Int)))) (some (.p (.int (N : Int)))) (some (.p (bef46 ns f x N))) (some (.p (aft46 ns x N))) (some (.p (oth46 ns x N)))) (T ++ l2) = .ok (.p (.bl (!decide (bef46 ns f x N = aft46 ns x N)))) (T ++ l2) :=
        ecmp (evv rfl) (evv rfl) (ne_nice (bef_thg hf hxm N).nice (aft_thg ns x N).nice (by decide))
      have tt := eand2 ev2 evn
      have hs : rows (sl.take (k + 1)) c = rows (sl.take k) c ++ ((one46 ns f x N).map fun p => (x, p.1, p.2)).toList := by
        rw [take_get hk', hxk, rows_snoc, hcx]
      refine ⟨R (some (.p (.int (k : Int)))) n0 b0 e0 o0, rfl, R (some (.p (.int (k : Int)))) (some (.p (.int (N : Int)))) (some (.p (bef46 ns f x N))) (some (.p (aft46 ns x N))) (some (.p (oth46 ns x N))), ?_⟩
      by_cases h : N % 2 = 0 ∧ bef46 ns f x N ≠ aft46 ns x N
      · have hb1 : (decide (N % 2 = 0) && !decide (bef46 ns f x N = aft46 ns x N)) = true := by simp [h.1, h.2]
        refine ⟨_, (evz_step a6).trans ((evz_step a7).trans ((evz_step a89).trans ((evz_step a10).trans ((evz_step (stif1 (tt.trans (by rw [hb1])) ((evz_step (stapp (evv rfl) (pre_get ht) hlr (etp3 (ixs _ _ (pre_get tm) rfl rfl) (evv rfl) (evv rfl)))).trans (evz_nil ..)))).trans (evz_nil ..))))), ⟨_, _, _, _, _, rfl⟩, l ++ l2, ?_⟩
        rw [hs, ← hT]
        simp [one46, h, row]
      · have hb1 : (decide (N % 2 = 0) && !decide (bef46 ns f x N = aft46 ns x N)) = false := by
          by_cases h1 : N % 2 = 0
          · have : bef46 ns f x N = aft46 ns x N := Decidable.byContradiction fun z => h ⟨h1, z⟩
            simp [this]
          · simp [h1]
        refine ⟨T ++ l2, (evz_step a6).trans ((evz_step a7).trans ((evz_step a89).trans ((evz_step a10).trans ((evz_step (stif0 (tt.trans (by rw [hb1])))).trans (evz_nil ..))))), ⟨_, _, _, _, _, rfl⟩, l ++ l2, ?_⟩
        rw [hs, ← hT]
        simp [one46, h]) ⟨⟨_, _, _, _, _, rfl⟩, [], by simp [rows]⟩
  have hfull : sl.take 8 = sl := List.take_of_length_le (by omega)
  rw [hfull] at e1
  refine runB_rt (d := .p (chg sl c)) (S' := S ++ (.pl ((rows sl c).map row) :: l1)) ?_ (tidy_pa _ _)
  have c1 : evC (M46 (j + 1)) (.asg (.nm 4) (.ls .nil)) [some (.ref m), some (.p (plc sl f)), some (.ref a), some (.ref q), none, none, none, none, none, none] S = .nx (R none none none none none) (S ++ [.pl []]) := stasg els0 rfl
  exact (evz_step c1).trans ((evz_step (stfor (rgL_ev (n := 8) (evv rfl) lnm) e1)).trans (evz_end (stretT (evv rfl) (data_pl (by simp)))))
end
end PH

set_option maxHeartbeats 4000000
/-! k46: plain facts on changes; their sizes. -/
namespace PH
open L2 PySem PySem.Spec PyProof.Rows
section
variable {sl : List Sl} {f g h : Sl → PD} {c d : Chg}
theorem Cgs.dfc (hf : Sts sl f) (hg : Sts sl g) : Cgs sl (dfc f g) := fun s hs p hp => by
  unfold PH.dfc at hp
  split at hp
  · cases hp; exact ⟨hf s hs, hg s hs⟩
  · cases hp
theorem Cgs.sw (hc : Cgs sl c) : Cgs sl (sw c) := fun s hs p hp => by
  unfold PH.sw at hp
  obtain ⟨q, hq, rfl⟩ := Option.map_eq_some_iff.mp hp
  exact ⟨(hc s hs q hq).2, (hc s hs q hq).1⟩
theorem Cgs.jc (hc : Cgs sl c) (hd : Cgs sl d) : Cgs sl (jc c d) := fun s hs p hp => by
  unfold PH.jc at hp
  cases q1 : c s with
  | none =>
    cases q2 : d s with
    | none => simp [q1, q2] at hp
    | some q => simp only [q1, q2, Option.some.injEq] at hp; subst hp; exact hd s hs q q2
  | some p1 =>
    cases q2 : d s with
    | none => simp only [q1, q2, Option.some.injEq] at hp; subst hp; exact hc s hs p1 q1
    | some q =>
      simp only [q1, q2] at hp
      split at hp
      · cases hp; exact ⟨(hc s hs p1 q1).1, (hd s hs q q2).2⟩
      · cases hp
theorem ap_dfc (f g : Sl → PD) : ap f (dfc f g) = g := by
  funext s
  unfold ap dfc
  by_cases e : f s = g s <;> simp [e]
theorem ap_sw (f g : Sl → PD) : ap g (sw (dfc f g)) = f := by
  funext s
  unfold ap sw dfc
  by_cases e : f s = g s <;> simp [e]
theorem off_dfc (f g : Sl → PD) (s : Sl) : off f (dfc f g) s = false := by
  unfold off dfc
  by_cases e : f s = g s <;> simp [e]
theorem off_sw (f g : Sl → PD) (s : Sl) : off g (sw (dfc f g)) s = false := by
  unfold off sw dfc
  by_cases e : f s = g s <;> simp [e]
theorem find_no {p : Sl → Bool} (h : ∀ s, p s = false) : sl.find? p = none := List.find?_eq_none.mpr fun s _ => by rw [h s]; decide
theorem app_dfc (hg : Closed sl g) : appRz sl f (dfc f g) = .done (plc sl g) := by
  unfold appRz
  rw [find_no (off_dfc f g)]
  show placeRz sl (ap f (dfc f g)) = _
  rw [ap_dfc]
  unfold placeRz
  rw [hg]
theorem app_sw (hf : Closed sl f) : appRz sl g (sw (dfc f g)) = .done (plc sl f) := by
  unfold appRz
  rw [find_no (off_sw f g)]
  show placeRz sl (ap g (sw (dfc f g))) = _
  rw [ap_sw]
  unfold placeRz
  rw [hf]
theorem jc_dfc (f g h : Sl → PD) : jc (dfc f g) (dfc g h) = dfc f h := by
  funext s
  unfold jc dfc
  by_cases e1 : f s = g s <;> by_cases e2 : g s = h s
  · simp [e1, e2]
  · simp [e1, e2]
  · have : ¬ f s = h s := fun z => e1 (z.trans e2.symm)
    simp [e1, e2]
    rw [← e2]; simp [e1]
  · have e4 : ¬ h s = g s := fun z => e2 z.symm
    by_cases e3 : f s = h s <;> simp [e1, e2, e3, e4]
theorem bad_dfc (f g h : Sl → PD) (s : Sl) : bad (dfc f g) (dfc g h) s = false := by
  unfold bad dfc
  by_cases e1 : f s = g s <;> by_cases e2 : g s = h s <;> simp [e1, e2]
theorem join_dfc : joinRz sl (dfc f g) (dfc g h) = .done (chg sl (dfc f h)) := by
  unfold joinRz
  rw [find_no (bad_dfc f g h), jc_dfc]
theorem jc_back (f g : Sl → PD) : jc (dfc f g) (sw (dfc f g)) = fun _ => none := by
  funext s
  unfold jc sw dfc
  by_cases e1 : f s = g s <;> simp [e1]
theorem bad_back (f g : Sl → PD) (s : Sl) : bad (dfc f g) (sw (dfc f g)) s = false := by
  unfold bad sw dfc
  by_cases e1 : f s = g s <;> simp [e1]
theorem chg_no : chg sl (fun _ => none) = un := by
  have : rows sl (fun _ => none) = [] := by
    unfold rows; simp
  unfold chg; rw [this]; rfl
theorem join_back : joinRz sl (dfc f g) (sw (dfc f g)) = .done un := by
  unfold joinRz
  rw [find_no (bad_back f g), jc_back, chg_no]
theorem dfc_self : chg sl (dfc f f) = un := by
  have : dfc f f = fun _ => none := by funext s; simp [dfc]
  rw [this, chg_no]
/-! ### sizes -/
theorem sP_wt (s : Sl) : (sP s).wt = 3 := by simp [sP, PD.wt, PD.wts]
theorem chg_dat (hc : Cgs sl c) : (chg sl c).dat = true := by
  show PD.dats ((rows sl c).map row) = true
  rw [dats_iff]
  intro x hx
  obtain ⟨r, hr, rfl⟩ := List.mem_map.mp hx
  obtain ⟨h1, h2⟩ := mem_rows.mp hr
  obtain ⟨t1, t2⟩ := hc r.1 h1 r.2 h2
  show PD.dats [sP r.1, r.2.1, r.2.2] = true
  simp [PD.dats, sP_dat, t1.dat, t2.dat]
theorem chg_wt (hc : Cgs sl c) (hl : sl.length ≤ 8) : (chg sl c).wt ≤ 5000 := by
  have h := wts_le (b := 300) (xs := (rows sl c).map row) fun x hx => by
    obtain ⟨r, hr, rfl⟩ := List.mem_map.mp hx
    obtain ⟨h1, h2⟩ := mem_rows.mp hr
    obtain ⟨t1, t2⟩ := hc r.1 h1 r.2 h2
    have := t1.wt
    have := t2.wt
    simp only [row, PD.wt, PD.wts, sP_wt]; omega
  have h2 := rows_len sl c
  rw [List.length_map] at h
  simp only [chg, PD.wt]
  have : (rows sl c).length * 300 ≤ 8 * 300 := Nat.mul_le_mul_right _ (by omega)
  omega
theorem plc_dat (hf : Sts sl f) : (plc sl f).dat = true := by
  have h1 : PD.dats ((paks sl f).map f) = true := by
    rw [dats_iff]
    intro x hx
    obtain ⟨s, hs, rfl⟩ := List.mem_map.mp hx
    exact (hf s (mem_paks.mp hs).1).dat
  have h2 : PD.dats ((pcs sl f).map (pair f)) = true := by
    rw [dats_iff]
    intro x hx
    obtain ⟨s, hs, rfl⟩ := List.mem_map.mp hx
    show PD.dats [.str s.2, f s] = true
    simp [PD.dats, PD.dat, (hf s (mem_pcs.mp hs).1).dat]
  show PD.dats [.tup _, .tup _] = true
  simp [PD.dats, PD.dat, h1, h2]
theorem plc_wt (hf : Sts sl f) (hl : sl.length ≤ 8) : (plc sl f).wt ≤ 5000 := by
  have ll : (live sl f).length ≤ sl.length := List.length_filter_le _ _
  have lp : (paks sl f).length ≤ sl.length := Nat.le_trans (List.length_filter_le _ _) ll
  have lc : (pcs sl f).length ≤ sl.length := Nat.le_trans (List.length_filter_le _ _) ll
  have h1 := wts_le (b := 100) (xs := (paks sl f).map f) fun x hx => by
    obtain ⟨s, hs, rfl⟩ := List.mem_map.mp hx
    exact (hf s (mem_paks.mp hs).1).wt
  have h2 := wts_le (b := 200) (xs := (pcs sl f).map (pair f)) fun x hx => by
    obtain ⟨s, hs, rfl⟩ := List.mem_map.mp hx
    have := (hf s (mem_pcs.mp hs).1).wt
    simp only [pair, PD.wt, PD.wts]; omega
  rw [List.length_map] at h1 h2
  have a1 : (paks sl f).length * 100 ≤ 8 * 100 := Nat.mul_le_mul_right _ (by omega)
  have a2 : (pcs sl f).length * 200 ≤ 8 * 200 := Nat.mul_le_mul_right _ (by omega)
  simp only [plc, PD.wt, PD.wts]
  omega
/-- outcomes that can be compared -/
def Rz.good : Rz → Prop
  | .stale _ => True
  | .done x => x.dat = true ∧ x.wt ≤ 5000
theorem Rz.pd_ok {r : Rz} (h : r.good) : r.pd.dat = true ∧ r.pd.wt ≤ 900000 := by
  cases r with
  | stale s =>
    refine ⟨?_, ?_⟩
    · show PD.dats [tStale, sP s] = true
      simp [PD.dats, tStale, PD.dat, sP_dat]
    · simp only [Rz.pd, tStale, PD.wt, PD.wts, sP_wt]; omega
  | done x =>
    obtain ⟨h1, h2⟩ := h
    refine ⟨?_, ?_⟩
    · show PD.dats [tDone, x] = true
      simp [PD.dats, tDone, PD.dat, h1]
    · simp only [Rz.pd, tDone, PD.wt, PD.wts]; omega
theorem join_good (hc : Cgs sl c) (hd : Cgs sl d) (hl : sl.length ≤ 8) : (joinRz sl c d).good := by
  unfold joinRz
  split
  · trivial
  · exact ⟨chg_dat (hc.jc hd), chg_wt (hc.jc hd) hl⟩
theorem app_good (hf : Sts sl f) (hc : Cgs sl c) (hl : sl.length ≤ 8) : (appRz sl f c).good := by
  unfold appRz
  split
  · trivial
  · unfold placeRz
    split
    · trivial
    · exact ⟨plc_dat (hf.ap hc), plc_wt (hf.ap hc) hl⟩
end
end PH

set_option maxHeartbeats 8000000
/-! k46: the law. -/
namespace PH
open L2 PySem PySem.Spec PyProof.Rows
theorem lcI_one {w : Wk} {tg : Tg} {elt : Nv → Sto → Res D} {ρ ρ1 : Nv} {n : Nat} {o o' : O} {d y : D} {ds : List D} {S S2 : Sto} (hs : w.still S = true) (ha : asgT tg d ρ = some ρ1) (h1 : S[n]? = some o) (he : elt ρ1 S = .ok y S2) (h2 : S2[n]? = some o) (hp : o.push y = some o') :
    lcI w tg (fun _ S => .ok true S) elt ρ n o (d :: ds) S = lcI w tg (fun _ S => .ok true S) elt ρ n o' ds (S2.set n o') := by
  rw [lcI, if_pos hs]
  simp only [ha, h1, if_true, he, h2, hp]
theorem lcI_end {w : Wk} {tg : Tg} {elt : Nv → Sto → Res D} {c : Nv → Sto → Res Bool} {ρ : Nv} {n : Nat} {o : O} {S : Sto} (hs : w.still S = true) : lcI w tg c elt ρ n o [] S = .ok (.ref n) S := by rw [lcI, if_pos hs]
/-- numbers that can serve -/
def N16 (xs : List Int) : Prop := xs.length = 16 ∧ Low xs
theorem N16.set {xs : List Int} (h : N16 xs) (i : Nat) {y : Int} (hy : 0 ≤ y ∧ y < 1000000) : N16 (xs.set i y) := ⟨by rw [List.length_set]; exact h.1, fun z hz => by
  rcases List.mem_or_eq_of_mem_set hz with q | q
  · exact h.2 z q
  · rw [q]; exact hy⟩
theorem sub_pl {S : Sto} {n i : Nat} {xs : List Int} {y : Int} (h : S[n]? = some (.pl (xs.map .int))) (hi : i < xs.length) : subI (.ref n) (.p (.int (i : Int))) (.p (.int y)) S = some (S.set n (.pl ((xs.set i y).map .int))) := by
  have hx : ixN (xs.map PD.int).length ((i : Nat) : Int) = some i := by
    unfold ixN
    rw [if_pos (by omega), if_pos (by rw [List.length_map]; omega)]
    simp
  simp only [subI, h, hx, Option.map_some, List.map_set]
theorem stsub {M : Mo} {ρ : Nv} {S S1 S2 S3 S4 : Sto} {a i e : E} {d1 d2 d3 : D} (h1 : evE M e ρ S = .ok d1 S1) (h2 : evE M a ρ S1 = .ok d2 S2) (h3 : evE M i ρ S2 = .ok d3 S3) (h4 : subI d2 d3 d1 S3 = some S4) : evC M (.sub a i e) ρ S = .nx ρ S4 := by
  rw [evc_sub, h1, Res.out_ok, h2, Res.out_ok, h3, Res.out_ok, h4]
theorem N16.at {xs : List Int} (h : N16 xs) {i : Nat} (hi : i < 16) : 0 ≤ xs.getD i 0 ∧ xs.getD i 0 < 1000000 := by
  have hi' : i < xs.length := by rw [h.1]; exact hi
  rw [List.getD_eq_getElem?_getD, List.getElem?_eq_getElem hi']
  exact h.2 _ (List.getElem_mem hi')
theorem ix16 {S : Sto} {n i : Nat} {xs : List Int} (h : S[n]? = some (.pl (xs.map .int))) (hx : N16 xs) (hi : i < 16) : ixI (.ref n) (.p (.int (i : Int))) S = .ok (.p (.int (xs.getD i 0))) S := by
  have hi' : i < xs.length := by rw [hx.1]; exact hi
  refine ix_data (data_pl h) (atI_nat ?_)
  simp [hi']
section
variable {N : List Int}
/-- the rows of numbers, some taken over -/
theorem k46_mix (M : Mo) {A : Sto} {x0 : List Int} (h0 : N16 x0) (hA : A.length = 4) (pre : Nv) (suf : Nv) (hpre : pre.length = 4) :
    ∀ x1 x2 : List Int, N16 x1 → N16 x2 → ∃ k y1 y2, N16 y1 ∧ N16 y2 ∧ evC M (.forr (.nm 5) (.rg1 (.k (.int 8))) (match k46_law.body with
      | .cons _ (.cons _ (.cons _ (.cons _ (.cons (.forr _ _ b) _)))) => b
      | _ => .nil)) (pre ++ (some (.ref 4) :: none :: suf)) (A ++ [.ml [.ref 5, .ref 6, .ref 7], .pl (x0.map .int), .pl (x1.map .int), .pl (x2.map .int)])
      = .nx (pre ++ (some (.ref 4) :: k :: suf)) (A ++ [.ml [.ref 5, .ref 6, .ref 7], .pl (x0.map .int), .pl (y1.map .int), .pl (y2.map .int)]) := by
  intro x1 x2 h1 h2
  obtain ⟨ρ', S', e, ⟨k, rfl⟩, y1, y2, n1, n2, rfl⟩ := forI_rgN (n := 8) (tg := .nm 5) (body := evCz M (match k46_law.body with
      | .cons _ (.cons _ (.cons _ (.cons _ (.cons (.forr _ _ b) _)))) => b
      | _ => .nil)) (ρ := pre ++ (some (.ref 4) :: none :: suf)) (S := A ++ [.ml [.ref 5, .ref 6, .ref 7], .pl (x0.map .int), .pl (x1.map .int), .pl (x2.map .int)]) (fun _ ρ T => (∃ k, ρ = pre ++ (some (.ref 4) :: k :: suf)) ∧ ∃ y1 y2, N16 y1 ∧ N16 y2 ∧ T = A ++ [.ml [.ref 5, .ref 6, .ref 7], .pl (x0.map .int), .pl (y1.map .int), .pl (y2.map .int)])
    (by
      rintro k _ _ hk ⟨⟨k0, rfl⟩, y1, y2, n1, n2, rfl⟩
      have v4 : ∀ T, evE M (.v 4) (pre ++ (some (.ref 4) :: some (.p (.int (k : Int))) :: suf)) T = .ok (.ref 4) T := fun T => evv (by rw [List.getElem?_append_right (by omega)]; simp [hpre])
      have v5 : ∀ T, evE M (.v 5) (pre ++ (some (.ref 4) :: some (.p (.int (k : Int))) :: suf)) T = .ok (.p (.int (k : Int))) T := fun T => evv (by rw [List.getElem?_append_right (by omega)]; simp [hpre])
      -- a row of numbers, by its number
      have gx : ∀ (T : Sto) (y1 y2 : List Int), T = A ++ [.ml [.ref 5, .ref 6, .ref 7], .pl (x0.map .int), .pl (y1.map .int), .pl (y2.map .int)] → T[4]? = some (.ml [.ref 5, .ref 6, .ref 7]) ∧ T[5]? = some (.pl (x0.map .int)) ∧ T[6]? = some (.pl (y1.map .int)) ∧ T[7]? = some (.pl (y2.map .int)) := fun T y1 y2 hT => by
        subst hT
        refine ⟨?_, ?_, ?_, ?_⟩ <;> rw [List.getElem?_append_right (by omega)] <;> simp [hA]
      have rw4 : ∀ (T : Sto) (i : Nat), T[4]? = some (.ml [.ref 5, .ref 6, .ref 7]) → i < 3 → evE M (.ix (.v 4) (.k (.int (i : Int)))) (pre ++ (some (.ref 4) :: some (.p (.int (k : Int))) :: suf)) T = .ok (.ref (5 + i)) T := fun T i hT hi =>
        eix (v4 T) (ev_k ..) (ix_ml hT (atI_nat (by rcases i with _ | _ | _ | i <;> first | rfl | omega)))
      refine ⟨pre ++ (some (.ref 4) :: some (.p (.int (k : Int))) :: suf), ?_, pre ++ (some (.ref 4) :: some (.p (.int (k : Int))) :: suf), ?_⟩
      · show some ((pre ++ (some (.ref 4) :: k0 :: suf)).set 5 _) = _
        rw [List.set_append_right _ _ (by omega), hpre]; rfl
      obtain ⟨t4, t5, t6, t7⟩ := gx _ y1 y2 rfl
      generalize hT : A ++ [O.ml [.ref 5, .ref 6, .ref 7], .pl (x0.map .int), .pl (y1.map .int), .pl (y2.map .int)] = T at t4 t5 t6 t7
      have e85 : ∀ T, evE M (.bin .Add (.k (.int 8)) (.v 5)) (pre ++ (some (.ref 4) :: some (.p (.int (k : Int))) :: suf)) T = .ok (.p (.int ((8 + k : Nat) : Int))) T := fun T => ebin (ev_k ..) (v5 T) ((bin_add ..).trans (by rw [Int.natCast_add]; rfl))
      -- the first
      obtain ⟨z1, m1, f1⟩ : ∃ z1, N16 z1 ∧ evC M (.ite (.cmp .Eq (.bin .Mod (.ix (.ix (.v 4) (.k (.int 1))) (.bin .Add (.k (.int 8)) (.v 5))) (.k (.int 2))) (.k (.int 0))) (.cons (.sub (.ix (.v 4) (.k (.int 1))) (.v 5) (.ix (.ix (.v 4) (.k (.int 0))) (.v 5))) .nil) .nil) (pre ++ (some (.ref 4) :: some (.p (.int (k : Int))) :: suf)) T
          = .nx (pre ++ (some (.ref 4) :: some (.p (.int (k : Int))) :: suf)) (A ++ [.ml [.ref 5, .ref 6, .ref 7], .pl (x0.map .int), .pl (z1.map .int), .pl (y2.map .int)]) := by
        have ev : evE M (.cmp .Eq (.bin .Mod (.ix (.ix (.v 4) (.k (.int 1))) (.bin .Add (.k (.int 8)) (.v 5))) (.k (.int 2))) (.k (.int 0))) (pre ++ (some (.ref 4) :: some (.p (.int (k : Int))) :: suf)) T = .ok (.p (.bl (decide (y1.getD (8 + k) 0 % 2 = 0)))) T :=
          ecmp (ebin (eix (rw4 T 1 t4 (by decide)) (e85 T) (ix16 t6 n1 (by omega))) (ev_k ..) (bin_mod (by decide))) (ev_k ..) (eq_int ..)
        by_cases hc : y1.getD (8 + k) 0 % 2 = 0
        · refine ⟨y1.set k (x0.getD k 0), n1.set k (h0.at (by omega)), stif1 (ev.trans (by rw [decide_eq_true hc])) ((evz_step (stsub (eix (rw4 T 0 t4 (by decide)) (v5 T) (ix16 t5 h0 (by omega))) (rw4 T 1 t4 (by decide)) (v5 T) (sub_pl t6 (by rw [n1.1]; omega)))).trans ?_)⟩
          rw [evz_nil, ← hT, List.set_append_right _ _ (by omega), hA]; rfl
        · exact ⟨y1, n1, (stif0 (ev.trans (by rw [decide_eq_false hc]))).trans (by rw [hT])⟩
      obtain ⟨u4, u5, u6, u7⟩ := gx _ z1 y2 rfl
      generalize hU : A ++ [O.ml [.ref 5, .ref 6, .ref 7], .pl (x0.map .int), .pl (z1.map .int), .pl (y2.map .int)] = U at f1 u4 u5 u6 u7
      -- the second
      obtain ⟨z2, m2, f2⟩ : ∃ z2, N16 z2 ∧ evC M (.ite (.cmp .Lt (.bin .Mod (.ix (.ix (.v 4) (.k (.int 2))) (.bin .Add (.k (.int 8)) (.v 5))) (.k (.int 3))) (.k (.int 2))) (.cons (.sub (.ix (.v 4) (.k (.int 2))) (.v 5) (.ix (.ix (.v 4) (.bin .Mod (.ix (.ix (.v 4) (.k (.int 2))) (.bin .Add (.k (.int 8)) (.v 5))) (.k (.int 3)))) (.v 5))) .nil) .nil) (pre ++ (some (.ref 4) :: some (.p (.int (k : Int))) :: suf)) U
          = .nx (pre ++ (some (.ref 4) :: some (.p (.int (k : Int))) :: suf)) (A ++ [.ml [.ref 5, .ref 6, .ref 7], .pl (x0.map .int), .pl (z1.map .int), .pl (z2.map .int)]) := by
        have em : evE M (.bin .Mod (.ix (.ix (.v 4) (.k (.int 2))) (.bin .Add (.k (.int 8)) (.v 5))) (.k (.int 3))) (pre ++ (some (.ref 4) :: some (.p (.int (k : Int))) :: suf)) U = .ok (.p (.int (y2.getD (8 + k) 0 % 3))) U :=
          ebin (eix (rw4 U 2 u4 (by decide)) (e85 U) (ix16 u7 n2 (by omega))) (ev_k ..) (bin_mod (by decide))
        have ev := ecmp (o := .Lt) em (ev_k (M := M) (ρ := pre ++ (some (.ref 4) :: some (.p (.int (k : Int))) :: suf)) (S := U) (.int 2)) (cmp_lt ..)
        by_cases hc : y2.getD (8 + k) 0 % 3 < 2
        · obtain ⟨i, hi, ei⟩ : ∃ i : Nat, i < 2 ∧ y2.getD (8 + k) 0 % 3 = (i : Int) := ⟨(y2.getD (8 + k) 0 % 3).toNat, by omega, by omega⟩
          have src : ∃ y, (0 ≤ y ∧ y < 1000000) ∧ evE M (.ix (.ix (.v 4) (.bin .Mod (.ix (.ix (.v 4) (.k (.int 2))) (.bin .Add (.k (.int 8)) (.v 5))) (.k (.int 3)))) (.v 5)) (pre ++ (some (.ref 4) :: some (.p (.int (k : Int))) :: suf)) U = .ok (.p (.int y)) U := by
            rw [ei] at em
            have g : ixI (.ref 4) (.p (.int (i : Int))) U = .ok (.ref (5 + i)) U := ix_ml u4 (atI_nat (by rcases i with _ | _ | i <;> first | rfl | omega))
            rcases i with _ | _ | i
            · exact ⟨_, h0.at (i := k) (by omega), eix (eix (v4 U) em g) (v5 U) (ix16 u5 h0 (by omega))⟩
            · exact ⟨_, m1.at (i := k) (by omega), eix (eix (v4 U) em g) (v5 U) (ix16 u6 m1 (by omega))⟩
            · omega
          obtain ⟨y, hy, es⟩ := src
          refine ⟨y2.set k y, n2.set k hy, stif1 (ev.trans (by rw [decide_eq_true hc])) ((evz_step (stsub es (rw4 U 2 u4 (by decide)) (v5 U) (sub_pl u7 (by rw [n2.1]; omega)))).trans ?_)⟩
          rw [evz_nil, ← hU, List.set_append_right _ _ (by omega), hA]; rfl
        · exact ⟨y2, n2, (stif0 (ev.trans (by rw [decide_eq_false hc]))).trans (by rw [hU])⟩
      exact ⟨_, (evz_step f1).trans ((evz_step f2).trans (evz_nil ..)), ⟨_, rfl⟩, z1, z2, m1, m2, rfl⟩) ⟨⟨_, rfl⟩, x1, x2, h1, h2, rfl⟩
  exact ⟨k, y1, y2, n1, n2, stfor (rg1_nat (n := 8) (ev_k ..) (by decide)) e⟩
end
end PH

set_option maxHeartbeats 8000000
/-! k46: the law's own body in parts, over calls that answer as told. -/
namespace PH
open L2 PySem PySem.Spec PyProof.Rows
/-- the statements behind the first n -/
def czd : Nat → Cz → Cz
  | 0, c => c
  | n + 1, .cons _ cs => czd n cs
  | _, _ => .nil
section
variable {M : Mo} {ρ : Nv} {S : Sto}
theorem not_same {x : PD} {e1 e2 : E} {S1 S2 : Sto} (hs : ∀ T, M.call 17 [.p x, .p x] T = .ok (.p (.bl true)) T) (h1 : evE M e1 ρ S = .ok (.p x) S1) (h2 : evE M e2 ρ S1 = .ok (.p x) S2) : evE M (.no (.call 17 (.cons e1 (.cons e2 .nil)))) ρ S = .ok (.p (.bl false)) S2 := enot1 (ecall2 h1 h2 (hs S2))
theorem not_un {e : E} {S1 : Sto} (h1 : evE M e ρ S = .ok (.p un) S1) : evE M (.cmp .NotEq e (.tp .nil)) ρ S = .ok (.p (.bl false)) S1 := ecmp h1 etp0 (ne_self (n := 30) rfl (by decide))
theorem back_ev {sl : List Sl} {c : Chg} {i : Nat} (hl : sl.length ≤ 1000) (hi : ρ[i]? = some (some (.p (chg sl c)))) (h14 : ρ.length = 19) : evE M (.blt .tuple (.cons (.lc [14] (.nm 14) (.of (.v i)) (.tp (.cons (.ix (.v 14) (.k (.int 0))) (.cons (.ix (.v 14) (.k (.int 2))) (.cons (.ix (.v 14) (.k (.int 1))) .nil))))) .nil)) ρ S
    = .ok (.p (chg sl (sw c))) (S ++ [.pl ((rows sl (sw c)).map row)]) := by
  have hrl := rows_len sl c
  have := lc_ev (M := M) (own := [14]) (tg := .nm 14) (it := .of (.v i)) (elt := .tp (.cons (.ix (.v 14) (.k (.int 0))) (.cons (.ix (.v 14) (.k (.int 2))) (.cons (.ix (.v 14) (.k (.int 1))) .nil)))) (ρ := ρ) (S := S) (w := ⟨((rows sl c).map row).map .p, none⟩) (fun r => D.p (row r)) (fun r => row (r.1, r.2.2, r.2.1)) (rows sl c)
    (wof (evv hi)) (by have : LINE = 16777216 := rfl; omega) (by simp) (fun _ => rfl) (fun r hr => ⟨_, rfl, fun l => by
      have v : ∀ T, evE M (.v 14) ((wipeN ρ [14]).set 14 (some (.p (row r)))) T = .ok (.p (row r)) T := fun T => evv (by
        rw [List.getElem?_set_self]
        simp [wipeN, h14])
      exact etp3 (eix_k (i := 0) (xs := [sP r.1, r.2.1, r.2.2]) (v _) rfl) (eix_k (i := 2) (xs := [sP r.1, r.2.1, r.2.2]) (v _) rfl) (eix_k (i := 1) (xs := [sP r.1, r.2.1, r.2.2]) (v _) rfl)⟩)
  rw [rows_sw] at this
  exact eblt1 this (tuple_ev (data_pl (by simp)))
end
section
variable {M : Mo} {k : Option D} {m : Nat} {S : Sto} {F G H FG GH FH BK CH SB : PD}
def rw46 (k : Option D) (m : Nat) (F G H FG GH FH : PD) (b c d e f : Option D) : Nv := [some (.ref 0), some (.ref 1), some (.ref 2), some (.ref 3), some (.ref 4), k, some (.p F), some (.p G), some (.p H), some (.ref m), some (.p FG), some (.p GH), some (.p FH), b, none, c, d, e, f]
/-- between, applied, back, joined -/
theorem k46_checks {b : List PD} (sm : ∀ x ∈ [F, G, H, FG, FH, BK], ∀ T, M.call 17 [.p x, .p x] T = .ok (.p (.bl true)) T)
    (b1 : ∀ T, M.call 2 [.p F, .p G] T = .ok (.p FG) T) (b2 : ∀ T, M.call 2 [.p F, .p H] T = .ok (.p FH) T) (b3 : ∀ T, M.call 2 [.p H, .p H] T = .ok (.p un) T)
    (a1 : ∀ T, M.call 4 [.p F, .p FG] T = .ok (.p G) T) (a2 : ∀ T, M.call 4 [.p F, .p FH] T = .ok (.p H) T) (a3 : ∀ T, M.call 4 [.p G, .p BK] T = .ok (.p F) T)
    (iv : ∀ T, M.call 5 [.p FG] T = .ok (.p BK) T) (j1 : ∀ T, M.call 6 [.p FG, .p GH] T = .ok (.p FH) T) (j2 : ∀ T, M.call 6 [.p FG, .p BK] T = .ok (.p un) T)
    (bk : ∀ T, evE M (.blt .tuple (.cons (.lc [14] (.nm 14) (.of (.v 10)) (.tp (.cons (.ix (.v 14) (.k (.int 0))) (.cons (.ix (.v 14) (.k (.int 2))) (.cons (.ix (.v 14) (.k (.int 1))) .nil))))) .nil)) (rw46 k m F G H FG GH FH none none none none none) T = .ok (.p BK) (T ++ [.pl b]))
    (rest : Ends M (czd 18 k46_law.body) (rw46 k m F G H FG GH FH (some (.p BK)) none none none none) (S ++ [.pl b])) :
    Ends M (czd 12 k46_law.body) (rw46 k m F G H FG GH FH none none none none none) S := by
  have sF := sm F (by simp)
  have sG := sm G (by simp)
  have sH := sm H (by simp)
  have sFG := sm FG (by simp)
  have sFH := sm FH (by simp)
  have sBK := sm BK (by simp)
  refine ends_step (stif0 (eor0 (not_same sFG (ecall2 (evv rfl) (evv rfl) (b1 _)) (evv rfl)) (ebo1 (not_same sFH (ecall2 (evv rfl) (evv rfl) (b2 _)) (evv rfl))))) ?_
  refine ends_step (stif0 (eor0 (not_un (ecall2 (evv rfl) (evv rfl) (b3 _))) (ebo1 (not_same sG (ecall2 (evv rfl) (evv rfl) (a1 _)) (evv rfl))))) ?_
  refine ends_step (stif0 (not_same sH (ecall2 (evv rfl) (evv rfl) (a2 _)) (evv rfl))) ?_
  refine ends_step (ρ1 := rw46 k m F G H FG GH FH (some (.p BK)) none none none none) (S1 := S ++ [.pl b]) (stasg (bk S) rfl) ?_
  refine ends_step (stif0 (eor0 (not_same sBK (ecall1 (evv rfl) (iv _)) (evv rfl)) (ebo1 (not_same sF (ecall2 (evv rfl) (evv rfl) (a3 _)) (evv rfl))))) ?_
  refine ends_step (stif0 (eor0 (not_same sFH (ecall2 (evv rfl) (evv rfl) (j1 _)) (evv rfl)) (ebo1 (not_un (ecall2 (evv rfl) (evv rfl) (j2 _)))))) ?_
  exact rest
/-- one place, one change: what the law works out and what the program did -/
def Met (M : Mo) (m : Nat) (T : Sto) (x c : PD) : Prop := ∃ r, M.call 15 [.ref m, .p x, .p c] T = .ok (.p r) T ∧ M.call 18 [.p (.str wApply), .p x, .p c] T = .ok (.p r) T ∧ ∀ T, M.call 17 [.p r, .p r] T = .ok (.p (.bl true)) T
def Jnd (M : Mo) (m : Nat) (T : Sto) (c d : PD) : Prop := ∃ r, M.call 16 [.ref m, .p c, .p d] T = .ok (.p r) T ∧ M.call 18 [.p (.str wJoin), .p c, .p d] T = .ok (.p r) T ∧ ∀ T, M.call 17 [.p r, .p r] T = .ok (.p (.bl true)) T
abbrev lpB1 : Cz := match czd 19 k46_law.body with
  | .cons (.forr _ _ b) _ => b
  | _ => .nil
abbrev lpB2 : Cz := match czd 20 k46_law.body with
  | .cons (.forr _ _ b) _ => b
  | _ => .nil
theorem k46_loop1 {T : Sto} {w : Wk} {B : Option D} (hw : w.still T = true) {xs : List PD} (h : ∀ x ∈ xs, Met M m T x CH ∧ Met M m T x GH) :
    ∃ d e, forI w (.nm 16) (evCz M lpB1) (xs.map .p) (rw46 k m F G H FG GH FH B (some (.p CH)) none none none) T = .nx (rw46 k m F G H FG GH FH B (some (.p CH)) d e none) T := by
  obtain ⟨ρ', S', e, ⟨d1, e1, rfl⟩, rfl⟩ := forI_list (w := w) (tg := .nm 16) (body := evCz M lpB1) (ρ := rw46 k m F G H FG GH FH B (some (.p CH)) none none none) (S := T) D.p xs (fun _ ρ U => (∃ d e, ρ = rw46 k m F G H FG GH FH B (some (.p CH)) d e none) ∧ U = T)
    (by
      rintro ps x qs _ U hx ⟨⟨d, e, rfl⟩, hU⟩
      subst hU
      obtain ⟨⟨r1, p1, q1, s1⟩, ⟨r2, p2, q2, s2⟩⟩ := h x (by rw [hx]; simp)
      refine ⟨hw, rw46 k m F G H FG GH FH B (some (.p CH)) (some (.p x)) e none, rfl, rw46 k m F G H FG GH FH B (some (.p CH)) (some (.p x)) (some (.p r2)) none, U, .inl ?_, ⟨_, _, rfl⟩, rfl⟩
      refine (evz_step (ρ1 := rw46 k m F G H FG GH FH B (some (.p CH)) (some (.p x)) (some (.p r1)) none) (S1 := U) (stasg (ecall3 (evv rfl) (evv rfl) (evv rfl) p1) rfl)).trans ?_
      refine (evz_step (stif0 (not_same s1 (ecall3 (ev_k ..) (evv rfl) (evv rfl) q1) (evv rfl)))).trans ?_
      refine (evz_step (ρ1 := rw46 k m F G H FG GH FH B (some (.p CH)) (some (.p x)) (some (.p r2)) none) (S1 := U) (stasg (ecall3 (evv rfl) (evv rfl) (evv rfl) p2) rfl)).trans ?_
      exact (evz_step (stif0 (not_same s2 (ecall3 (ev_k ..) (evv rfl) (evv rfl) q2) (evv rfl)))).trans (evz_nil ..)) (fun _ _ hp => by rw [hp.2]; exact hw) ⟨⟨_, _, rfl⟩, rfl⟩
  exact ⟨d1, e1, e⟩
theorem k46_loop2 {T : Sto} {w : Wk} {B d e : Option D} (hw : w.still T = true) {xs : List (PD × PD)} (h : ∀ x ∈ xs, Jnd M m T x.1 x.2) :
    ∃ f, forI w (.nm 18) (evCz M lpB2) (xs.map fun x => .p (.tup [x.1, x.2])) (rw46 k m F G H FG GH FH B (some (.p CH)) d e none) T = .nx (rw46 k m F G H FG GH FH B (some (.p CH)) d e f) T := by
  obtain ⟨ρ', S', e, ⟨f1, rfl⟩, rfl⟩ := forI_list (w := w) (tg := .nm 18) (body := evCz M lpB2) (ρ := rw46 k m F G H FG GH FH B (some (.p CH)) d e none) (S := T) (fun x : PD × PD => D.p (.tup [x.1, x.2])) xs (fun _ ρ U => (∃ f, ρ = rw46 k m F G H FG GH FH B (some (.p CH)) d e f) ∧ U = T)
    (by
      rintro ps x qs _ U hx ⟨⟨f, rfl⟩, hU⟩
      subst hU
      obtain ⟨r1, p1, q1, s1⟩ := h x (by rw [hx]; simp)
      refine ⟨hw, rw46 k m F G H FG GH FH B (some (.p CH)) d e (some (.p (.tup [x.1, x.2]))), rfl, rw46 k m F G H FG GH FH B (some (.p CH)) d e (some (.p (.tup [x.1, x.2]))), U, .inl ?_, ⟨_, rfl⟩, rfl⟩
      have i0 : ∀ T, evE M (.ix (.v 18) (.k (.int 0))) (rw46 k m F G H FG GH FH B (some (.p CH)) d e (some (.p (.tup [x.1, x.2])))) T = .ok (.p x.1) T := fun T => eix_k (i := 0) (xs := [x.1, x.2]) (evv rfl) rfl
      have i1 : ∀ T, evE M (.ix (.v 18) (.k (.int 1))) (rw46 k m F G H FG GH FH B (some (.p CH)) d e (some (.p (.tup [x.1, x.2])))) T = .ok (.p x.2) T := fun T => eix_k (i := 1) (xs := [x.1, x.2]) (evv rfl) rfl
      exact (evz_step (stif0 (not_same s1 (ecall3 (ev_k ..) (i0 _) (i1 _) q1) (ecall3 (evv rfl) (i0 _) (i1 _) p1)))).trans (evz_nil ..)) (fun _ _ hp => by rw [hp.2]; exact hw) ⟨⟨_, rfl⟩, rfl⟩
  exact ⟨f1, e⟩
/-- the drawn change, the loops, the end -/
theorem k46_end {b : List PD} {zs : List PD}
    (dn : evE M (.call 7 (.cons (.v 0) (.cons (.k (.int 4)) (.cons (.k (.int 8)) .nil)))) (rw46 k m F G H FG GH FH (some (.p BK)) none none none none) S = .ok (.ref S.length) (S ++ [.pl zs]))
    (ch : M.call 14 [.ref m, .p F, .ref 2, .ref S.length] (S ++ [.pl zs]) = .ok (.p CH) (S ++ [.pl zs]))
    (mt : ∀ x ∈ [F, G, H], ∀ c ∈ [CH, GH], ∀ l, Met M m (S ++ l) x c)
    (jn : ∀ x ∈ [(FG, CH), (CH, GH), (CH, CH), (GH, FG)], ∀ l, Jnd M m (S ++ l) x.1 x.2)
    (iv : ∀ T, M.call 5 [.p CH] T = .ok (.p SB) T) (sb : ∀ T, M.call 17 [.p SB, .p SB] T = .ok (.p (.bl true)) T)
    (bk : ∀ d e f T, evE M (.blt .tuple (.cons (.lc [14] (.nm 14) (.of (.v 15)) (.tp (.cons (.ix (.v 14) (.k (.int 0))) (.cons (.ix (.v 14) (.k (.int 2))) (.cons (.ix (.v 14) (.k (.int 1))) .nil))))) .nil)) (rw46 k m F G H FG GH FH (some (.p BK)) (some (.p CH)) d e f) T = .ok (.p SB) (T ++ [.pl b])) :
    Ends M (czd 18 k46_law.body) (rw46 k m F G H FG GH FH (some (.p BK)) none none none none) S := by
  refine ends_step (ρ1 := rw46 k m F G H FG GH FH (some (.p BK)) (some (.p CH)) none none none) (S1 := S ++ [.pl zs]) (stasg (ecall (es1 (evv rfl) (es1 (evv rfl) (es1 (evv rfl) (es1 dn es0)))) ch) rfl) ?_
  have e3 : evE M (.ls (.cons (.v 6) (.cons (.v 7) (.cons (.v 8) .nil)))) (rw46 k m F G H FG GH FH (some (.p BK)) (some (.p CH)) none none none) (S ++ [.pl zs]) = .ok (.ref (S ++ [O.pl zs]).length) ((S ++ [O.pl zs]) ++ [.pl [F, G, H]]) := els3 (evv rfl) (evv rfl) (evv rfl)
  have g3 : ((S ++ [O.pl zs]) ++ [O.pl [F, G, H]])[(S ++ [O.pl zs]).length]? = some (.pl [F, G, H]) := by simp
  obtain ⟨d, e, l1⟩ := k46_loop1 (M := M) (m := m) (k := k) (F := F) (G := G) (H := H) (FG := FG) (GH := GH) (FH := FH) (CH := CH) (B := some (.p BK)) (T := (S ++ [.pl zs]) ++ [.pl [F, G, H]]) (w := ⟨[F, G, H].map .p, some ((S ++ [O.pl zs]).length, .pl [F, G, H])⟩) (still_pl g3) (xs := [F, G, H]) (fun x hx => by
    rw [List.append_assoc]
    exact ⟨mt x hx CH (by simp) _, mt x hx GH (by simp) _⟩)
  refine ends_step (stfor (of_ev e3 (wk_pl g3)) l1) ?_
  rw [List.append_assoc]
  generalize hl : ([O.pl zs] ++ [O.pl [F, G, H]] : Sto) = l
  let L4 : List PD := [.tup [FG, CH], .tup [CH, GH], .tup [CH, CH], .tup [GH, FG]]
  have e4 : evE M (.ls (.cons (.tp (.cons (.v 10) (.cons (.v 15) .nil))) (.cons (.tp (.cons (.v 15) (.cons (.v 11) .nil))) (.cons (.tp (.cons (.v 15) (.cons (.v 15) .nil))) (.cons (.tp (.cons (.v 11) (.cons (.v 10) .nil))) .nil))))) (rw46 k m F G H FG GH FH (some (.p BK)) (some (.p CH)) d e none) (S ++ l) = .ok (.ref (S ++ l).length) ((S ++ l) ++ [.pl L4]) :=
    els4 (etp2 (evv rfl) (evv rfl)) (etp2 (evv rfl) (evv rfl)) (etp2 (evv rfl) (evv rfl)) (etp2 (evv rfl) (evv rfl))
  have g4 : ((S ++ l) ++ [O.pl L4])[(S ++ l).length]? = some (.pl L4) := by simp
  obtain ⟨f, l2⟩ := k46_loop2 (M := M) (m := m) (k := k) (F := F) (G := G) (H := H) (FG := FG) (GH := GH) (FH := FH) (CH := CH) (B := some (.p BK)) (d := d) (e := e) (T := (S ++ l) ++ [.pl L4]) (w := ⟨L4.map .p, some ((S ++ l).length, .pl L4)⟩) (still_pl g4) (xs := [(FG, CH), (CH, GH), (CH, CH), (GH, FG)]) (fun x hx => by
    rw [List.append_assoc]
    exact jn x hx _)
  refine ends_step (stfor (of_ev e4 (wk_pl g4)) l2) ?_
  exact ends_ret (stret (ecall2 (ecall1 (evv rfl) (iv _)) (bk d e f _) (sb _)))
end
end PH

set_option maxHeartbeats 8000000
/-! k46: the law, at any depth. -/
namespace PH
open L2 PySem PySem.Spec PyProof.Rows
section
variable {sl : List Sl} {f g h : Sl → PD} {c d : Chg} {S T : Sto} {j m : Nat}
theorem pieces_nd {ns : List Cs} (h : Nms ns) : [ns.getD 0 [], sLog, sZip].Nodup := by
  obtain ⟨_, _, h1, h2, _⟩ := h
  simp only [List.nodup_cons, List.mem_cons, List.not_mem_nil, or_false, not_or, List.nodup_nil, and_true, not_false_eq_true]
  exact ⟨⟨h1, h2⟩, by decide⟩
theorem Mcall (k f : Nat) (ds : List D) (T : Sto) : (M46 k).call f ds T = C46 k f ds T := rfl
theorem same4 {x : PD} (h1 : x.dat = true) (h2 : x.wt ≤ 900000) (T : Sto) : C46 (j + 4) 17 [.p x, .p x] T = .ok (.p (.bl true)) T := same_ok (j := j + 3) h1 h2
theorem app4 (asc : Asc sl) (hl : sl.length ≤ 1000) (hf : Sts sl f) (hc : Cgs sl c) (T : Sto) : C46 (j + 4) 4 [.p (plc sl f), .p (chg sl c)] T = (appRz sl f c).res T := apply_ok (j := j + 2) asc hl hf hc
theorem joi4 (asc : Asc sl) (hl : sl.length ≤ 1000) (hc : Cgs sl c) (hd : Cgs sl d) (T : Sto) : C46 (j + 4) 6 [.p (chg sl c), .p (chg sl d)] T = (joinRz sl c d).res T := joined_ok (j := j + 2) asc hl hc hd
theorem met_ok (asc : Asc sl) (hl : sl.length ≤ 8) (hf : Sts sl f) (hc : Cgs sl c) (hm : T[m]? = some (.pl (sl.map sP))) : Met (M46 (j + 4)) m T (plc sl f) (chg sl c) :=
  ⟨(appRz sl f c).pd, lapply_ok (j := j + 2) asc (by omega) hf hc hm, did_ok (j := j + 1) (by rw [if_pos rfl]; exact apply_ok (j := j + 1) asc (by omega) hf hc), fun T => by
    rw [Mcall]
    exact same4 (Rz.pd_ok (app_good hf hc hl)).1 (Rz.pd_ok (app_good hf hc hl)).2 T⟩
theorem jnd_ok (asc : Asc sl) (hl : sl.length ≤ 8) (hc : Cgs sl c) (hd : Cgs sl d) (hm : T[m]? = some (.pl (sl.map sP))) : Jnd (M46 (j + 4)) m T (chg sl c) (chg sl d) :=
  ⟨(joinRz sl c d).pd, ljoin_ok (j := j + 3) asc (by omega) hc hd hm, did_ok (j := j + 1) (by rw [if_neg (by decide)]; exact joined_ok (j := j + 1) asc (by omega) hc hd), fun T => by
    rw [Mcall]
    exact same4 (Rz.pd_ok (join_good hc hd hl)).1 (Rz.pd_ok (join_good hc hd hl)).2 T⟩
theorem same_plc (hl : sl.length ≤ 8) (hf : Sts sl f) (T : Sto) : (M46 (j + 4)).call 17 [.p (plc sl f), .p (plc sl f)] T = .ok (.p (.bl true)) T := by
  rw [Mcall]
  exact same4 (plc_dat hf) (Nat.le_trans (plc_wt hf hl) (by decide)) T
theorem same_chg (hl : sl.length ≤ 8) (hc : Cgs sl c) (T : Sto) : (M46 (j + 4)).call 17 [.p (chg sl c), .p (chg sl c)] T = .ok (.p (.bl true)) T := by
  rw [Mcall]
  exact same4 (chg_dat hc) (Nat.le_trans (chg_wt hc hl) (by decide)) T
theorem app_done {x : PD} (asc : Asc sl) (hl : sl.length ≤ 8) (hf : Sts sl f) (hc : Cgs sl c) (e : appRz sl f c = .done x) (T : Sto) : (M46 (j + 4)).call 4 [.p (plc sl f), .p (chg sl c)] T = .ok (.p x) T := by
  have := app4 (j := j) asc (by omega) hf hc T
  rw [e] at this
  exact this
theorem join_done {x : PD} (asc : Asc sl) (hl : sl.length ≤ 8) (hc : Cgs sl c) (hd : Cgs sl d) (e : joinRz sl c d = .done x) (T : Sto) : (M46 (j + 4)).call 6 [.p (chg sl c), .p (chg sl d)] T = .ok (.p x) T := by
  have := joi4 (j := j) asc (by omega) hc hd T
  rw [e] at this
  exact this
/-- from the places on -/
theorem k46_rest {ns : List Int} {nm : List Cs} {k : Option D} (asc : Asc sl) (hl : sl.length = 8) (hf : Sts sl f) (hg : Sts sl g) (hh : Sts sl h) (cf : Closed sl f) (cg : Closed sl g) (ch : Closed sl h)
    (hlen : ∀ s ∈ sl, s.1 = false → s.2.length ≤ 20) (hn : nm.length = 5) (h0 : S[0]? = some (.fz (ns.map .int))) (h2 : S[2]? = some (.pl (nm.map .str))) (hm : S[m]? = some (.pl (sl.map sP))) :
    Ends (M46 (j + 4)) (czd 12 k46_law.body) (rw46 k m (plc sl f) (plc sl g) (plc sl h) (chg sl (dfc f g)) (chg sl (dfc g h)) (chg sl (dfc f h)) none none none none none) S := by
  have hl8 : sl.length ≤ 8 := by omega
  have hl1 : sl.length ≤ 1000 := by omega
  have cfg := Cgs.dfc hf hg
  have cgh := Cgs.dfc hg hh
  have cfh := Cgs.dfc hf hh
  refine k46_checks (b := (rows sl (sw (dfc f g))).map row) (BK := chg sl (sw (dfc f g))) ?_ (fun T => between_ok (j := j + 2) asc hl1 hf hg) (fun T => between_ok (j := j + 2) asc hl1 hf hh) (fun T => (between_ok (j := j + 2) asc hl1 hh hh).trans (by rw [dfc_self]))
    (app_done asc hl8 hf cfg (app_dfc cg)) (app_done asc hl8 hf cfh (app_dfc ch)) (app_done asc hl8 hg cfg.sw (app_sw cf)) (fun T => inverse_ok (j := j + 3) hl1) (join_done asc hl8 cfg cgh join_dfc) (join_done asc hl8 cfg cfg.sw join_back) (fun T => back_ev hl1 rfl rfl) ?_
  · intro x hx T
    simp only [List.mem_cons, List.not_mem_nil, or_false] at hx
    rcases hx with rfl | rfl | rfl | rfl | rfl | rfl
    · exact same_plc hl8 hf T
    · exact same_plc hl8 hg T
    · exact same_plc hl8 hh T
    · exact same_chg hl8 cfg T
    · exact same_chg hl8 cfh T
    · exact same_chg hl8 cfg.sw T
  · have h0 := pre_get (t := [O.pl ((rows sl (sw (dfc f g))).map row)]) h0
    have h2 := pre_get (t := [O.pl ((rows sl (sw (dfc f g))).map row)]) h2
    have hm := pre_get (t := [O.pl ((rows sl (sw (dfc f g))).map row)]) hm
    generalize S ++ [O.pl ((rows sl (sw (dfc f g))).map row)] = U at h0 h2 hm
    obtain ⟨zs, lz, Lz, hz⟩ := numbers_call (ents := k46_ents) (gl := glOf k46_gl) (j := j + 3) (f := 7) (n := 0) (S := U) (ns := ns) (k := 4) (c := 8) rfl rfl h0 (by decide) (by decide) (by decide)
    have lz : zs.length = 8 := lz
    have cch : Cgs sl (chg46 sl nm zs f) := chg46_ok hf
    refine k46_end (zs := zs.map .int) (b := (rows sl (sw (chg46 sl nm zs f))).map row) (CH := chg sl (chg46 sl nm zs f)) (SB := chg sl (sw (chg46 sl nm zs f))) (ecall3 (evv rfl) (ev_k ..) (ev_k ..) hz) (change_ok (j := j + 2) asc hl hf hlen hn Lz (by omega) (pre_get hm) (pre_get h2) (by simp)) ?_ ?_ (fun T => inverse_ok (j := j + 3) hl1) (same_chg hl8 cch.sw) (fun d e f T => back_ev hl1 rfl rfl)
    · intro x hx c hc l
      simp only [List.mem_cons, List.not_mem_nil, or_false] at hx hc
      rcases hx with rfl | rfl | rfl <;> rcases hc with rfl | rfl
      · exact met_ok asc hl8 hf cch (pre_get hm)
      · exact met_ok asc hl8 hf cgh (pre_get hm)
      · exact met_ok asc hl8 hg cch (pre_get hm)
      · exact met_ok asc hl8 hg cgh (pre_get hm)
      · exact met_ok asc hl8 hh cch (pre_get hm)
      · exact met_ok asc hl8 hh cgh (pre_get hm)
    · intro x hx l
      simp only [List.mem_cons, List.not_mem_nil, or_false] at hx
      rcases hx with rfl | rfl | rfl | rfl
      · exact jnd_ok asc hl8 cfg cch (pre_get hm)
      · exact jnd_ok asc hl8 cch cgh (pre_get hm)
      · exact jnd_ok asc hl8 cch cch (pre_get hm)
      · exact jnd_ok asc hl8 cgh cfg (pre_get hm)
end
section
variable {ns : List Int} {j : Nat}
theorem k46_enum {o1 o2 o3 : O} : ∃ x0 x1 x2, N16 x0 ∧ N16 x1 ∧ N16 x2 ∧ evE (M46 (j + 1)) (.lc [5] (.nm 5) (.rg1 (.k (.int 3))) (.call 7 (.cons (.v 0) (.cons (.bin .Add (.k (.int 1)) (.v 5)) (.cons (.k (.int 16)) .nil))))) [some (.ref 0), some (.ref 1), some (.ref 2), some (.ref 3), none, none, none, none, none, none, none, none, none, none, none, none, none, none, none] [.fz (ns.map .int), o1, o2, o3]
    = .ok (.ref 4) [.fz (ns.map .int), o1, o2, o3, .ml [.ref 5, .ref 6, .ref 7], .pl (x0.map .int), .pl (x1.map .int), .pl (x2.map .int)] := by
  have num : ∀ (T : Sto) (i : Nat), T[0]? = some (.fz (ns.map .int)) → ∃ x : List Int, N16 x ∧ evE (M46 (j + 1)) (.call 7 (.cons (.v 0) (.cons (.bin .Add (.k (.int 1)) (.v 5)) (.cons (.k (.int 16)) .nil)))) [some (.ref 0), some (.ref 1), some (.ref 2), some (.ref 3), none, some (.p (.int (i : Int))), none, none, none, none, none, none, none, none, none, none, none, none, none] T = .ok (.ref T.length) (T ++ [.pl (x.map .int)]) := fun T i hT => by
    obtain ⟨x, l, L, e⟩ := numbers_call (ents := k46_ents) (gl := glOf k46_gl) (j := j) (f := 7) (n := 0) (S := T) (ns := ns) (k := 1 + (i : Int)) (c := 16) rfl rfl hT (by omega) (by decide) (by decide)
    exact ⟨x, ⟨l, L⟩, ecall3 (evv rfl) (ebin (ev_k ..) (evv rfl) (bin_add ..)) (ev_k ..) e⟩
  obtain ⟨x0, n0, e0⟩ := num [.fz (ns.map .int), o1, o2, o3, .pl []] 0 rfl
  obtain ⟨x1, n1, e1⟩ := num [.fz (ns.map .int), o1, o2, o3, .ml [.ref 5], .pl (x0.map .int)] 1 rfl
  obtain ⟨x2, n2, e2⟩ := num [.fz (ns.map .int), o1, o2, o3, .ml [.ref 5, .ref 6], .pl (x0.map .int), .pl (x1.map .int)] 2 rfl
  refine ⟨x0, x1, x2, n0, n1, n2, ?_⟩
  have hrg := rg1_nat (n := 3) (M := M46 (j + 1)) (ρ := [some (.ref 0), some (.ref 1), some (.ref 2), some (.ref 3), none, none, none, none, none, none, none, none, none, none, none, none, none, none, none]) (S := [.fz (ns.map .int), o1, o2, o3]) (e := .k (.int 3)) (ev_k ..) (by decide)
  rw [ev_lc, hrg, Res.bind_ok']
  show (if 3 ≤ LINE then _ else _) = _
  rw [if_pos (by decide)]
  refine (lcI_one (ρ1 := [some (.ref 0), some (.ref 1), some (.ref 2), some (.ref 3), none, some (.p (.int ((0 : Nat) : Int))), none, none, none, none, none, none, none, none, none, none, none, none, none]) (o := .pl []) (o' := .ml [.ref 5]) rfl rfl rfl e0 rfl rfl).trans ?_
  refine (lcI_one (ρ1 := [some (.ref 0), some (.ref 1), some (.ref 2), some (.ref 3), none, some (.p (.int ((1 : Nat) : Int))), none, none, none, none, none, none, none, none, none, none, none, none, none]) (o := .ml [.ref 5]) (o' := .ml [.ref 5, .ref 6]) rfl rfl rfl e1 rfl rfl).trans ?_
  refine (lcI_one (ρ1 := [some (.ref 0), some (.ref 1), some (.ref 2), some (.ref 3), none, some (.p (.int ((2 : Nat) : Int))), none, none, none, none, none, none, none, none, none, none, none, none, none]) (o := .ml [.ref 5, .ref 6]) (o' := .ml [.ref 5, .ref 6, .ref 7]) rfl rfl rfl e2 rfl rfl).trans ?_
  exact lcI_end rfl
theorem k46_all (j : Nat) (ns : List Int) : Ends (M46 (j + 4)) k46_law.body [some (.ref 0), none, none, none, none, none, none, none, none, none, none, none, none, none, none, none, none, none, none] [.fz (ns.map .int)] := by
  obtain ⟨row, lr, Lr, hrow⟩ := numbers_call (ents := k46_ents) (gl := glOf k46_gl) (j := j + 3) (f := 7) (n := 0) (S := [.fz (ns.map .int)]) (ns := ns) (k := 0) (c := 12) rfl rfl rfl (by decide) (by decide) (by decide)
  have lr : row.length = 12 := lr
  refine ends_step (ρ1 := [some (.ref 0), some (.ref 1), none, none, none, none, none, none, none, none, none, none, none, none, none, none, none, none, none]) (S1 := [.fz (ns.map .int), .pl (row.map .int)]) (stasg (ecall3 (evv rfl) (ev_k ..) (ev_k ..) hrow) rfl) ?_
  obtain ⟨nm, hn, hnm⟩ := names_ok (j := j + 3) (S := [.fz (ns.map .int), .pl (row.map .int)]) (a := ((row.getD 0 0).toNat : Int)) (b := ((row.getD 1 0).toNat : Int)) (by omega) (by omega)
  refine ends_step (ρ1 := [some (.ref 0), some (.ref 1), some (.ref 2), none, none, none, none, none, none, none, none, none, none, none, none, none, none, none, none]) (S1 := [.fz (ns.map .int), .pl (row.map .int), .pl (nm.map .str)]) (stasg (ecall3 (eix (evv rfl) (ev_k ..) (ix_ints (i := 0) rfl Lr (by omega))) (eix (evv rfl) (ev_k ..) (ix_ints (i := 1) rfl Lr (by omega))) (ev_k ..) hnm) rfl) ?_
  have ln : nm.length = 5 := hn.1
  have np := pieces_nd hn
  generalize hpc : [nm.getD 0 [], sLog, sZip] = pc at np
  have lp : pc.length = 3 := by rw [← hpc]; rfl
  refine ends_step (ρ1 := [some (.ref 0), some (.ref 1), some (.ref 2), some (.ref 3), none, none, none, none, none, none, none, none, none, none, none, none, none, none, none]) (S1 := [.fz (ns.map .int), .pl (row.map .int), .pl (nm.map .str), .pl (pc.map .str)]) (stasg (by
    rw [← hpc]
    exact els3 (eix (evv rfl) (ev_k ..) (ix_strs (i := 0) rfl (by omega))) (ev_k ..) (ev_k ..)) rfl) ?_
  obtain ⟨x0, x1, x2, n0, n1, n2, he⟩ := k46_enum (j := j + 3) (ns := ns) (o1 := .pl (row.map .int)) (o2 := .pl (nm.map .str)) (o3 := .pl (pc.map .str))
  refine ends_step (ρ1 := [some (.ref 0), some (.ref 1), some (.ref 2), some (.ref 3), some (.ref 4), none, none, none, none, none, none, none, none, none, none, none, none, none, none]) (S1 := [.fz (ns.map .int), .pl (row.map .int), .pl (nm.map .str), .pl (pc.map .str), .ml [.ref 5, .ref 6, .ref 7], .pl (x0.map .int), .pl (x1.map .int), .pl (x2.map .int)]) (stasg he rfl) ?_
  obtain ⟨k, y1, y2, m1, m2, hx⟩ := k46_mix (M46 (j + 4)) (A := [.fz (ns.map .int), .pl (row.map .int), .pl (nm.map .str), .pl (pc.map .str)]) n0 rfl [some (.ref 0), some (.ref 1), some (.ref 2), some (.ref 3)] [none, none, none, none, none, none, none, none, none, none, none, none, none] rfl x1 x2 n1 n2
  let S0 : Sto := [.fz (ns.map .int), .pl (row.map .int), .pl (nm.map .str), .pl (pc.map .str), .ml [.ref 5, .ref 6, .ref 7], .pl (x0.map .int), .pl (y1.map .int), .pl (y2.map .int)]
  refine ends_step (ρ1 := [some (.ref 0), some (.ref 1), some (.ref 2), some (.ref 3), some (.ref 4), k, none, none, none, none, none, none, none, none, none, none, none, none, none]) (S1 := S0) hx ?_
  have s2 : S0[2]? = some (.pl (nm.map .str)) := rfl
  have s3 : S0[3]? = some (.pl (pc.map .str)) := rfl
  have s4 : S0[4]? = some (.ml [.ref 5, .ref 6, .ref 7]) := rfl
  have s5 : S0[5]? = some (.pl (x0.map .int)) := rfl
  have s6 : S0[6]? = some (.pl (y1.map .int)) := rfl
  have s7 : S0[7]? = some (.pl (y2.map .int)) := rfl
  have s0 : S0[0]? = some (.fz (ns.map .int)) := rfl
  have ls : S0.length = 8 := rfl
  clear_value S0
  have i0 : atI [D.ref 5, .ref 6, .ref 7] 0 = some (.ref 5) := rfl
  have i1 : atI [D.ref 5, .ref 6, .ref 7] 1 = some (.ref 6) := rfl
  have i2 : atI [D.ref 5, .ref 6, .ref 7] 2 = some (.ref 7) := rfl
  have asc := asc_mk hn.2.1 np
  have hl : (mkSl nm pc).length = 8 := by simp [mkSl, srt_len, ln, lp]
  have pf := lplace_ok (j := j + 2) hn np lp n0.2 (by rw [n0.1]; decide) s2 s3 s5
  have pg := lplace_ok (j := j + 2) hn np lp m1.2 (by rw [m1.1]; decide) s2 s3 s6
  have ph := lplace_ok (j := j + 2) hn np lp m2.2 (by rw [m2.1]; decide) s2 s3 s7
  have hs := slots_ok (j := j + 3) s2 s3 (by omega) (by omega)
  have hf := stAt_sts nm pc x0 (mkSl nm pc)
  have hg := stAt_sts nm pc y1 (mkSl nm pc)
  have hh := stAt_sts nm pc y2 (mkSl nm pc)
  have cf := stAt_closed nm pc x0
  have cg := stAt_closed nm pc y1
  have ch := stAt_closed nm pc y2
  have hlen : ∀ s ∈ mkSl nm pc, s.1 = false → s.2.length ≤ 20 := fun s hs h => by
    rcases mem_mkSl.mp hs with z | z
    · exact hn.2.2.2.2 _ z.2
    · rw [z.1] at h; cases h
  generalize stAt nm pc x0 = f at pf hf cf
  generalize stAt nm pc y1 = g at pg hg cg
  generalize stAt nm pc y2 = h at ph hh ch
  generalize mkSl nm pc = sl at *
  refine ends_step (ρ1 := [some (.ref 0), some (.ref 1), some (.ref 2), some (.ref 3), some (.ref 4), k, some (.p (plc sl f)), none, none, none, none, none, none, none, none, none, none, none, none]) (S1 := S0) (stasg (ecall3 (evv rfl) (evv rfl) (eix (evv rfl) (ev_k ..) (ix_ml s4 i0)) pf) rfl) ?_
  refine ends_step (ρ1 := [some (.ref 0), some (.ref 1), some (.ref 2), some (.ref 3), some (.ref 4), k, some (.p (plc sl f)), some (.p (plc sl g)), none, none, none, none, none, none, none, none, none, none, none]) (S1 := S0) (stasg (ecall3 (evv rfl) (evv rfl) (eix (evv rfl) (ev_k ..) (ix_ml s4 i1)) pg) rfl) ?_
  refine ends_step (ρ1 := [some (.ref 0), some (.ref 1), some (.ref 2), some (.ref 3), some (.ref 4), k, some (.p (plc sl f)), some (.p (plc sl g)), some (.p (plc sl h)), none, none, none, none, none, none, none, none, none, none]) (S1 := S0) (stasg (ecall3 (evv rfl) (evv rfl) (eix (evv rfl) (ev_k ..) (ix_ml s4 i2)) ph) rfl) ?_
  rw [ls] at hs
  refine ends_step (ρ1 := [some (.ref 0), some (.ref 1), some (.ref 2), some (.ref 3), some (.ref 4), k, some (.p (plc sl f)), some (.p (plc sl g)), some (.p (plc sl h)), some (.ref 8), none, none, none, none, none, none, none, none, none]) (S1 := S0 ++ [.pl (sl.map sP)]) (stasg (ecall2 (evv rfl) (evv rfl) hs) rfl) ?_
  have hm : (S0 ++ [O.pl (sl.map sP)])[8]? = some (.pl (sl.map sP)) := by rw [← ls]; simp
  have hl1 : sl.length ≤ 1000 := by omega
  refine ends_step (ρ1 := [some (.ref 0), some (.ref 1), some (.ref 2), some (.ref 3), some (.ref 4), k, some (.p (plc sl f)), some (.p (plc sl g)), some (.p (plc sl h)), some (.ref 8), some (.p (chg sl (dfc f g))), none, none, none, none, none, none, none, none]) (S1 := S0 ++ [.pl (sl.map sP)]) (stasg (ecall3 (evv rfl) (evv rfl) (evv rfl) (ldiff_ok (j := j + 2) asc hl1 hf hg hm)) rfl) ?_
  refine ends_step (ρ1 := [some (.ref 0), some (.ref 1), some (.ref 2), some (.ref 3), some (.ref 4), k, some (.p (plc sl f)), some (.p (plc sl g)), some (.p (plc sl h)), some (.ref 8), some (.p (chg sl (dfc f g))), some (.p (chg sl (dfc g h))), none, none, none, none, none, none, none]) (S1 := S0 ++ [.pl (sl.map sP)]) (stasg (ecall3 (evv rfl) (evv rfl) (evv rfl) (ldiff_ok (j := j + 2) asc hl1 hg hh hm)) rfl) ?_
  refine ends_step (ρ1 := [some (.ref 0), some (.ref 1), some (.ref 2), some (.ref 3), some (.ref 4), k, some (.p (plc sl f)), some (.p (plc sl g)), some (.p (plc sl h)), some (.ref 8), some (.p (chg sl (dfc f g))), some (.p (chg sl (dfc g h))), some (.p (chg sl (dfc f h))), none, none, none, none, none, none]) (S1 := S0 ++ [.pl (sl.map sP)]) (stasg (ecall3 (evv rfl) (evv rfl) (evv rfl) (ldiff_ok (j := j + 2) asc hl1 hf hh hm)) rfl) ?_
  exact k46_rest asc hl hf hg hh cf cg ch hlen ln (pre_get s0) (pre_get s2) hm
theorem k46_true (ns : List Int) (hl : ns.length ≤ 63) : ∃ S', callI (dfs k46_ents) (glOf k46_gl) 20 19 [.ref 0] [.fz (ns.map .int)] = .ok (.p (.bl true)) S' := ends_call (e := k46_E_law) rfl rfl (k46_all 15 ns)
end
end PH

namespace PH
open L2 PySem PySem.Spec PyProof.Rows
theorem k46_B : AllE EntB k46_ents := ⟨fun _ _ _ _ _ _ us hl => (match us, hl with | [_], _ => rfl), fun _ _ _ _ _ _ us hl => (match us, hl with | [_], _ => rfl), fun _ _ _ _ _ _ us hl => (match us, hl with | [_, _], _ => rfl), fun _ _ _ _ _ _ us hl => (match us, hl with | [_], _ => rfl), fun _ _ _ _ _ _ us hl => (match us, hl with | [_, _], _ => rfl), fun _ _ _ _ _ _ us hl => (match us, hl with | [_], _ => rfl), fun _ _ _ _ _ _ us hl => (match us, hl with | [_, _], _ => rfl), fun _ _ _ _ _ _ us hl => (match us, hl with | [_, _, _], _ => rfl), fun _ _ _ _ _ _ us hl => (match us, hl with | [_, _, _], _ => rfl), fun _ _ _ _ _ _ us hl => (match us, hl with | [_, _], _ => rfl), fun _ _ _ _ _ _ us hl => (match us, hl with | [_, _, _], _ => rfl), fun _ _ _ _ _ _ us hl => (match us, hl with | [_, _], _ => rfl), fun _ _ _ _ _ _ us hl => (match us, hl with | [_, _], _ => rfl), fun _ _ _ _ _ _ us hl => (match us, hl with | [_, _, _], _ => rfl), fun _ _ _ _ _ _ us hl => (match us, hl with | [_, _, _, _], _ => rfl), fun _ _ _ _ _ _ us hl => (match us, hl with | [_, _, _], _ => rfl), fun _ _ _ _ _ _ us hl => (match us, hl with | [_, _, _], _ => rfl), fun _ _ _ _ _ _ us hl => (match us, hl with | [_, _], _ => rfl), fun _ _ _ _ _ _ us hl => (match us, hl with | [_, _, _], _ => rfl), fun _ _ _ _ _ _ us hl => (match us, hl with | [_], _ => rfl), True.intro⟩
theorem k46_chk : k46_ents.all (Ent.chk ⟨k46_ents.map Ent.top, k46_gl.map (·.1), k46_cl, k46_gd, k46_oc, false⟩) = true := by decide +kernel
theorem k46_occ : ocChk k46_ents k46_oc = true := by decide +kernel
end PH
open PySem.W PySem PyProof.Rows
set_option maxHeartbeats 0 in
theorem PySem.Challenge.cw_pinharbor_k46_differences_holds : PySem.Challenge.rw_pinharbor_k46_differences.Holds := by
  w_on; o_law; k_head; (case hw => w_witness2)
  k_fill
  refine L2.walk_of (l := PySem.Challenge.rw_pinharbor_k46_differences) (n := 63) (k := 2 * 20 + 2) (x := "script") (CX := fun w => L2.CX PySem.Challenge.rw_pinharbor_k46_differences.prog w) (sp := fun w vs H Q E => ∀ cA, PH.spI cA ⟨_, w⟩ 1 (PH.callI (PH.dfs PH.k46_ents) (PH.glOf PH.k46_gl) 20 19) vs H Q E) rfl (by decide) rfl ⟨rfl, by decide, by decide⟩ (fun w h Y => PySem.W.kIn_of Y) ?F (fun w H a ns hl hO hS cA => PH.fin_sp hO hS (PH.k46_true ns hl)) (fun _ _ _ _ _ h => PH.hCX_of h)
  case F =>
    intro w mg fa h KX G hmg
    refine' PH.attach 20 19 PH.k46_E_law PH.k46_cl PH.k46_gd PH.k46_oc (PH.caOf [(1000, ?cc0), (0, ?cc1), (1, ?cc2), (2, ?cc3), (3, ?cc4), (4, ?cc5)]) KX G ⟨PH.ent_in rfl ?a0 ?b0 ?c0 ?d0, PH.ent_in rfl ?a1 ?b1 ?c1 ?d1, PH.ent_in rfl ?a2 ?b2 ?c2 ?d2, PH.ent_in rfl ?a3 ?b3 ?c3 ?d3, PH.ent_in rfl ?a4 ?b4 ?c4 ?d4, PH.ent_in rfl ?a5 ?b5 ?c5 ?d5, PH.ent_in rfl ?a6 ?b6 ?c6 ?d6, PH.ent_in rfl ?a7 ?b7 ?c7 ?d7, PH.ent_in rfl ?a8 ?b8 ?c8 ?d8, PH.ent_in rfl ?a9 ?b9 ?c9 ?d9, PH.ent_in rfl ?a10 ?b10 ?c10 ?d10, PH.ent_in rfl ?a11 ?b11 ?c11 ?d11, PH.ent_in rfl ?a12 ?b12 ?c12 ?d12, PH.ent_in rfl ?a13 ?b13 ?c13 ?d13, PH.ent_in rfl ?a14 ?b14 ?c14 ?d14, PH.ent_in rfl ?a15 ?b15 ?c15 ?d15, PH.ent_in rfl ?a16 ?b16 ?c16 ?d16, PH.ent_in rfl ?a17 ?b17 ?c17 ?d17, PH.ent_in rfl ?a18 ?b18 ?c18 ?d18, PH.ent_in rfl ?a19 ?b19 ?c19 ?d19, True.intro⟩ PH.k46_B ⟨?z0, ?z1, ?z2, ?z3, ?z4, ?z5, ?z6, ?z7, ?z8, ?z9, ?z10, ?z11, ?z12, ?z13, ?z14, ?z15, ?z16, ?z17, True.intro⟩ True.intro True.intro ⟨PH.cls_top (by decide) ?ca0 ?cb0, PH.cls_in (m := 2) ?ca1 ?cb1 ?cd1 ?ce1 ?cf1 ?ck1 ?cl1 rfl ?cm1, PH.cls_in (m := 3) ?ca2 ?cb2 ?cd2 ?ce2 ?cf2 ?ck2 ?cl2 rfl ?cm2, PH.cls_in (m := 3) ?ca3 ?cb3 ?cd3 ?ce3 ?cf3 ?ck3 ?cl3 rfl ?cm3, PH.cls_in (m := 2) ?ca4 ?cb4 ?cd4 ?ce4 ?cf4 ?ck4 ?cl4 rfl ?cm4, PH.cls_in (m := 2) ?ca5 ?cb5 ?cd5 ?ce5 ?cf5 ?ck5 ?cl5 rfl ?cm5, True.intro⟩ True.intro PH.k46_occ PH.k46_chk rfl rfl rfl hmg
    (case a0 => k_is); (case b0 => k_is); (case c0 => k_is); (case d0 => k_is)
    (case a1 => k_is); (case b1 => k_is); (case c1 => k_is); (case d1 => k_is)
    (case a2 => k_is); (case b2 => k_is); (case c2 => k_is); (case d2 => k_is)
    (case a3 => k_is); (case b3 => k_is); (case c3 => k_is); (case d3 => k_is)
    (case a4 => k_is); (case b4 => k_is); (case c4 => k_is); (case d4 => k_is)
    (case a5 => k_is); (case b5 => k_is); (case c5 => k_is); (case d5 => k_is)
    (case a6 => k_is); (case b6 => k_is); (case c6 => k_is); (case d6 => k_is)
    (case a7 => k_is); (case b7 => k_is); (case c7 => k_is); (case d7 => k_is)
    (case a8 => k_is); (case b8 => k_is); (case c8 => k_is); (case d8 => k_is)
    (case a9 => k_is); (case b9 => k_is); (case c9 => k_is); (case d9 => k_is)
    (case a10 => k_is); (case b10 => k_is); (case c10 => k_is); (case d10 => k_is)
    (case a11 => k_is); (case b11 => k_is); (case c11 => k_is); (case d11 => k_is)
    (case a12 => k_is); (case b12 => k_is); (case c12 => k_is); (case d12 => k_is)
    (case a13 => k_is); (case b13 => k_is); (case c13 => k_is); (case d13 => k_is)
    (case a14 => k_is); (case b14 => k_is); (case c14 => k_is); (case d14 => k_is)
    (case a15 => k_is); (case b15 => k_is); (case c15 => k_is); (case d15 => k_is)
    (case a16 => k_is); (case b16 => k_is); (case c16 => k_is); (case d16 => k_is)
    (case a17 => k_is); (case b17 => k_is); (case c17 => k_is); (case d17 => k_is)
    (case a18 => k_is); (case b18 => k_is); (case c18 => k_is); (case d18 => k_is)
    (case a19 => k_is); (case b19 => k_is); (case c19 => k_is); (case d19 => k_is)
    (case z0 => k_is); (case z1 => k_is); (case z2 => k_is); (case z3 => k_is); (case z4 => k_is); (case z5 => k_is); (case z6 => k_is); (case z7 => k_is); (case z8 => k_is); (case z9 => k_is); (case z10 => k_is); (case z11 => k_is); (case z12 => k_is); (case z13 => k_is); (case z14 => k_is); (case z15 => k_is); (case z16 => k_is); (case z17 => k_is)
    (case cb0 => k_is)
    (case cb1 => k_is); (case cd1 => k_is); (case ce1 => k_is); (case cf1 => k_is); (case ck1 => k_is)
    (case cb2 => k_is); (case cd2 => k_is); (case ce2 => k_is); (case cf2 => k_is); (case ck2 => k_is)
    (case cb3 => k_is); (case cd3 => k_is); (case ce3 => k_is); (case cf3 => k_is); (case ck3 => k_is)
    (case cb4 => k_is); (case cd4 => k_is); (case ce4 => k_is); (case cf4 => k_is); (case ck4 => k_is)
    (case cb5 => k_is); (case cd5 => k_is); (case ce5 => k_is); (case cf5 => k_is); (case ck5 => k_is)
    (case ca0 => rfl)
    (case ca1 => rfl)
    (case cl1 => kernel_rfl); (case cm1 => exact fun us hl => (match us, hl with | [_, _], _ => rfl))
    (case ca2 => rfl)
    (case cl2 => kernel_rfl); (case cm2 => exact fun us hl => (match us, hl with | [_, _, _], _ => rfl))
    (case ca3 => rfl)
    (case cl3 => kernel_rfl); (case cm3 => exact fun us hl => (match us, hl with | [_, _, _], _ => rfl))
    (case ca4 => rfl)
    (case cl4 => kernel_rfl); (case cm4 => exact fun us hl => (match us, hl with | [_, _], _ => rfl))
    (case ca5 => rfl)
    (case cl5 => kernel_rfl); (case cm5 => exact fun us hl => (match us, hl with | [_, _], _ => rfl))
