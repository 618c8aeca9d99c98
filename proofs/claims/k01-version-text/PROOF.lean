import PyProof.Rows.All
import Wide.All
import OpenK.AllK
import Wide.FinOn
import HandS.ForMost
import HandS.ForExc
import HandS.Flow
import HandS.TupAny
import HandS.IsInst
import HandS.CallSlots
import KE.SortData
import HandS.SortInts
import HandS.Style
import KE.KExcSuper
import KE.KExcIs
import HandS.ExcInit
import HandS.ExcField
import HandS.Nested
import HandS.ExcIs
import HandS.TryOnly
import HandS.NoneIn
import HandS.More
import HandS.Replace
import KE.DataCmp
import KE.DataMinMax
import PySem.Challenge.RW_pinharbor_k01_version_text
set_option Elab.async false
set_option linter.all false
set_option maxRecDepth 100000
/-! PH, part A: plain data, the small language, what it means. -/
namespace PH
open L2 PySem PySem.Spec PyProof.Rows

/-- a text by its signs -/
abbrev Cs := List Nat
/-- data without any object that may change -/
inductive PD where
  | non | bl (b : Bool) | int (i : Int) | str (s : Cs) | tup (xs : List PD)
  deriving Inhabited
/-- a value: data, an object of the store by its number, a tuple that holds such, a caught exception (where it and its dict lie, its class by number, its fields) -/
inductive D where
  | p (x : PD) | ref (n : Nat) | mt (xs : List D) | xv (a d c : Nat) (fs : List (String × PD))
  deriving Inhabited

mutual
def PD.beq : PD → PD → Bool
  | .non, .non => true
  | .bl a, .bl b => a == b
  | .int a, .int b => a == b
  | .str a, .str b => a == b
  | .tup a, .tup b => PD.beqs a b
  | _, _ => false
def PD.beqs : List PD → List PD → Bool
  | [], [] => true
  | x :: xs, y :: ys => PD.beq x y && PD.beqs xs ys
  | _, _ => false
end
mutual
theorem PD.beq_iff : ∀ x y : PD, PD.beq x y = true ↔ x = y
  | .non, y => by cases y <;> simp [PD.beq]
  | .bl a, y => by cases y <;> simp [PD.beq]
  | .int a, y => by cases y <;> simp [PD.beq]
  | .str a, y => by cases y <;> simp [PD.beq]
  | .tup a, y => by
    cases y with
    | tup b => simp only [PD.beq, PD.tup.injEq]; exact PD.beqs_iff a b
    | _ => simp [PD.beq]
theorem PD.beqs_iff : ∀ x y : List PD, PD.beqs x y = true ↔ x = y
  | [], y => by cases y <;> simp [PD.beqs]
  | x :: xs, y => by
    cases y with
    | nil => simp [PD.beqs]
    | cons y ys => simp only [PD.beqs, Bool.and_eq_true, List.cons.injEq, PD.beq_iff x y, PD.beqs_iff xs ys]
end
instance : DecidableEq PD := fun x y => decidable_of_iff _ (PD.beq_iff x y)
mutual
def D.beq : D → D → Bool
  | .p a, .p b => PD.beq a b
  | .ref a, .ref b => a == b
  | .mt a, .mt b => D.beqs a b
  | .xv a d c fs, .xv a' d' c' fs' => a == a' && d == d' && c == c' && fs == fs'
  | _, _ => false
def D.beqs : List D → List D → Bool
  | [], [] => true
  | x :: xs, y :: ys => D.beq x y && D.beqs xs ys
  | _, _ => false
end
mutual
theorem D.beq_iff : ∀ x y : D, D.beq x y = true ↔ x = y
  | .p a, y => by cases y <;> simp [D.beq, PD.beq_iff]
  | .ref a, y => by cases y <;> simp [D.beq]
  | .mt a, y => by
    cases y with
    | mt b => simp only [D.beq, D.mt.injEq]; exact D.beqs_iff a b
    | _ => simp [D.beq]
  | .xv a d c fs, y => by cases y <;> simp [D.beq, and_assoc]
theorem D.beqs_iff : ∀ x y : List D, D.beqs x y = true ↔ x = y
  | [], y => by cases y <;> simp [D.beqs]
  | x :: xs, y => by
    cases y with
    | nil => simp [D.beqs]
    | cons y ys => simp only [D.beqs, Bool.and_eq_true, List.cons.injEq, D.beq_iff x y, D.beqs_iff xs ys]
end
instance : DecidableEq D := fun x y => decidable_of_iff _ (D.beq_iff x y)
/-- an object of the store: a list of data, of values; a list that is never written; a dict of ints and texts; an instance of a class, with its fields -/
inductive O where
  | pl (xs : List PD) | ml (xs : List D) | fz (xs : List PD) | dc (kvs : List (PD × D)) | ob (c : String) (fs : List (String × D))
  deriving DecidableEq
abbrev Sto := List O
/-- the names' values by slot -/
abbrev Nv := List (Option D)

/-! ### outcomes -/
/-- an exception: its class by number, its fields -/
structure Ex where
  c : Nat
  fs : List (String × D)
inductive Res (α : Type) where
  | ok (a : α) (S : Sto) | exc (x : Ex) (S : Sto) | stuck
def Res.bind {α β : Type} (r : Res α) (f : α → Sto → Res β) : Res β := match r with
  | .ok a S => f a S
  | .exc x S => .exc x S
  | .stuck => .stuck
/-- a statement's outcome -/
inductive Out where
  | nx (ρ : Nv) (S : Sto) | rt (d : D) (S : Sto) | bk (ρ : Nv) (S : Sto) | ct (ρ : Nv) (S : Sto) | exc (x : Ex) (ρ : Nv) (S : Sto) | stuck

/-! ### data as the library's data -/
def mkS (c : Cs) : Str := ⟨c.toArray⟩
mutual
def PD.py : PD → PyData
  | .non => .none
  | .bl b => .bool b
  | .int i => .int i
  | .str s => .str (mkS s)
  | .tup xs => .tuple (PD.pys xs)
def PD.pys : List PD → List PyData
  | [] => []
  | x :: xs => PD.py x :: PD.pys xs
end
/-- Python's == -/
def PD.eqv (x y : PD) : Bool := PyData.eqv x.py y.py
/-- Python's < where the two are alike -/
def PD.lt (x y : PD) : Bool := PySem.W.dataLt x.py y.py
def PD.like (x y : PD) : Bool := PySem.W.alike x.py y.py
def PD.dep (x : PD) : Nat := x.py.depth

/-- the list that an object is -/
def O.ds : O → List D
  | .pl xs => xs.map .p
  | .ml xs => xs
  | .fz xs => xs.map .p
  | .dc _ => []
  | .ob _ _ => []
/-- it is a list -/
def O.isL : O → Bool
  | .dc _ => false
  | .ob _ _ => false
  | _ => true
def Sto.lst (S : Sto) (n : Nat) : Option (List D) := match S[n]? with
  | some o => if o.isL then some o.ds else none
  | none => none
def Sto.isD (S : Sto) (n : Nat) : Bool := match S[n]? with
  | some (.dc _) => true
  | _ => false
def Sto.isO (S : Sto) (n : Nat) : Bool := match S[n]? with
  | some (.ob _ _) => true
  | _ => false
/-- a value as the library's data, through lists at most k deep -/
def toPy (S : Sto) : Nat → D → Option PyData
  | _, .p x => some x.py
  | 0, _ => none
  | k + 1, .ref n => (Sto.lst S n).bind fun xs => (xs.mapM (toPy S k)).map .list
  | k + 1, .mt xs => (xs.mapM (toPy S k)).map .tuple
  | _ + 1, .xv _ _ _ _ => none

/-! ### the language -/
/-- built-in functions -/
inductive Bf where
  | len | int | ord | str | tuple | list | sorted | all | any | sum | max | min | abs
  deriving DecidableEq
/-- methods of built-in types -/
inductive Mt where
  | append | extend | pop | join | split | find | index
  deriving DecidableEq
/-- built-in classes that isinstance asks for -/
inductive Ty where
  | int | bool | str | tuple | list | dict
  deriving DecidableEq
/-- targets -/
inductive Tg where
  | nm (i : Nat) | tp (ts : List Tg)
mutual
inductive E where
  | v (i : Nat) | k (x : PD) | g (i : Nat)
  | tp (es : Es) | ls (es : Es) | d0 | dead
  | bin (op : Operator) (a b : E) | neg (a : E)
  | cmp (op : CmpOp) (a b : E) | chn (o1 o2 : CmpOp) (a b c : E)
  | bo (o : BoolOp) (es : Es) | no (a : E) | ife (c a b : E)
  | ix (a i : E) | slN (a : E) | slL (a lo : E) | slH (a hi : E) | sl (a lo hi : E)
  | call (f : Nat) (es : Es)
  | blt (b : Bf) (es : Es)
  | isi (a : E) (t : Ty) | isT (a : E) (ts : List Ty)
  | mth (m : Mt) (a : E) (es : Es)
  | gd (t : List (Cs × PD)) (n : Nat) (e : E)
  | at (c : String) (e : E) (f : String) | mk (c : String) (fi : Nat) (es : Es) | mcl (c m : String) (fi : Nat) (e : E) (es : Es)
  | fld (i : Nat) (f : String) | isx (i : Nat) (cs : List Nat)
  | lc (own : List Nat) (tg : Tg) (it : W) (elt : E) | lcI (own : List Nat) (tg : Tg) (it : W) (c elt : E)
inductive Es where
  | nil | cons (e : E) (es : Es)
/-- what stands behind in: an expression, range of one or two, range of a length -/
inductive W where
  | of (e : E) | rg1 (a : E) | rgL (a : E) | rg2 (a b : E)
end
mutual
inductive C where
  | ret (e : E) | retN
  | asg (tg : Tg) (e : E) | ex (e : E)
  | sub (a i e : E) | sat (c : String) (a : E) (f : String) (e : E)
  | ite (c : E) (t f : Cz)
  | forr (tg : Tg) (it : W) (body : Cz)
  | whl (c : E) (body : Cz)
  | pas | brk | cnt | dead
  | rse (c : Nat) (fs : List String) (es : Es)
  | unl (ts : List Tg) (e : E)
  | trx (body : Cz) (kn : List Nat) (c : Nat) (i : Nat) (suite : Cz) | try0 (body : Cz) (kn : List Nat) (c : Nat) (suite : Cz)
inductive Cz where
  | nil | cons (c : C) (cs : Cz)
end

/-- the exception that is handled stands in the constants under this number -/
def XC : Nat := 1000000
/-- a class by number is of a class by number: below 1000 the program's own at the end of the line, from 1000 on those above all of them -/
def subX (c c' : Nat) : Bool := decide (c = c') || decide (1000 ≤ c')
/-- what a program around gives: its defs, its constants -/
structure Mo where
  call : Nat → List D → Sto → Res D
  glob : Nat → Option PD

/-! ### operations by values -/
def LINE : Nat := 16777216
def ret1 (x : PD) (S : Sto) : Res D := .ok (.p x) S
/-- a new object -/
def new (o : O) (S : Sto) : Res D := .ok (.ref S.length) (S ++ [o])
/-- a tuple of values -/
def allP : List D → Option (List PD)
  | [] => some []
  | .p x :: xs => (allP xs).map (x :: ·)
  | _ :: _ => none
def mkT (xs : List D) : D := match allP xs with
  | some ys => .p (.tup ys)
  | none => .mt xs
def mkL (xs : List D) : O := match allP xs with
  | some ys => .pl ys
  | none => .ml xs
def truI (d : D) (S : Sto) : Res Bool := match d with
  | .p .non => .ok false S
  | .p (.bl b) => .ok b S
  | .p (.int i) => .ok (i != 0) S
  | .p (.str s) => .ok (!s.isEmpty) S
  | .p (.tup xs) => .ok (!xs.isEmpty) S
  | .mt xs => .ok (!xs.isEmpty) S
  | .xv _ _ _ _ => .stuck
  | .ref n => match Sto.lst S n with
    | some xs => .ok (!xs.isEmpty) S
    | none => .stuck
def binI (op : Operator) (x y : D) (S : Sto) : Res D := match op, x, y with
  | .Add, .p (.int i), .p (.int j) => ret1 (.int (i + j)) S
  | .Sub, .p (.int i), .p (.int j) => ret1 (.int (i - j)) S
  | .Mult, .p (.int i), .p (.int j) => if i.natAbs < 2 ^ 64 ∨ j.natAbs < 2 ^ 64 then ret1 (.int (i * j)) S else .stuck
  | .FloorDiv, .p (.int i), .p (.int j) => if 0 < j ∧ j < 1073741824 then ret1 (.int (i / j)) S else .stuck
  | .Mod, .p (.int i), .p (.int j) => if 0 < j then ret1 (.int (i % j)) S else .stuck
  | .Pow, .p (.int i), .p (.int j) => if 0 ≤ j ∧ j ≤ 1000000 ∧ i.natAbs < 2 ^ 64 then ret1 (.int (i ^ j.toNat)) S else .stuck
  | .Add, .p (.str a), .p (.str b) => if a.length + b.length ≤ LINE then ret1 (.str (a ++ b)) S else .stuck
  | .Add, .p (.tup a), .p (.tup b) => if a.length + b.length ≤ LINE then ret1 (.tup (a ++ b)) S else .stuck
  | .Add, .ref m, .ref n => match S[m]?, S[n]? with
    | some (.pl a), some (.pl b) => if a.length + b.length ≤ LINE then new (.pl (a ++ b)) S else .stuck
    | some (.pl a), some (.ml b) => if a.length + b.length ≤ LINE then new (.ml (a.map .p ++ b)) S else .stuck
    | some (.ml a), some (.pl b) => if a.length + b.length ≤ LINE then new (.ml (a ++ b.map .p)) S else .stuck
    | some (.ml a), some (.ml b) => if a.length + b.length ≤ LINE then new (.ml (a ++ b)) S else .stuck
    | _, _ => .stuck
  | .Add, .mt a, .mt b => if a.length + b.length ≤ LINE then .ok (.mt (a ++ b)) S else .stuck
  | .Add, .p (.tup a), .mt b => if a.length + b.length ≤ LINE then .ok (.mt (a.map .p ++ b)) S else .stuck
  | .Add, .mt a, .p (.tup b) => if a.length + b.length ≤ LINE then .ok (.mt (a ++ b.map .p)) S else .stuck
  | .Mult, .ref n, .p (.int k) => match S[n]? with
    | some (.pl a) => if 0 ≤ k ∧ k < 2 ^ 62 ∧ a.length * k.toNat ≤ LINE then new (.pl (List.replicate k.toNat a).flatten) S else .stuck
    | _ => .stuck
  | _, _, _ => .stuck
def negI (x : D) (S : Sto) : Res D := match x with
  | .p (.int i) => ret1 (.int (-i)) S
  | _ => .stuck
/-- == -/
def eqI (x y : D) (S : Sto) : Option Bool := match toPy S 8 x, toPy S 8 y with
  | some a, some b => if a.depth ≤ 64 ∨ b.depth ≤ 64 then some (PyData.eqv a b) else none
  | _, _ => none
def ltP (x y : PD) : Option Bool := if PD.like x y = true ∧ x ≠ .non ∧ x.dep ≤ 64 then some (PD.lt x y) else none
def gtP (x y : PD) : Option Bool := if PD.like x y = true ∧ x ≠ .non ∧ x.dep ≤ 64 then some (PD.lt y x) else none
def isStrP : PD → Bool
  | .str _ => true
  | _ => false
/-- in -/
def inI (x y : D) (S : Sto) : Option Bool := match x, y with
  | .p (.str [c]), .p (.str z) => some (decide (c ∈ z))
  | .p x, .p (.tup ys) => if x.dep ≤ 64 then some (ys.any fun y => PD.eqv y x) else none
  | .p x, .ref n => match S[n]? with
    | some (.pl ys) => if x.dep ≤ 64 then some (ys.any fun y => PD.eqv y x) else none
    | _ => none
  | .ref n, .p (.tup ys) => match S[n]? with
    | some (.dc _) => if ys.all isStrP then some false else none
    | _ => match toPy S 8 (.ref n) with
      | some a => if a.depth ≤ 64 then some ((PD.pys ys).any fun z => PyData.eqv z a) else none
      | none => none
  | _, _ => none
def isI (x y : D) : Option Bool := match y, x with
  | .p .non, .p .non => some true
  | .p .non, _ => some false
  | .p (.bl b), .p (.bl c) => some (decide (c = b))
  | _, _ => none
def lift (o : Option Bool) (S : Sto) : Res D := match o with
  | some b => ret1 (.bl b) S
  | none => .stuck
def cmpI (op : CmpOp) (x y : D) (S : Sto) : Res D := match op with
  | .Eq => lift (eqI x y S) S
  | .NotEq => lift ((eqI x y S).map (!·)) S
  | .In => lift (inI x y S) S
  | .NotIn => lift ((inI x y S).map (!·)) S
  | .Is => lift (isI x y) S
  | .IsNot => lift ((isI x y).map (!·)) S
  | .Lt => match x, y with
    | .p x, .p y => lift (ltP x y) S
    | _, _ => .stuck
  | .Gt => match x, y with
    | .p (.int i), .p (.int j) => ret1 (.bl (decide (j < i))) S
    | .p x, .p y => lift (gtP x y) S
    | _, _ => .stuck
  | .LtE => match x, y with
    | .p (.int i), .p (.int j) => ret1 (.bl (decide (i ≤ j))) S
    | _, _ => .stuck
  | .GtE => match x, y with
    | .p (.int i), .p (.int j) => ret1 (.bl (decide (j ≤ i))) S
    | _, _ => .stuck
/-- a[i] -/
def ixI (x i : D) (S : Sto) : Res D := match x, i with
  | .p (.str s), .p (.int i) => match atI s i with
    | some c => ret1 (.str [c]) S
    | none => .stuck
  | .p (.tup xs), .p (.int i) => match atI xs i with
    | some c => ret1 c S
    | none => .stuck
  | .mt xs, .p (.int i) => match atI xs i with
    | some c => .ok c S
    | none => .stuck
  | .ref n, .p (.int i) => match Sto.lst S n with
    | some xs => match atI xs i with
      | some c => .ok c S
      | none => .stuck
    | none => .stuck
  | _, _ => .stuck
/-- the part from lo to hi -/
def cut {α : Type} (xs : List α) (lo hi : Option Int) : List α := (xs.drop (HT.sIx xs.length 0 lo)).take (HT.sIx xs.length xs.length hi - HT.sIx xs.length 0 lo)
def slI (x : D) (lo hi : Option Int) (S : Sto) : Res D := match x with
  | .p (.str s) => ret1 (.str (cut s lo hi)) S
  | .p (.tup xs) => ret1 (.tup (cut xs lo hi)) S
  | .ref n => match S[n]? with
    | some (.pl xs) => new (.pl (cut xs lo hi)) S
    | some (.fz xs) => new (.pl (cut xs lo hi)) S
    | some (.ml xs) => new (.ml (cut xs lo hi)) S
    | _ => .stuck
  | _ => .stuck
def asInt (d : D) (S : Sto) (f : Int → Res D) : Res D := match d with
  | .p (.int i) => f i
  | _ => .stuck
/-- the signs of a number -/
def numS (i : Int) : Cs := (toString i).toList.map Char.toNat
def boolsOf : List PD → Option (List Bool)
  | [] => some []
  | .bl b :: xs => (boolsOf xs).map (b :: ·)
  | _ :: _ => none
def intsOf : List PD → Option (List Int)
  | [] => some []
  | .int b :: xs => (intsOf xs).map (b :: ·)
  | _ :: _ => none
def strsOf : List PD → Option (List Cs)
  | [] => some []
  | .str b :: xs => (strsOf xs).map (b :: ·)
  | _ :: _ => none
/-- the data that a list or tuple of data holds -/
def dataOf (d : D) (S : Sto) : Option (List PD) := match d with
  | .p (.tup xs) => some xs
  | .ref n => match S[n]? with
    | some (.pl xs) => some xs
    | some (.fz xs) => some xs
    | _ => none
  | _ => none
/-- the order of sorted -/
def PD.le (x y : PD) : Bool := !PD.lt y x
def isTup1 : PD → Bool
  | .tup (_ :: _) => true
  | _ => false
def isFlat : PD → Bool
  | .tup _ => false
  | .non => false
  | _ => true
def srtI (xs : List PD) : Option (List PD) :=
  if (∀ x ∈ xs, ∀ y ∈ xs, PD.like x y = true) ∧ ((∀ x ∈ xs, isTup1 x = true) ∨ ∀ x ∈ xs, isFlat x = true) ∧ ∀ x ∈ xs, x.dep ≤ 64 then some (xs.mergeSort PD.le) else none
abbrev joinS (s : Cs) (ys : List Cs) : Cs := TL.joinL s ys
def bltI (b : Bf) (ds : List D) (S : Sto) : Res D := match b, ds with
  | .len, [.p (.str s)] => ret1 (.int s.length) S
  | .len, [.p (.tup xs)] => ret1 (.int xs.length) S
  | .len, [.mt xs] => ret1 (.int xs.length) S
  | .len, [.ref n] => match Sto.lst S n with
    | some xs => ret1 (.int xs.length) S
    | none => .stuck
  | .int, [.p (.int i)] => ret1 (.int i) S
  | .int, [.p (.bl b)] => ret1 (.int (if b then 1 else 0)) S
  | .ord, [.p (.str [c])] => ret1 (.int c) S
  | .str, [.p (.int i)] => if i.natAbs.log2 < 1920 then ret1 (.str (numS i)) S else .stuck
  | .tuple, [d] => match dataOf d S with
    | some xs => ret1 (.tup xs) S
    | none => .stuck
  | .list, [d] => match dataOf d S with
    | some xs => new (.pl xs) S
    | none => .stuck
  | .sorted, [d] => match dataOf d S with
    | some xs => match srtI xs with
      | some ys => new (.pl ys) S
      | none => .stuck
    | none => .stuck
  | .all, [.ref n] => match S[n]? with
    | some (.pl xs) => match boolsOf xs with
      | some bs => ret1 (.bl (bs.all id)) S
      | none => .stuck
    | _ => .stuck
  | .any, [.ref n] => match S[n]? with
    | some (.pl xs) => match boolsOf xs with
      | some bs => ret1 (.bl (bs.any id)) S
      | none => .stuck
    | _ => .stuck
  | .sum, [.ref n] => match S[n]? with
    | some (.pl xs) => match intsOf xs with
      | some bs => ret1 (.int bs.sum) S
      | none => .stuck
    | _ => .stuck
  | .max, [.p (.int i), .p (.int j)] => ret1 (.int (if j > i then j else i)) S
  | .min, [.p (.int i), .p (.int j)] => ret1 (.int (if j < i then j else i)) S
  | .max, [d] => match dataOf d S with
    | some xs => (match intsOf xs with
      | some (i :: r) => ret1 (.int (r.foldl max i)) S
      | _ => .stuck)
    | none => .stuck
  | .min, [d] => match dataOf d S with
    | some xs => (match intsOf xs with
      | some (i :: r) => ret1 (.int (r.foldl min i)) S
      | _ => .stuck)
    | none => .stuck
  | .abs, [.p (.int i)] => ret1 (.int (if i < 0 then -i else i)) S
  | _, _ => .stuck
/-- y put behind a list's items -/
def O.push : O → D → Option O
  | .pl xs, .p y => some (.pl (xs ++ [y]))
  | .pl xs, y => some (.ml (xs.map .p ++ [y]))
  | .ml xs, y => some (.ml (xs ++ [y]))
  | .fz _, _ => none
  | .dc _, _ => none
  | .ob _ _, _ => none
def mthI (m : Mt) (x : D) (ds : List D) (S : Sto) : Res D := match m, x, ds with
  | .append, .ref n, [y] => match S[n]? with
    | some o => if o.ds.length < LINE then (match o.push y with
        | some o' => ret1 .non (S.set n o')
        | none => .stuck) else .stuck
    | none => .stuck
  | .extend, .ref n, [.ref k] => match S[n]?, S[k]? with
    | some (.pl xs), some (.pl ys) => if xs.length + ys.length ≤ LINE then ret1 .non (S.set n (.pl (xs ++ ys))) else .stuck
    | _, _ => .stuck
  | .extend, .ref n, [.p (.tup ys)] => match S[n]? with
    | some (.pl xs) => if xs.length + ys.length ≤ LINE then ret1 .non (S.set n (.pl (xs ++ ys))) else .stuck
    | _ => .stuck
  | .pop, .ref n, [] => match S[n]? with
    | some (.pl xs) => match xs.getLast? with
      | some y => .ok (.p y) (S.set n (.pl xs.dropLast))
      | none => .stuck
    | some (.ml xs) => match xs.getLast? with
      | some y => .ok y (S.set n (.ml xs.dropLast))
      | none => .stuck
    | _ => .stuck
  | .join, .p (.str s), [d] => match (dataOf d S).bind strsOf with
    | some ys => if (ys.map (·.length)).sum + ys.length * s.length ≤ LINE then ret1 (.str (joinS s ys)) S else .stuck
    | none => .stuck
  | .find, .p (.str s), [.p (.str t)] => ret1 (.int (Txt.find (mkS s) (mkS t))) S
  | .index, .p (.str s), [.p (.str t)] => (match Builtin.Str.occurrences (mkS s) (mkS t) 0 s.length 1 with
    | i :: _ => ret1 (.int (i : Nat)) S
    | [] => .stuck)
  | .split, .p (.str s), [.p (.str t)] => if t ≠ [] ∧ t.all (· < 256) = true ∧ s.length + 2 ≤ LINE then new (.pl ((TL.spl t 0 [] s).map .str)) S else .stuck
  | _, _, _ => .stuck
/-- the receiver is of the method's own type -/
def Mt.ofL : Mt → Bool
  | .append | .extend | .pop => true
  | _ => false
def recv (m : Mt) (x : D) (S : Sto) : Bool := match x with
  | .ref n => m.ofL && (Sto.lst S n).isSome
  | .p (.str _) => !m.ofL
  | _ => false
def isTy (d : D) (S : Sto) : Ty → Bool := fun t => match d, t with
  | .p (.int _), .int => true
  | .p (.bl _), .int => true
  | .p (.bl _), .bool => true
  | .p (.str _), .str => true
  | .p (.tup _), .tuple => true
  | .mt _, .tuple => true
  | .ref n, .list => (Sto.lst S n).isSome
  | .ref n, .dict => Sto.isD S n
  | _, _ => false
def known (d : D) (S : Sto) : Bool := match d with
  | .ref n => (S[n]?).isSome && !Sto.isO S n
  | .xv _ _ _ _ => false
  | _ => true
/-! ### instances -/
/-- a field put -/
def putS (f : String) (d : D) : List (String × D) → List (String × D)
  | [] => [(f, d)]
  | (g, x) :: r => if g = f then (g, d) :: r else (g, x) :: putS f d r
/-- o.f -/
def fldO (c f : String) (x : D) (S : Sto) : Res D := match x with
  | .ref n => match S[n]? with
    | some (.ob c' fs) => if c' = c then (match fs.lookup f with
      | some d => .ok d S
      | none => .stuck) else .stuck
    | _ => .stuck
  | _ => .stuck
/-- an instance of the class, without such a field -/
def isOb (c m : String) (x : D) (S : Sto) : Bool := match x with
  | .ref n => match S[n]? with
    | some (.ob c' fs) => decide (c' = c) && (fs.lookup m).isNone
    | _ => false
  | _ => false
/-- C(..): the new instance; what its __init__ leaves -/
def mkO (c : String) (call : List D → Sto → Res D) (ds : List D) (S : Sto) : Res D := (call (.ref S.length :: ds) (S ++ [.ob c []])).bind fun d S' => match d with
  | .p .non => .ok (.ref S.length) S'
  | _ => .stuck
/-- o.f = v -/
def setO (c f : String) (x v : D) (S : Sto) : Option Sto := match x with
  | .ref n => match S[n]? with
    | some (.ob c' fs) => if c' = c ∧ fs.length < 1000 then some (S.set n (.ob c (putS f v fs))) else none
    | _ => none
  | _ => none
/-- o[i] = v -/
def subI (x i v : D) (S : Sto) : Option Sto := match x, i with
  | .ref n, .p (.int i) => match S[n]?, v with
    | some (.pl xs), .p y => (ixN xs.length i).map fun j => S.set n (.pl (xs.set j y))
    | some (.ml xs), v => (ixN xs.length i).map fun j => S.set n (.ml (xs.set j v))
    | _, _ => none
  | _, _ => none

/-! ### targets, walks -/
mutual
def asgT : Tg → D → Nv → Option Nv
  | .nm i, d, ρ => some (ρ.set i (some d))
  | .tp ts, .p (.tup xs), ρ => asgTs ts (xs.map .p) ρ
  | .tp ts, .mt xs, ρ => asgTs ts xs ρ
  | .tp _, _, _ => none
def asgTs : List Tg → List D → Nv → Option Nv
  | [], [], ρ => some ρ
  | t :: ts, d :: ds, ρ => (asgT t d ρ).bind (asgTs ts ds)
  | _, _, _ => none
end
/-- what a for walks: the items; for a list its number, that it stand still -/
structure Wk where
  ds : List D
  src : Option (Nat × O)
/-- the list walked stands as it stood -/
def Wk.still (w : Wk) (S : Sto) : Bool := match w.src with
  | some (n, o) => decide (S[n]? = some o)
  | none => true
def wkOf (d : D) (S : Sto) : Res Wk := match d with
  | .p (.str s) => .ok ⟨s.map fun c => .p (.str [c]), none⟩ S
  | .p (.tup xs) => .ok ⟨xs.map .p, none⟩ S
  | .mt xs => .ok ⟨xs, none⟩ S
  | .ref n => match S[n]? with
    | some o => if o.isL then .ok ⟨o.ds, some (n, o)⟩ S else .stuck
    | none => .stuck
  | _ => .stuck
/-- n whole numbers from a by c -/
def rgS (a c : Int) (n : Nat) : List D := (List.range n).map fun (k : Nat) => D.p (.int (a + (k : Int) * c))
def small (i : Int) : Bool := decide (-(2 ^ 62) ≤ i) && decide (i < 2 ^ 62)
def wipeN (ρ : Nv) : List Nat → Nv
  | [] => ρ
  | v :: vs => (wipeN ρ vs).set v none

def forI (w : Wk) (tg : Tg) (body : Nv → Sto → Out) : List D → Nv → Sto → Out
  | [], ρ, S => if w.still S then .nx ρ S else .stuck
  | d :: ds, ρ, S => if w.still S then (match asgT tg d ρ with
    | none => .stuck
    | some ρ1 => match body ρ1 S with
      | .nx ρ2 S2 => forI w tg body ds ρ2 S2
      | .ct ρ2 S2 => forI w tg body ds ρ2 S2
      | .bk ρ2 S2 => .nx ρ2 S2
      | r => r) else .stuck
/-- at most n turns of a while; none: not through -/
def whlN (c : Nv → Sto → Res Bool) (body : Nv → Sto → Out) : Nat → Nv → Sto → Option Out
  | 0, _, _ => none
  | n + 1, ρ, S => match c ρ S with
    | .stuck => some .stuck
    | .exc x S1 => some (.exc x ρ S1)
    | .ok false S1 => some (.nx ρ S1)
    | .ok true S1 => match body ρ S1 with
      | .nx ρ2 S2 => whlN c body n ρ2 S2
      | .ct ρ2 S2 => whlN c body n ρ2 S2
      | .bk ρ2 S2 => some (.nx ρ2 S2)
      | r => some r
open Classical in
noncomputable def whlI (c : Nv → Sto → Res Bool) (body : Nv → Sto → Out) (ρ : Nv) (S : Sto) : Out :=
  if h : ∃ r n, whlN c body n ρ S = some r then h.choose else .stuck
/-- a comprehension's turns; o: the new list (number n) as it stands -/
def lcI (w : Wk) (tg : Tg) (c : Nv → Sto → Res Bool) (elt : Nv → Sto → Res D) (ρ : Nv) (n : Nat) : O → List D → Sto → Res D
  | o, [], S => if w.still S then .ok (.ref n) S else .stuck
  | o, d :: ds, S => if w.still S then (match asgT tg d ρ with
    | none => .stuck
    | some ρ1 => match c ρ1 S with
      | .ok false S1 => if S1[n]? = some o then lcI w tg c elt ρ n o ds S1 else .stuck
      | .ok true S1 => match elt ρ1 S1 with
        | .ok y S2 => if S2[n]? = some o then (match o.push y with
          | some o' => lcI w tg c elt ρ n o' ds (S2.set n o')
          | none => .stuck) else .stuck
        | _ => .stuck
      | _ => .stuck) else .stuck

/-! ### what the language means -/
section
variable (M : Mo)
mutual
def evE : E → Nv → Sto → Res D
  | .v i, ρ, S => match ρ[i]? with
    | some (some d) => .ok d S
    | _ => .stuck
  | .k x, _, S => ret1 x S
  | .g i, _, S => match M.glob i with
    | some x => ret1 x S
    | none => .stuck
  | .tp es, ρ, S => (evEs es ρ S).bind fun ds S => .ok (mkT ds) S
  | .ls es, ρ, S => (evEs es ρ S).bind fun ds S => new (mkL ds) S
  | .d0, _, S => new (.dc []) S
  | .dead, _, _ => .stuck
  | .bin op a b, ρ, S => (evE a ρ S).bind fun x S => (evE b ρ S).bind fun y S => binI op x y S
  | .neg a, ρ, S => (evE a ρ S).bind negI
  | .cmp op a b, ρ, S => (evE a ρ S).bind fun x S => (evE b ρ S).bind fun y S => cmpI op x y S
  | .chn o1 o2 a b c, ρ, S => (evE a ρ S).bind fun x S => (evE b ρ S).bind fun y S => (cmpI o1 x y S).bind fun t S => (truI t S).bind fun k S =>
    if k then (evE c ρ S).bind fun z S => cmpI o2 y z S else ret1 (.bl false) S
  | .bo o es, ρ, S => evB o es ρ S
  | .no a, ρ, S => (evE a ρ S).bind fun x S => (truI x S).bind fun k S => ret1 (.bl (!k)) S
  | .ife c a b, ρ, S => (evE c ρ S).bind fun x S => (truI x S).bind fun k S => if k then evE a ρ S else evE b ρ S
  | .ix a i, ρ, S => (evE a ρ S).bind fun x S => (evE i ρ S).bind fun y S => ixI x y S
  | .slN a, ρ, S => (evE a ρ S).bind fun x S => slI x none none S
  | .slL a lo, ρ, S => (evE a ρ S).bind fun x S => (evE lo ρ S).bind fun l S => asInt l S fun i => slI x (some i) none S
  | .slH a hi, ρ, S => (evE a ρ S).bind fun x S => (evE hi ρ S).bind fun l S => asInt l S fun i => slI x none (some i) S
  | .sl a lo hi, ρ, S => (evE a ρ S).bind fun x S => (evE lo ρ S).bind fun l S => asInt l S fun i => (evE hi ρ S).bind fun l S => asInt l S fun j => slI x (some i) (some j) S
  | .call f es, ρ, S => (evEs es ρ S).bind fun ds S => M.call f ds S
  | .blt b es, ρ, S => (evEs es ρ S).bind fun ds S => bltI b ds S
  | .isi a t, ρ, S => (evE a ρ S).bind fun x S => if known x S then ret1 (.bl (isTy x S t)) S else .stuck
  | .isT a ts, ρ, S => (evE a ρ S).bind fun x S => if known x S then ret1 (.bl (ts.any (isTy x S))) S else .stuck
  | .mth m a es, ρ, S => (evE a ρ S).bind fun x S => if recv m x S then (evEs es ρ S).bind fun ds S => mthI m x ds S else .stuck
  | .gd t _ e, ρ, S => (evE e ρ S).bind fun d S => match d with
    | .p (.str z) => (match t.lookup z with
      | some x => ret1 x S
      | none => .stuck)
    | _ => .stuck
  | .at c e f, ρ, S => (evE e ρ S).bind fun x S => fldO c f x S
  | .mk c fi es, ρ, S => (evEs es ρ S).bind fun ds S => mkO c (M.call fi) ds S
  | .mcl c m fi e es, ρ, S => (evE e ρ S).bind fun x S => if isOb c m x S then (evEs es ρ S).bind fun ds S => M.call fi (x :: ds) S else .stuck
  | .fld i f, ρ, S => match ρ[i]?, M.glob XC with
    | some (some (.xv a d c fs)), some (.tup [.int a', .int d', .int c']) => if a' = a ∧ d' = d ∧ c' = c then (match fs.lookup f with
        | some y => ret1 y S
        | none => .stuck) else .stuck
    | _, _ => .stuck
  | .isx i cs, ρ, S => match ρ[i]?, M.glob XC with
    | some (some (.xv a d c _)), some (.tup [.int a', .int d', .int c']) => if a' = a ∧ d' = d ∧ c' = c then ret1 (.bl (cs.any (subX c))) S else .stuck
    | _, _ => .stuck
  | .lc own tg it elt, ρ, S => (evW it ρ S).bind fun w S => if w.ds.length ≤ LINE then
      lcI w tg (fun _ S => .ok true S) (evE elt) (wipeN ρ own) S.length (.pl []) w.ds (S ++ [.pl []]) else .stuck
  | .lcI own tg it c elt, ρ, S => (evW it ρ S).bind fun w S => if w.ds.length ≤ LINE then
      lcI w tg (fun ρ S => (evE c ρ S).bind truI) (evE elt) (wipeN ρ own) S.length (.pl []) w.ds (S ++ [.pl []]) else .stuck
def evEs : Es → Nv → Sto → Res (List D)
  | .nil, _, S => .ok [] S
  | .cons e es, ρ, S => (evE e ρ S).bind fun d S => (evEs es ρ S).bind fun ds S => .ok (d :: ds) S
def evB : BoolOp → Es → Nv → Sto → Res D
  | _, .nil, _, _ => .stuck
  | _, .cons e .nil, ρ, S => evE e ρ S
  | o, .cons e es, ρ, S => (evE e ρ S).bind fun d S => (truI d S).bind fun k S => match o, k with
    | .And, true => evB o es ρ S
    | .Or, false => evB o es ρ S
    | _, _ => .ok d S
/-- what an expression behind in stands for -/
def evW : W → Nv → Sto → Res Wk
  | .rg1 a, ρ, S => (evE a ρ S).bind fun x S => match x with
    | .p (.int n) => if small n then .ok ⟨rgS 0 1 n.toNat, none⟩ S else .stuck
    | _ => .stuck
  | .rgL a, ρ, S => (evE a ρ S).bind fun x S => (bltI .len [x] S).bind fun n S => match n with
    | .p (.int n) => .ok ⟨rgS 0 1 n.toNat, none⟩ S
    | _ => .stuck
  | .rg2 a b, ρ, S => (evE a ρ S).bind fun x S => (evE b ρ S).bind fun y S => match x, y with
    | .p (.int i), .p (.int j) => if small i && small j then .ok ⟨rgS i 1 (j - i).toNat, none⟩ S else .stuck
    | _, _ => .stuck
  | .of e, ρ, S => (evE e ρ S).bind wkOf
end
/-- an expression as a test -/
def evT (e : E) (ρ : Nv) (S : Sto) : Res Bool := (evE M e ρ S).bind truI
/-- an expression's outcome within a statement -/
def Res.out {α : Type} (r : Res α) (ρ : Nv) (f : α → Sto → Out) : Out := match r with
  | .ok a S => f a S
  | .exc x S => .exc x ρ S
  | .stuck => .stuck
/-- what follows a statement -/
def Out.seq (r : Out) (f : Nv → Sto → Out) : Out := match r with
  | .nx ρ S => f ρ S
  | r => r
end
/-- a list's items -/
def lsts (d : D) (S : Sto) : Option (List D) := match d with
  | .ref n => Sto.lst S n
  | _ => none
/-- while exception (at a, dict at d, class c) is handled -/
def Mo.at (M : Mo) (a d c : Nat) : Mo := ⟨M.call, fun i => if i = XC then some (.tup [.int a, .int d, .int c]) else M.glob i⟩
/-- the name is gone behind an except suite -/
def Out.gone (i : Nat) : Out → Out
  | .nx ρ S => .nx (ρ.set i none) S
  | .bk ρ S => .bk (ρ.set i none) S
  | .ct ρ S => .ct (ρ.set i none) S
  | .exc _ _ _ => .stuck
  | r => r
def Out.noX : Out → Out
  | .exc _ _ _ => .stuck
  | r => r
/-- fields that are data -/
def allX : List (String × D) → Option (List (String × PD))
  | [] => some []
  | (f, .p x) :: r => (allX r).map ((f, x) :: ·)
  | _ :: _ => none
open Classical in
/-- what a suite does wherever the exception lies -/
noncomputable def anyAt (F : Nat → Nat → Out) : Out := if h : ∃ r, ∀ a d, F a d = r then h.choose else .stuck
/-- try .. except as a name in slot i, and without one; kn: the classes that can come -/
noncomputable def trxF (kn : List Nat) (c i : Nat) (F : Nv → Sto → Out) (G : Nat → Nat → Nat → Nv → Sto → Out) (ρ : Nv) (S : Sto) : Out := match F ρ S with
  | .exc x ρ1 S1 => if x.c ∈ kn then (if subX x.c c then (match allX x.fs with
      | some fs => anyAt fun a d => (G a d x.c (ρ1.set i (some (.xv a d x.c fs))) S1).gone i
      | none => .stuck) else .exc x ρ1 S1) else .stuck
  | r => r
noncomputable def try0F (kn : List Nat) (c : Nat) (F : Nv → Sto → Out) (G : Nat → Nat → Nat → Nv → Sto → Out) (ρ : Nv) (S : Sto) : Out := match F ρ S with
  | .exc x ρ1 S1 => if x.c ∈ kn then (if subX x.c c then anyAt (fun a d => (G a d x.c ρ1 S1).noX) else .exc x ρ1 S1) else .stuck
  | r => r
mutual
noncomputable def evC (M : Mo) : C → Nv → Sto → Out
  | .ret e, ρ, S => (evE M e ρ S).out ρ .rt
  | .retN, _, S => .rt (.p .non) S
  | .asg tg e, ρ, S => (evE M e ρ S).out ρ fun d S => match asgT tg d ρ with
    | some ρ' => .nx ρ' S
    | none => .stuck
  | .ex e, ρ, S => (evE M e ρ S).out ρ fun _ S => .nx ρ S
  | .sub a i e, ρ, S => (evE M e ρ S).out ρ fun y S => (evE M a ρ S).out ρ fun x S => (evE M i ρ S).out ρ fun k S => match subI x k y S with
    | some S' => .nx ρ S'
    | none => .stuck
  | .sat c a f e, ρ, S => (evE M e ρ S).out ρ fun y S => (evE M a ρ S).out ρ fun x S => match setO c f x y S with
    | some S' => .nx ρ S'
    | none => .stuck
  | .ite c t f, ρ, S => (evT M c ρ S).out ρ fun k S => if k then evCz M t ρ S else evCz M f ρ S
  | .forr tg it body, ρ, S => (evW M it ρ S).out ρ fun w S => forI w tg (evCz M body) w.ds ρ S
  | .whl c body, ρ, S => whlI (evT M c) (evCz M body) ρ S
  | .pas, ρ, S => .nx ρ S
  | .brk, ρ, S => .bk ρ S
  | .cnt, ρ, S => .ct ρ S
  | .dead, _, _ => .stuck
  | .unl ts e, ρ, S => (evE M e ρ S).out ρ fun d S => match lsts d S with
    | some xs => (match asgTs ts xs ρ with
      | some ρ' => .nx ρ' S
      | none => .stuck)
    | none => .stuck
  | .rse c fs es, ρ, S => (evEs M es ρ S).out ρ fun ds S => if ds.length = fs.length then .exc ⟨c, fs.zip ds⟩ ρ S else .stuck
  | .trx body kn c i suite, ρ, S => trxF kn c i (evCz M body) (fun a d c => evCz (M.at a d c) suite) ρ S
  | .try0 body kn c suite, ρ, S => try0F kn c (evCz M body) (fun a d c => evCz (M.at a d c) suite) ρ S
noncomputable def evCz (M : Mo) : Cz → Nv → Sto → Out
  | .nil, ρ, S => .nx ρ S
  | .cons c cs, ρ, S => (evC M c ρ S).seq (evCz M cs)
end

/-! ### a def's call -/
mutual
/-- no object from n on is in it -/
def D.bel (n : Nat) : D → Bool
  | .p _ => true
  | .ref k => decide (k < n)
  | .mt xs => D.bels n xs
  | .xv _ _ _ _ => true
def D.bels (n : Nat) : List D → Bool
  | [] => true
  | x :: xs => D.bel n x && D.bels n xs
end
def O.bel (n : Nat) : O → Bool
  | .ml xs => D.bels n xs
  | .dc kvs => D.bels n (kvs.map (·.2))
  | .ob _ fs => D.bels n (fs.map (·.2))
  | _ => true
/-- what was made within a call and is not handed on is forgotten; a new list of data becomes the next object -/
def tidy (S S' : Sto) (d : D) : Res D :=
  if S'.take S.length = S ∨ (S'.take S.length).all (O.bel S.length) = true then match d with
    | .p x => .ok (.p x) (S'.take S.length)
    | .ref j => if j < S.length then .ok (.ref j) (S'.take S.length) else match S'[j]? with
      | some (.pl xs) => .ok (.ref (S'.take S.length).length) (S'.take S.length ++ [.pl xs])
      | _ => .ok (.ref j) S'
    | d => .ok d S'
  else .ok d S'
def tidyX (S S' : Sto) (x : Ex) : Res D :=
  if (S'.take S.length = S ∨ (S'.take S.length).all (O.bel S.length) = true) ∧ x.fs.all (fun p => D.bel S.length p.2) = true then .exc x (S'.take S.length) else .exc x S'
/-- a def: parameters, slots, body -/
structure Df where
  np : Nat
  n : Nat
  body : Cz
noncomputable def runB (M : Mo) (df : Df) (ds : List D) (S : Sto) : Res D := match evCz M df.body (ds.map some ++ List.replicate (df.n - df.np) none) S with
  | .nx _ S' => tidy S S' (.p .non)
  | .rt d S' => tidy S S' d
  | .exc x _ S' => tidyX S S' x
  | _ => .stuck
noncomputable def callI (G : Nat → Option Df) (gl : Nat → Option PD) : Nat → Nat → List D → Sto → Res D
  | 0, _, _, _ => .stuck
  | k + 1, f, ds, S => match G f with
    | some df => if ds.length = df.np then runB ⟨callI G gl k, gl⟩ df ds S else .stuck
    | none => .stuck
end PH

/-! PH, part B: how data, values, objects lie in the abstract heap; what is wanted behind an expression. -/
namespace PH
open L2 PySem PySem.Spec PyProof.Rows
abbrev Fg := PySem.W.Frag

theorem line_eq : sizeLine = LINE := sizeLine_eq
def okS (s : Cs) : Prop := s.length ≤ LINE ∧ ∀ c ∈ s, c < 1114112
theorem tl_mkS (s : Cs) : (mkS s).cps.toList = s := rfl
theorem len_mkS (s : Cs) : (mkS s).length = s.length := by simp [mkS, Str.length]
theorem mkS_inj {s t : Cs} (h : mkS s = mkS t) : s = t := by
  have := congrArg (fun x : Str => x.cps.toList) h
  simpa [mkS] using this
theorem mkS_of (x : Str) : mkS x.cps.toList = x := by cases x; simp [mkS]

/-! ### data, values -/
mutual
inductive RelP (K : Fg) (H : Hp) : PD → V → Prop
  | non : RelP K H .non .non
  | bl (b : Bool) : RelP K H (.bl b) (.bl b)
  | int (i : Int) : RelP K H (.int i) (.int i)
  | str (s : Cs) (h : okS s) : RelP K H (.str s) (.str (mkS s))
  | tup {a : Addr} {xs : List PD} {vs : List V} (h : SqT K H a vs) (r : RelPs K H xs vs) : RelP K H (.tup xs) (.ref a)
inductive RelPs (K : Fg) (H : Hp) : List PD → List V → Prop
  | nil : RelPs K H [] []
  | cons {x : PD} {xs : List PD} {v : V} {vs : List V} (h : RelP K H x v) (r : RelPs K H xs vs) : RelPs K H (x :: xs) (v :: vs)
end
mutual
inductive RelD (K : Fg) (H : Hp) (m : List Addr) : D → V → Prop
  | p {x : PD} {v : V} (h : RelP K H x v) : RelD K H m (.p x) v
  | ref {n : Nat} {a : Addr} (h : m[n]? = some a) : RelD K H m (.ref n) (.ref a)
  | mt {a : Addr} {xs : List D} {vs : List V} (h : SqT K H a vs) (r : RelDs K H m xs vs) : RelD K H m (.mt xs) (.ref a)
  | xv {a d c : Nat} {fs : List (String × PD)} {vs : List (Str × V)} (h : H d = some (.xd vs)) (r : ∀ f y, fs.lookup f = some y → ∃ v, vs.lookup (Str.ofString f) = some v ∧ RelP K H y v) : RelD K H m (.xv a d c fs) (.ref a)
inductive RelDs (K : Fg) (H : Hp) (m : List Addr) : List D → List V → Prop
  | nil : RelDs K H m [] []
  | cons {x : D} {xs : List D} {v : V} {vs : List V} (h : RelD K H m x v) (r : RelDs K H m xs vs) : RelDs K H m (x :: xs) (v :: vs)
end
/-- what is read as a tuple stays -/
def Kp (K : Fg) (H H' : Hp) : Prop := (∀ a vs, SqT K H a vs → SqT K H' a vs) ∧ ∀ a fs, H a = some (.xd fs) → H' a = some (.xd fs)
theorem Kp.refl {K : Fg} {H : Hp} : Kp K H H := ⟨fun _ _ h => h, fun _ _ h => h⟩
theorem Kp.trans {K : Fg} {H H1 H2 : Hp} (a : Kp K H H1) (b : Kp K H1 H2) : Kp K H H2 := ⟨fun c vs h => b.1 c vs (a.1 c vs h), fun c vs h => b.2 c vs (a.2 c vs h)⟩
section
variable {K : Fg} {H H' : Hp} {m m' : List Addr}
mutual
theorem RelP.mono (k : Kp K H H') : ∀ {x : PD} {v : V}, RelP K H x v → RelP K H' x v
  | _, _, .non => .non
  | _, _, .bl b => .bl b
  | _, _, .int i => .int i
  | _, _, .str s h => .str s h
  | _, _, .tup h r => .tup (k.1 _ _ h) (RelPs.mono k r)
theorem RelPs.mono (k : Kp K H H') : ∀ {xs : List PD} {vs : List V}, RelPs K H xs vs → RelPs K H' xs vs
  | _, _, .nil => .nil
  | _, _, .cons h r => .cons (RelP.mono k h) (RelPs.mono k r)
end
theorem pre_get {α : Type} {m t : List α} {n : Nat} {a : α} (h : m[n]? = some a) : (m ++ t)[n]? = some a := by
  rw [List.getElem?_append_left (List.getElem?_eq_some_iff.mp h).1]; exact h
mutual
theorem RelD.mono (k : Kp K H H') (t : List Addr) : ∀ {x : D} {v : V}, RelD K H m x v → RelD K H' (m ++ t) x v
  | _, _, .p h => .p (h.mono k)
  | _, _, .ref h => .ref (pre_get h)
  | _, _, .mt h r => .mt (k.1 _ _ h) (RelDs.mono k t r)
  | _, _, .xv h r => .xv (k.2 _ _ h) fun f y e => let ⟨v, e1, q⟩ := r f y e; ⟨v, e1, q.mono k⟩
theorem RelDs.mono (k : Kp K H H') (t : List Addr) : ∀ {xs : List D} {vs : List V}, RelDs K H m xs vs → RelDs K H' (m ++ t) xs vs
  | _, _, .nil => .nil
  | _, _, .cons h r => .cons (RelD.mono k t h) (RelDs.mono k t r)
end
/-- the heap and the numbers have grown -/
structure Ext (K : Fg) (H : Hp) (m : List Addr) (H' : Hp) (m' : List Addr) : Prop where
  kp : Kp K H H'
  pre : ∃ t, m' = m ++ t
theorem Ext.refl : Ext K H m H m := ⟨.refl, [], by simp⟩
theorem Ext.trans {H1 H2 : Hp} {m1 m2 : List Addr} (a : Ext K H m H1 m1) (b : Ext K H1 m1 H2 m2) : Ext K H m H2 m2 := by
  obtain ⟨t, rfl⟩ := a.pre
  obtain ⟨u, rfl⟩ := b.pre
  exact ⟨a.kp.trans b.kp, t ++ u, by simp⟩
theorem RelD.ext (e : Ext K H m H' m') {x : D} {v : V} (h : RelD K H m x v) : RelD K H' m' x v := by
  obtain ⟨t, rfl⟩ := e.pre
  exact h.mono e.kp t
theorem RelDs.ext (e : Ext K H m H' m') {x : List D} {v : List V} (h : RelDs K H m x v) : RelDs K H' m' x v := by
  obtain ⟨t, rfl⟩ := e.pre
  exact h.mono e.kp t
theorem RelPs.length : ∀ {xs : List PD} {vs : List V}, RelPs K H xs vs → xs.length = vs.length
  | _, _, .nil => rfl
  | _, _, .cons _ r => by rw [List.length_cons, List.length_cons, RelPs.length r]
theorem RelDs.length : ∀ {xs : List D} {vs : List V}, RelDs K H m xs vs → xs.length = vs.length
  | _, _, .nil => rfl
  | _, _, .cons _ r => by rw [List.length_cons, List.length_cons, RelDs.length r]
theorem RelPs.get : ∀ {xs : List PD} {vs : List V} {i : Nat} {x : PD}, RelPs K H xs vs → xs[i]? = some x → ∃ v, vs[i]? = some v ∧ RelP K H x v
  | _, _, _, _, .nil, e => by simp at e
  | _, _, 0, _, .cons h _, e => by simp at e; subst e; exact ⟨_, rfl, h⟩
  | _, _, i + 1, x, .cons _ r, e => by
    obtain ⟨v, h1, h2⟩ := RelPs.get (i := i) (x := x) r (by simpa using e)
    exact ⟨v, by simpa using h1, h2⟩
theorem RelDs.get : ∀ {xs : List D} {vs : List V} {i : Nat} {x : D}, RelDs K H m xs vs → xs[i]? = some x → ∃ v, vs[i]? = some v ∧ RelD K H m x v
  | _, _, _, _, .nil, e => by simp at e
  | _, _, 0, _, .cons h _, e => by simp at e; subst e; exact ⟨_, rfl, h⟩
  | _, _, i + 1, x, .cons _ r, e => by
    obtain ⟨v, h1, h2⟩ := RelDs.get (i := i) (x := x) r (by simpa using e)
    exact ⟨v, by simpa using h1, h2⟩
theorem RelPs.getV : ∀ {xs : List PD} {vs : List V} {i : Nat} {v : V}, RelPs K H xs vs → vs[i]? = some v → ∃ x, xs[i]? = some x ∧ RelP K H x v
  | _, _, _, _, .nil, e => by simp at e
  | _, _, 0, _, .cons h _, e => by simp at e; subst e; exact ⟨_, rfl, h⟩
  | _, _, i + 1, v, .cons _ r, e => by
    obtain ⟨x, h1, h2⟩ := RelPs.getV (i := i) (v := v) r (by simpa using e)
    exact ⟨x, by simpa using h1, h2⟩
theorem RelDs.getV : ∀ {xs : List D} {vs : List V} {i : Nat} {v : V}, RelDs K H m xs vs → vs[i]? = some v → ∃ x, xs[i]? = some x ∧ RelD K H m x v
  | _, _, _, _, .nil, e => by simp at e
  | _, _, 0, _, .cons h _, e => by simp at e; subst e; exact ⟨_, rfl, h⟩
  | _, _, i + 1, v, .cons _ r, e => by
    obtain ⟨x, h1, h2⟩ := RelDs.getV (i := i) (v := v) r (by simpa using e)
    exact ⟨x, by simpa using h1, h2⟩
theorem RelPs.append : ∀ {xs ys : List PD} {vs ws : List V}, RelPs K H xs vs → RelPs K H ys ws → RelPs K H (xs ++ ys) (vs ++ ws)
  | _, _, _, _, .nil, s => s
  | _, _, _, _, .cons h r, s => .cons h (RelPs.append r s)
theorem RelDs.append : ∀ {xs ys : List D} {vs ws : List V}, RelDs K H m xs vs → RelDs K H m ys ws → RelDs K H m (xs ++ ys) (vs ++ ws)
  | _, _, _, _, .nil, s => s
  | _, _, _, _, .cons h r, s => .cons h (RelDs.append r s)
theorem RelPs.take : ∀ {xs : List PD} {vs : List V} (n : Nat), RelPs K H xs vs → RelPs K H (xs.take n) (vs.take n)
  | _, _, 0, _ => by simp; exact .nil
  | _, _, _ + 1, .nil => by simp; exact .nil
  | _, _, n + 1, .cons h r => .cons h (RelPs.take n r)
theorem RelPs.drop : ∀ {xs : List PD} {vs : List V} (n : Nat), RelPs K H xs vs → RelPs K H (xs.drop n) (vs.drop n)
  | _, _, 0, r => r
  | _, _, _ + 1, .nil => by simp; exact .nil
  | _, _, n + 1, .cons _ r => RelPs.drop n r
theorem RelDs.take : ∀ {xs : List D} {vs : List V} (n : Nat), RelDs K H m xs vs → RelDs K H m (xs.take n) (vs.take n)
  | _, _, 0, _ => by simp; exact .nil
  | _, _, _ + 1, .nil => by simp; exact .nil
  | _, _, n + 1, .cons h r => .cons h (RelDs.take n r)
theorem RelDs.drop : ∀ {xs : List D} {vs : List V} (n : Nat), RelDs K H m xs vs → RelDs K H m (xs.drop n) (vs.drop n)
  | _, _, 0, r => r
  | _, _, _ + 1, .nil => by simp; exact .nil
  | _, _, n + 1, .cons _ r => RelDs.drop n r
theorem RelPs.set {x : PD} {v : V} (h : RelP K H x v) : ∀ {xs : List PD} {vs : List V} (i : Nat), RelPs K H xs vs → RelPs K H (xs.set i x) (vs.set i v)
  | _, _, _, .nil => .nil
  | _, _, 0, .cons _ r => .cons h r
  | _, _, i + 1, .cons q r => .cons q (RelPs.set h i r)
theorem RelDs.set {x : D} {v : V} (h : RelD K H m x v) : ∀ {xs : List D} {vs : List V} (i : Nat), RelDs K H m xs vs → RelDs K H m (xs.set i x) (vs.set i v)
  | _, _, _, .nil => .nil
  | _, _, 0, .cons _ r => .cons h r
  | _, _, i + 1, .cons q r => .cons q (RelDs.set h i r)
theorem RelPs.up : ∀ {xs : List PD} {vs : List V}, RelPs K H xs vs → RelDs K H m (xs.map .p) vs
  | _, _, .nil => .nil
  | _, _, .cons h r => .cons (.p h) (RelPs.up r)
theorem RelDs.down : ∀ {xs : List D} {ys : List PD} {vs : List V}, RelDs K H m xs vs → allP xs = some ys → RelPs K H ys vs
  | [], _, _, .nil, e => by simp only [allP, Option.some.injEq] at e; subst e; exact .nil
  | .p x :: xs, ys, _, .cons h r, e => by
    cases q : allP xs with
    | none => simp [allP, q] at e
    | some zs =>
      simp only [allP, q, Option.map_some, Option.some.injEq] at e
      subst e
      cases h with
      | p h => exact .cons h (RelDs.down r q)
  | .ref _ :: _, _, _, .cons _ _, e => by simp [allP] at e
  | .mt _ :: _, _, _, .cons _ _, e => by simp [allP] at e
theorem RelDs.dropLast : ∀ {xs : List D} {vs : List V}, RelDs K H m xs vs → RelDs K H m xs.dropLast vs.dropLast := fun {xs vs} r => by
  rw [List.dropLast_eq_take, List.dropLast_eq_take, r.length]; exact r.take _
theorem RelPs.dropLast : ∀ {xs : List PD} {vs : List V}, RelPs K H xs vs → RelPs K H xs.dropLast vs.dropLast := fun {xs vs} r => by
  rw [List.dropLast_eq_take, List.dropLast_eq_take, r.length]; exact r.take _
end

/-! ### objects -/
/-- a list that is never written: known to the object, or of the module's own -/
def FzL (K : Fg) (H : Hp) (a : Addr) (vs : List V) : Prop :=
  (∃ o, H a = some (.frz o (.lst vs))) ∨ ∃ (o : Obj) (its : Array Value) (n : Nat), K.lookup a = some o ∧ o.cls = .type "list" ∧ o.dict = none ∧ o.data = .seq its n ∧ its.size ≤ sizeLine ∧ Vals vs its.toList
theorem FzL.seq {K : Fg} {H : Hp} {a : Addr} {vs : List V} (h : FzL K H a vs) : SqL K H a vs := by
  rcases h with ⟨o, h⟩ | h
  · exact .inl (.inr ⟨o, h⟩)
  · exact .inr h
def keyP : PD → Option L2.Key
  | .int i => some (.inl i)
  | .str s => some (.inr (mkS s))
  | _ => none
inductive RelKs (K : Fg) (H : Hp) (m : List Addr) : List (PD × D) → List (L2.Key × V) → Prop
  | nil : RelKs K H m [] []
  | cons {k : PD} {q : L2.Key} {d : D} {v : V} {kvs : List (PD × D)} {us : List (L2.Key × V)} (hk : keyP k = some q) (h : RelD K H m d v) (r : RelKs K H m kvs us) : RelKs K H m ((k, d) :: kvs) ((q, v) :: us)
theorem RelKs.mono {K : Fg} {H H' : Hp} {m : List Addr} (k : Kp K H H') (t : List Addr) : ∀ {kvs : List (PD × D)} {us : List (L2.Key × V)}, RelKs K H m kvs us → RelKs K H' (m ++ t) kvs us
  | _, _, .nil => .nil
  | _, _, .cons hk h r => .cons hk (h.mono k t) (RelKs.mono k t r)
/-- fields, side by side -/
inductive RelFs (K : Fg) (H : Hp) (m : List Addr) : List (String × D) → List (Str × V) → Prop
  | nil : RelFs K H m [] []
  | cons {f : String} {d : D} {v : V} {fs : List (String × D)} {vs : List (Str × V)} (h : RelD K H m d v) (r : RelFs K H m fs vs) : RelFs K H m ((f, d) :: fs) ((Str.ofString f, v) :: vs)
theorem ofS_inj {a b : String} (h : Str.ofString a = Str.ofString b) : a = b := by
  rw [Str.ofString_eq_toList, Str.ofString_eq_toList] at h
  have h1 : a.toList.map Char.toNat = b.toList.map Char.toNat := by simpa using congrArg (fun x : Str => x.cps.toList) h
  have h2 : a.toList = b.toList := (List.map_inj_right fun x y e => Char.toNat_inj.mp e).mp h1
  exact String.toList_inj.mp h2
section
variable {K : Fg} {H H' : Hp} {m : List Addr}
theorem RelFs.mono (k : Kp K H H') (t : List Addr) : ∀ {fs : List (String × D)} {vs : List (Str × V)}, RelFs K H m fs vs → RelFs K H' (m ++ t) fs vs
  | _, _, .nil => .nil
  | _, _, .cons h r => .cons (h.mono k t) (RelFs.mono k t r)
theorem RelFs.length : ∀ {fs : List (String × D)} {vs : List (Str × V)}, RelFs K H m fs vs → fs.length = vs.length
  | _, _, .nil => rfl
  | _, _, .cons _ r => by rw [List.length_cons, List.length_cons, r.length]
theorem RelFs.hit : ∀ {fs : List (String × D)} {vs : List (Str × V)} {f : String} {d : D}, RelFs K H m fs vs → fs.lookup f = some d → ∃ v, vs.lookup (Str.ofString f) = some v ∧ RelD K H m d v
  | _, _, _, _, .nil, e => by cases e
  | _, _, f, d, .cons (f := g) h r, e => by
    by_cases q : f = g
    · subst q
      simp only [List.lookup_cons, beq_self_eq_true, Option.some.injEq] at e ⊢
      subst e; exact ⟨_, rfl, h⟩
    · have q1 : (f == g) = false := beq_eq_false_iff_ne.mpr q
      have q2 : (Str.ofString f == Str.ofString g) = false := beq_eq_false_iff_ne.mpr fun z => q (ofS_inj z)
      simp only [List.lookup_cons, q1, q2] at e ⊢
      exact RelFs.hit r e
theorem RelFs.mis : ∀ {fs : List (String × D)} {vs : List (Str × V)} {f : String}, RelFs K H m fs vs → fs.lookup f = none → vs.lookup (Str.ofString f) = none
  | _, _, _, .nil, e => rfl
  | _, _, f, .cons (f := g) h r, e => by
    by_cases q : f = g
    · subst q
      simp only [List.lookup_cons, beq_self_eq_true, reduceCtorEq] at e
    · have q1 : (f == g) = false := beq_eq_false_iff_ne.mpr q
      have q2 : (Str.ofString f == Str.ofString g) = false := beq_eq_false_iff_ne.mpr fun z => q (ofS_inj z)
      simp only [List.lookup_cons, q1, q2] at e ⊢
      exact RelFs.mis r e
theorem RelFs.put {f : String} {d : D} {v : V} (h : RelD K H m d v) : ∀ {fs : List (String × D)} {vs : List (Str × V)}, RelFs K H m fs vs → RelFs K H m (putS f d fs) (putF (Str.ofString f) v vs)
  | _, _, .nil => .cons h .nil
  | _, _, .cons (f := g) q r => by
    unfold putS putF
    by_cases z : g = f
    · subst z
      simp only [if_true]
      exact .cons h r
    · rw [if_neg z, if_neg fun e => z (ofS_inj e)]
      exact .cons q (RelFs.put h r)
end
/-- where the class of a name lies -/
def ClsAt (K : Fg) (C : Addr) (c : String) : Prop := PySem.W.nsIn K mainGlobals (Str.ofString c) = some (some (.ref C))
theorem ClsAt.one {K : Fg} {C C' : Addr} {c : String} (h : ClsAt K C c) (h' : ClsAt K C' c) : C = C' := by
  have := h.symm.trans h'
  simpa using this
inductive RelO (K : Fg) (H : Hp) (m : List Addr) (a : Addr) : O → Prop
  | pl {xs : List PD} {vs : List V} (h : H a = some (.lst vs)) (r : RelPs K H xs vs) : RelO K H m a (.pl xs)
  | ml {xs : List D} {vs : List V} (h : H a = some (.lst vs)) (r : RelDs K H m xs vs) : RelO K H m a (.ml xs)
  | fz {xs : List PD} {vs : List V} (h : FzL K H a vs) (r : RelPs K H xs vs) : RelO K H m a (.fz xs)
  | dc {kvs : List (PD × D)} {us : List (L2.Key × V)} (h : H a = some (.dK us)) (r : RelKs K H m kvs us) : RelO K H m a (.dc kvs)
  | ob {c : String} {fs : List (String × D)} {C dx : Addr} {vs : List (Str × V)} (h : H a = some (.ins C dx vs)) (cl : ClsAt K C c) (r : RelFs K H m fs vs) : RelO K H m a (.ob c fs)
def O.mut : O → Bool
  | .fz _ => false
  | _ => true
structure RelS (K : Fg) (H : Hp) (m : List Addr) (S : Sto) : Prop where
  len : m.length = S.length
  ob : ∀ (n : Nat) (o : O), S[n]? = some o → ∃ a, m[n]? = some a ∧ RelO K H m a o
  inj : ∀ (i j : Nat) (a : Addr) (o u : O), m[i]? = some a → m[j]? = some a → S[i]? = some o → S[j]? = some u → o.mut = true → u.mut = true → i = j
section
variable {K : Fg} {H H' : Hp} {m m' : List Addr} {S S' : Sto} {a p : Addr}
theorem RelO.lst {o : O} (h : RelO K H m a o) (hl : o.isL = true) : ∃ vs, SqL K H a vs ∧ RelDs K H m o.ds vs := by
  cases h with
  | pl h r => exact ⟨_, SqL.of h, r.up⟩
  | ml h r => exact ⟨_, SqL.of h, r⟩
  | fz h r => exact ⟨_, h.seq, r.up⟩
  | dc h r => cases hl
  | ob h cl r => cases hl
theorem RelO.mutH {o : O} (h : RelO K H m a o) (q : o.mut = true) : ∃ vs, H a = some vs := by
  cases h with
  | pl h r => exact ⟨_, h⟩
  | ml h r => exact ⟨_, h⟩
  | fz h r => cases q
  | dc h r => exact ⟨_, h⟩
  | ob h cl r => exact ⟨_, h⟩
theorem RelS.lst (R : RelS K H m S) {n : Nat} {xs : List D} (h : Sto.lst S n = some xs) : ∃ a vs, m[n]? = some a ∧ SqL K H a vs ∧ RelDs K H m xs vs := by
  unfold Sto.lst at h
  cases e : S[n]? with
  | none => rw [e] at h; cases h
  | some o =>
  rw [e] at h
  dsimp only at h
  split at h <;> cases h
  rename_i hl
  obtain ⟨a, ea, r⟩ := R.ob n o e
  obtain ⟨vs, h1, h2⟩ := r.lst hl
  exact ⟨a, vs, ea, h1, h2⟩
/-- what may be written over: nothing that values are read from -/
def Wr (H : Hp) (p : Addr) : Prop := H p = none ∨ (∃ xs, H p = some (.lst xs)) ∨ ∃ C dx fs, H p = some (.ins C dx fs)
/-- what a change of the heap at one place leaves -/
theorem kp_updW {o : HO} (h : Wr H p) : Kp K H (upd H p o) := ⟨fun b vs q => by
  rcases q with q | q
  · refine .inl ?_
    have hb : b ≠ p := by
      rintro rfl
      rcases h with h | ⟨xs, h⟩ | ⟨C, dx, fs, h⟩ <;> rcases q with q | ⟨u, q⟩ <;> rw [h] at q <;> cases q
    rcases q with q | ⟨u, q⟩
    · exact .inl (by rw [upd_ne hb]; exact q)
    · exact .inr ⟨u, by rw [upd_ne hb]; exact q⟩
  · exact .inr q, fun b fs q => by
  rw [upd_ne]
  · exact q
  · rintro rfl
    rcases h with h | ⟨xs, h⟩ | ⟨C, dx, fs, h⟩ <;> rw [h] at q <;> cases q⟩
theorem kp_upd {o : HO} (h : H p = none ∨ ∃ xs, H p = some (.lst xs)) : Kp K H (upd H p o) := kp_updW (h.imp id .inl)
theorem fz_updW {o : HO} {vs : List V} (h : Wr H p) (q : FzL K H a vs) : FzL K (upd H p o) a vs := by
  rcases q with ⟨u, q⟩ | q
  · refine .inl ⟨u, ?_⟩
    rw [upd_ne]
    · exact q
    · rintro rfl
      rcases h with h | ⟨xs, h⟩ | ⟨C, dx, fs, h⟩ <;> rw [h] at q <;> cases q
  · exact .inr q
theorem fz_upd {o : HO} {vs : List V} (h : H p = none ∨ ∃ xs, H p = some (.lst xs)) (q : FzL K H a vs) : FzL K (upd H p o) a vs := fz_updW (h.imp id .inl) q
/-- a new object -/
theorem RelS.new (R : RelS K H m S) (hp : H p = none) {u : HO} {o : O} (h : RelO K (upd H p u) (m ++ [p]) p o) (hu : o.mut = true) : RelS K (upd H p u) (m ++ [p]) (S ++ [o]) := by
  have kp : Kp K H (upd H p u) := kp_upd (.inl hp)
  have old : ∀ n q, S[n]? = some q → ∃ a, (m ++ [p])[n]? = some a ∧ RelO K (upd H p u) (m ++ [p]) a q := fun n q e => by
    obtain ⟨a, ea, r⟩ := R.ob n q e
    refine ⟨a, pre_get ea, ?_⟩
    cases r with
    | pl h r => exact .pl (by rw [upd_ne (ne_of_none h hp)]; exact h) (r.mono kp)
    | ml h r => exact .ml (by rw [upd_ne (ne_of_none h hp)]; exact h) (r.mono kp _)
    | fz h r => exact .fz (fz_upd (.inl hp) h) (r.mono kp)
    | dc h r => exact .dc (by rw [upd_ne (ne_of_none h hp)]; exact h) (r.mono kp _)
    | ob h cl r => exact .ob (by rw [upd_ne (ne_of_none h hp)]; exact h) cl (r.mono kp _)
  have cs : ∀ {n : Nat} {q : O}, (S ++ [o])[n]? = some q → S[n]? = some q ∨ (n = S.length ∧ q = o) := fun {n q} e => by
    rw [List.getElem?_append] at e
    split at e
    · exact .inl e
    · rename_i hn
      rcases Nat.lt_or_ge S.length n with h1 | h1
      · have : n - S.length ≠ 0 := by omega
        rw [List.getElem?_singleton, if_neg this] at e; cases e
      · have e1 : n = S.length := by omega
        subst e1
        simp at e
        exact .inr ⟨rfl, e.symm⟩
  refine ⟨by simp [R.len], fun n q e => ?_, fun i j a q r hi hj e1 e2 m1 m2 => ?_⟩
  · rcases cs e with e | ⟨rfl, rfl⟩
    · exact old n q e
    · exact ⟨p, by rw [← R.len]; simp, h⟩
  · have nold : ∀ (n : Nat) (q : O), S[n]? = some q → q.mut = true → (m ++ [p])[n]? ≠ some p := fun n q e mq z => by
      obtain ⟨b, eb, rb⟩ := R.ob n q e
      rw [pre_get eb] at z
      cases z
      obtain ⟨vs, hv⟩ := rb.mutH mq
      rw [hp] at hv; cases hv
    have hp' : (m ++ [p])[S.length]? = some p := by rw [← R.len]; simp
    rcases cs e1 with f1 | ⟨g1, g2⟩ <;> rcases cs e2 with f2 | ⟨g3, g4⟩
    · obtain ⟨b, eb, _⟩ := R.ob i q f1
      obtain ⟨c, ec, _⟩ := R.ob j r f2
      have x1 := pre_get (t := [p]) eb
      have x2 := pre_get (t := [p]) ec
      rw [hi] at x1; cases x1
      rw [hj] at x2; cases x2
      exact R.inj i j a q r eb ec f1 f2 m1 m2
    · rw [g3, hp'] at hj; cases hj
      exact absurd hi (nold i q f1 m1)
    · rw [g1, hp'] at hi; cases hi
      exact absurd hj (nold j r f2 m2)
    · rw [g1, g3]
theorem Ext.new (hp : H p = none) {u : HO} : Ext K H m (upd H p u) (m ++ [p]) := ⟨kp_upd (.inl hp), _, rfl⟩
/-- a heap that has one thing more, of which the store knows nothing -/
theorem RelS.more (R : RelS K H m S) (hp : H p = none) {u : HO} : RelS K (upd H p u) m S := by
  have kp : Kp K H (upd H p u) := kp_upd (.inl hp)
  refine ⟨R.len, fun n q e => ?_, R.inj⟩
  obtain ⟨a, ea, r⟩ := R.ob n q e
  refine ⟨a, ea, ?_⟩
  cases r with
  | pl h r => exact .pl (by rw [upd_ne (ne_of_none h hp)]; exact h) (r.mono kp)
  | ml h r => exact .ml (by rw [upd_ne (ne_of_none h hp)]; exact h) (by have := r.mono kp []; simpa using this)
  | fz h r => exact .fz (fz_upd (.inl hp) h) (r.mono kp)
  | dc h r => exact .dc (by rw [upd_ne (ne_of_none h hp)]; exact h) (by have := r.mono kp []; simpa using this)
  | ob h cl r => exact .ob (by rw [upd_ne (ne_of_none h hp)]; exact h) cl (by have := r.mono kp []; simpa using this)
theorem Ext.more (hp : H p = none) {u : HO} : Ext K H m (upd H p u) m := ⟨kp_upd (.inl hp), [], by simp⟩
/-- an object written -/
theorem RelS.putW (R : RelS K H m S) {n : Nat} {o o' : O} (hn : S[n]? = some o) (mo : o.mut = true) (ha : m[n]? = some a) (hH : Wr H a) {u : HO} (h : RelO K (upd H a u) m a o') (mo' : o'.mut = true) : RelS K (upd H a u) m (S.set n o') := by
  have kp : Kp K H (upd H a u) := kp_updW hH
  have hlt : n < S.length := (List.getElem?_eq_some_iff.mp hn).1
  have cs : ∀ {k : Nat} {q : O}, (S.set n o')[k]? = some q → (k = n ∧ q = o') ∨ (k ≠ n ∧ S[k]? = some q) := fun {k q} e => by
    by_cases hk : k = n
    · subst hk
      rw [List.getElem?_set_self hlt] at e
      exact .inl ⟨rfl, (Option.some.inj e).symm⟩
    · rw [List.getElem?_set_ne (Ne.symm hk)] at e
      exact .inr ⟨hk, e⟩
  refine ⟨by simp [R.len], fun k q e => ?_, fun i j b q r hi hj e1 e2 m1 m2 => ?_⟩
  · rcases cs e with ⟨rfl, rfl⟩ | ⟨hk, e⟩
    · exact ⟨a, ha, h⟩
    · obtain ⟨b, eb, r⟩ := R.ob k q e
      refine ⟨b, eb, ?_⟩
      have nb : q.mut = true → b ≠ a := fun mq z => hk (R.inj k n a q o (z ▸ eb) ha e hn mq mo)
      cases r with
      | pl h r => exact .pl (by rw [upd_ne (nb rfl)]; exact h) (r.mono kp)
      | ml h r => exact .ml (by rw [upd_ne (nb rfl)]; exact h) (by have := r.mono kp []; simpa using this)
      | fz h r => exact .fz (fz_updW hH h) (r.mono kp)
      | dc h r => exact .dc (by rw [upd_ne (nb rfl)]; exact h) (by have := r.mono kp []; simpa using this)
      | ob h cl r => exact .ob (by rw [upd_ne (nb rfl)]; exact h) cl (by have := r.mono kp []; simpa using this)
  · rcases cs e1 with ⟨g1, g2⟩ | ⟨h1, f1⟩ <;> rcases cs e2 with ⟨g3, g4⟩ | ⟨h2, f2⟩
    · rw [g1, g3]
    · exact R.inj i j b o r hi hj (g1 ▸ hn) f2 mo m2
    · exact R.inj i j b q o hi hj f1 (g3 ▸ hn) m1 mo
    · exact R.inj i j b q r hi hj f1 f2 m1 m2
theorem RelS.put (R : RelS K H m S) {n : Nat} {o o' : O} {vs : List V} (hn : S[n]? = some o) (mo : o.mut = true) (ha : m[n]? = some a) (hH : H a = some (.lst vs)) {u : HO} (h : RelO K (upd H a u) m a o') (mo' : o'.mut = true) : RelS K (upd H a u) m (S.set n o') := R.putW hn mo ha (.inr (.inl ⟨vs, hH⟩)) h mo'
theorem Ext.putW (hH : Wr H a) {u : HO} : Ext K H m (upd H a u) m := ⟨kp_updW hH, [], by simp⟩
theorem Ext.put {vs : List V} (hH : H a = some (.lst vs)) {u : HO} : Ext K H m (upd H a u) m := ⟨kp_upd (.inr ⟨vs, hH⟩), [], by simp⟩
end

/-! ### names -/
structure RelN (K : Fg) (H : Hp) (m : List Addr) (ρ : Nv) (σ : L2.St) : Prop where
  len : ρ.length = σ.length
  nv : ∀ (i : Nat) (d : D), ρ[i]? = some (some d) → ∃ v, σ[i]? = some (some v) ∧ RelD K H m d v
section
variable {K : Fg} {H H' : Hp} {m m' : List Addr} {ρ : Nv} {σ : L2.St}
theorem RelN.ext (e : Ext K H m H' m') (h : RelN K H m ρ σ) : RelN K H' m' ρ σ :=
  ⟨h.len, fun i d q => let ⟨v, e1, r⟩ := h.nv i d q; ⟨v, e1, r.ext e⟩⟩
theorem RelN.set (h : RelN K H m ρ σ) {d : D} {v : V} (r : RelD K H m d v) (i : Nat) : RelN K H m (ρ.set i (some d)) (σ.set i (some v)) := by
  refine ⟨by simp [h.len], fun j e q => ?_⟩
  by_cases hj : i = j
  · subst hj
    by_cases hl : i < ρ.length
    · rw [List.getElem?_set_self hl] at q
      cases q
      exact ⟨v, List.getElem?_set_self (by rw [← h.len]; exact hl), r⟩
    · rw [List.getElem?_eq_none (by simpa using hl)] at q; cases q
  · rw [List.getElem?_set_ne hj] at q
    obtain ⟨w, e1, r1⟩ := h.nv j e q
    exact ⟨w, by rw [List.getElem?_set_ne hj]; exact e1, r1⟩
theorem RelN.wipe (h : RelN K H m ρ σ) : ∀ vs : List Nat, RelN K H m (wipeN ρ vs) (L2.wipe σ vs)
  | [] => h
  | v :: vs => by
    have ih := RelN.wipe h vs
    unfold wipeN L2.wipe
    refine ⟨by simp [ih.len], fun j e q => ?_⟩
    by_cases hj : v = j
    · subst hj
      by_cases hl : v < (wipeN ρ vs).length
      · rw [List.getElem?_set_self hl] at q; cases q
      · rw [List.getElem?_eq_none (by simpa using hl)] at q; cases q
    · rw [List.getElem?_set_ne hj] at q
      obtain ⟨w, e1, r1⟩ := ih.nv j e q
      exact ⟨w, by rw [List.getElem?_set_ne hj]; exact e1, r1⟩
end

/-! ### what is wanted behind an expression -/
/-- where the classes stand -/
abbrev Ca := Nat → Addr
def RelX (cA : Ca) (K : Fg) (H : Hp) (m : List Addr) (x : Ex) (c : Value) (dx : Option Addr) : Prop :=
  c = .ref (cA x.c) ∧ ∃ d fs, dx = some d ∧ H d = some (.xd fs) ∧ ∀ f y, x.fs.lookup f = some y → ∃ v, fs.lookup (Str.ofString f) = some v ∧ RelD K H m y v
section
variable (cA : Ca) (K : Fg)
def Post (m : List Addr) (H : Hp) (σ : L2.St) (W : WX) (r : Res D) (Q : VK) : Prop := match r with
  | .ok d S => ∀ m' H' v, Ext K H m H' m' → RelS K H' m' S → RelD K H' m' d v → Q v H'
  | .exc x S => ∀ m' H' c dx, Ext K H m H' m' → RelS K H' m' S → RelX cA K H' m' x c dx → W c dx σ H'
  | .stuck => False
def PostB (m : List Addr) (H : Hp) (σ : L2.St) (W : WX) (r : Res Bool) (Q : Bool → Hp → Prop) : Prop := match r with
  | .ok d S => ∀ m' H', Ext K H m H' m' → RelS K H' m' S → Q d H'
  | .exc x S => ∀ m' H' c dx, Ext K H m H' m' → RelS K H' m' S → RelX cA K H' m' x c dx → W c dx σ H'
  | .stuck => False
def PostA (m : List Addr) (H : Hp) (σ : L2.St) (W : WX) (r : Res (List D)) (Q : List V → Hp → Prop) : Prop := match r with
  | .ok d S => ∀ m' H' v, Ext K H m H' m' → RelS K H' m' S → RelDs K H' m' d v → Q v H'
  | .exc x S => ∀ m' H' c dx, Ext K H m H' m' → RelS K H' m' S → RelX cA K H' m' x c dx → W c dx σ H'
  | .stuck => False
/-- a reading: the expression computes f -/
def tR (W : WX) (f : Nv → Sto → Res D) : TE := fun σ H Q => ∃ m ρ S, RelN K H m ρ σ ∧ RelS K H m S ∧ Post cA K m H σ W (f ρ S) Q
def tB (W : WX) (f : Nv → Sto → Res Bool) : TT := fun σ H Q => ∃ m ρ S, RelN K H m ρ σ ∧ RelS K H m S ∧ PostB cA K m H σ W (f ρ S) Q
def tA (W : WX) (f : Nv → Sto → Res (List D)) : TA := fun σ H Q => ∃ m ρ S, RelN K H m ρ σ ∧ RelS K H m S ∧ PostA cA K m H σ W (f ρ S) Q
end
section
variable {cA : Ca} {K : Fg} {H H' : Hp} {m m' : List Addr} {σ : L2.St} {W : WX}
theorem Post.mono {r : Res D} {Q : VK} (e : Ext K H m H' m') (h : Post cA K m H σ W r Q) : Post cA K m' H' σ W r Q := by
  cases r with
  | ok d S => exact fun m2 H2 v e2 => h m2 H2 v (e.trans e2)
  | exc x S => exact fun m2 H2 c dx e2 => h m2 H2 c dx (e.trans e2)
  | stuck => exact h
theorem PostB.mono {r : Res Bool} {Q : Bool → Hp → Prop} (e : Ext K H m H' m') (h : PostB cA K m H σ W r Q) : PostB cA K m' H' σ W r Q := by
  cases r with
  | ok d S => exact fun m2 H2 e2 => h m2 H2 (e.trans e2)
  | exc x S => exact fun m2 H2 c dx e2 => h m2 H2 c dx (e.trans e2)
  | stuck => exact h
theorem PostA.mono {r : Res (List D)} {Q : List V → Hp → Prop} (e : Ext K H m H' m') (h : PostA cA K m H σ W r Q) : PostA cA K m' H' σ W r Q := by
  cases r with
  | ok d S => exact fun m2 H2 v e2 => h m2 H2 v (e.trans e2)
  | exc x S => exact fun m2 H2 c dx e2 => h m2 H2 c dx (e.trans e2)
  | stuck => exact h
theorem Post.bind {r : Res D} {f : D → Sto → Res D} {Q : VK} (h : Post cA K m H σ W (r.bind f) Q) :
    Post cA K m H σ W r fun v H1 => ∃ m1 d S1, r = .ok d S1 ∧ Ext K H m H1 m1 ∧ RelS K H1 m1 S1 ∧ RelD K H1 m1 d v ∧ Post cA K m1 H1 σ W (f d S1) Q := by
  cases r with
  | ok d S => exact fun m1 H1 v e rs rd => ⟨m1, d, S, rfl, e, rs, rd, Post.mono e h⟩
  | exc x S => exact h
  | stuck => exact h
theorem Post.bindB {r : Res Bool} {f : Bool → Sto → Res D} {Q : VK} (h : Post cA K m H σ W (r.bind f) Q) :
    PostB cA K m H σ W r fun b H1 => ∃ m1 S1, r = .ok b S1 ∧ Ext K H m H1 m1 ∧ RelS K H1 m1 S1 ∧ Post cA K m1 H1 σ W (f b S1) Q := by
  cases r with
  | ok d S => exact fun m1 H1 e rs => ⟨m1, S, rfl, e, rs, Post.mono e h⟩
  | exc x S => exact h
  | stuck => exact h
theorem Post.bindA {r : Res (List D)} {f : List D → Sto → Res D} {Q : VK} (h : Post cA K m H σ W (r.bind f) Q) :
    PostA cA K m H σ W r fun vs H1 => ∃ m1 ds S1, r = .ok ds S1 ∧ Ext K H m H1 m1 ∧ RelS K H1 m1 S1 ∧ RelDs K H1 m1 ds vs ∧ Post cA K m1 H1 σ W (f ds S1) Q := by
  cases r with
  | ok d S => exact fun m1 H1 v e rs rd => ⟨m1, d, S, rfl, e, rs, rd, Post.mono e h⟩
  | exc x S => exact h
  | stuck => exact h
theorem PostB.bind {r : Res D} {f : D → Sto → Res Bool} {Q : Bool → Hp → Prop} (h : PostB cA K m H σ W (r.bind f) Q) :
    Post cA K m H σ W r fun v H1 => ∃ m1 d S1, r = .ok d S1 ∧ Ext K H m H1 m1 ∧ RelS K H1 m1 S1 ∧ RelD K H1 m1 d v ∧ PostB cA K m1 H1 σ W (f d S1) Q := by
  cases r with
  | ok d S => exact fun m1 H1 v e rs rd => ⟨m1, d, S, rfl, e, rs, rd, PostB.mono e h⟩
  | exc x S => exact h
  | stuck => exact h
theorem PostB.bindB {r : Res Bool} {f : Bool → Sto → Res Bool} {Q : Bool → Hp → Prop} (h : PostB cA K m H σ W (r.bind f) Q) :
    PostB cA K m H σ W r fun b H1 => ∃ m1 S1, r = .ok b S1 ∧ Ext K H m H1 m1 ∧ RelS K H1 m1 S1 ∧ PostB cA K m1 H1 σ W (f b S1) Q := by
  cases r with
  | ok d S => exact fun m1 H1 e rs => ⟨m1, S, rfl, e, rs, PostB.mono e h⟩
  | exc x S => exact h
  | stuck => exact h
theorem PostA.bind {r : Res D} {f : D → Sto → Res (List D)} {Q : List V → Hp → Prop} (h : PostA cA K m H σ W (r.bind f) Q) :
    Post cA K m H σ W r fun v H1 => ∃ m1 d S1, r = .ok d S1 ∧ Ext K H m H1 m1 ∧ RelS K H1 m1 S1 ∧ RelD K H1 m1 d v ∧ PostA cA K m1 H1 σ W (f d S1) Q := by
  cases r with
  | ok d S => exact fun m1 H1 v e rs rd => ⟨m1, d, S, rfl, e, rs, rd, PostA.mono e h⟩
  | exc x S => exact h
  | stuck => exact h
theorem PostA.bindA {r : Res (List D)} {f : List D → Sto → Res (List D)} {Q : List V → Hp → Prop} (h : PostA cA K m H σ W (r.bind f) Q) :
    PostA cA K m H σ W r fun vs H1 => ∃ m1 ds S1, r = .ok ds S1 ∧ Ext K H m H1 m1 ∧ RelS K H1 m1 S1 ∧ RelDs K H1 m1 ds vs ∧ PostA cA K m1 H1 σ W (f ds S1) Q := by
  cases r with
  | ok d S => exact fun m1 H1 v e rs rd => ⟨m1, d, S, rfl, e, rs, rd, PostA.mono e h⟩
  | exc x S => exact h
  | stuck => exact h
theorem PostB.imp {r : Res Bool} {Q Q' : Bool → Hp → Prop} (h : PostB cA K m H σ W r Q) (f : ∀ v H', Q v H' → Q' v H') : PostB cA K m H σ W r Q' := by
  cases r with
  | ok d S => exact fun m1 H1 e rs => f _ _ (h m1 H1 e rs)
  | exc x S => exact h
  | stuck => exact h
theorem PostA.imp {r : Res (List D)} {Q Q' : List V → Hp → Prop} (h : PostA cA K m H σ W r Q) (f : ∀ v H', Q v H' → Q' v H') : PostA cA K m H σ W r Q' := by
  cases r with
  | ok d S => exact fun m1 H1 v e rs rd => f _ _ (h m1 H1 v e rs rd)
  | exc x S => exact h
  | stuck => exact h
theorem Post.imp {r : Res D} {Q Q' : VK} (h : Post cA K m H σ W r Q) (f : ∀ v H', Q v H' → Q' v H') : Post cA K m H σ W r Q' := by
  cases r with
  | ok d S => exact fun m1 H1 v e rs rd => f _ _ (h m1 H1 v e rs rd)
  | exc x S => exact h
  | stuck => exact h
end
end PH

set_option maxHeartbeats 4000000
/-! PH, part C: each operation by values does what the language says. -/
namespace PH
open L2 PySem PySem.Spec PyProof.Rows
section
variable {cA : Ca} {X : Cx} {pins : List (Addr × Obj)} {σ : L2.St} {H : Hp} {s : Shared} {m : List Addr} {S : Sto} {W : WX} {Q : VK} {x y z : V} {u v t : Value} {d e : D}

/-- a datum is handed on -/
theorem Post.dat {x : PD} {v : V} (rs : RelS X.K H m S) (h : Post cA X.K m H σ W (ret1 x S) Q) (r : RelP X.K H x v) : Q v H := h m H v .refl rs (.p r)
/-- a new object is handed on -/
theorem Post.newl {o : O} {vs : List V} (rs : RelS X.K H m S) (h : Post cA X.K m H σ W (new o S) Q) (hu : o.mut = true) (r : ∀ p, H p = none → RelO X.K (upd H p (.lst vs)) (m ++ [p]) p o) : ∀ p, H p = none → Q (.ref p) (upd H p (.lst vs)) := fun p hp =>
  h (m ++ [p]) _ (.ref p) (Ext.new hp) (rs.new hp (r p hp) hu) (.ref (by rw [← rs.len]; simp))
theorem relO_pl {xs : List PD} {vs : List V} (r : RelPs X.K H xs vs) (p : Addr) (hp : H p = none) : RelO X.K (upd H p (.lst vs)) (m ++ [p]) p (.pl xs) := .pl upd_same (r.mono (kp_upd (.inl hp)))
theorem relO_ml {xs : List D} {vs : List V} (r : RelDs X.K H m xs vs) (p : Addr) (hp : H p = none) : RelO X.K (upd H p (.lst vs)) (m ++ [p]) p (.ml xs) := .ml upd_same (r.mono (kp_upd (.inl hp)) _)
/-- a new tuple of data is handed on -/
theorem Post.newt {xs : List PD} {vs : List V} (rs : RelS X.K H m S) (h : Post cA X.K m H σ W (ret1 (.tup xs) S) Q) (r : RelPs X.K H xs vs) : ∀ p, H p = none → Q (.ref p) (upd H p (.tup vs)) := fun p hp =>
  h m _ (.ref p) (Ext.more hp) (rs.more hp) (.p (.tup (SqT.of upd_same) (r.mono (kp_upd (.inl hp)))))

theorem allP_none_length : ∀ {xs : List D} {ys : List PD}, allP xs = some ys → xs.length = ys.length
  | [], _, e => by simp only [allP, Option.some.injEq] at e; subst e; rfl
  | .p x :: xs, ys, e => by
    cases q : allP xs with
    | none => simp [allP, q] at e
    | some zs =>
      simp only [allP, q, Option.map_some, Option.some.injEq] at e
      subst e
      simp [allP_none_length q]
  | .ref _ :: _, ys, e => by simp [allP] at e
  | .mt _ :: _, ys, e => by simp [allP] at e

/-! ### truth -/
theorem sv_tru {k : Bool} {S' : Sto} (rs : RelS X.K H m S) (rd : RelD X.K H m d x) (h : truI d S = .ok k S') : TruV X.K x H k ∧ S' = S := by
  unfold truI at h
  split at h
  all_goals (try (simp only [Res.ok.injEq] at h; obtain ⟨h1, h2⟩ := h; subst h1; subst h2))
  · cases rd with | p r => cases r; exact ⟨rfl, rfl⟩
  · cases rd with | p r => cases r; exact ⟨rfl, rfl⟩
  · cases rd with | p r => cases r; exact ⟨rfl, rfl⟩
  · cases rd with
    | p r =>
      cases r with
      | str t hs =>
        refine ⟨⟨by rw [len_mkS, line_eq]; exact hs.1, ?_⟩, rfl⟩
        rw [len_mkS]
        clear hs
        rename_i z
        cases z with
        | nil => rfl
        | cons c r => simp; omega
  · cases rd with
    | p r =>
      cases r with
      | tup hq r =>
        refine ⟨.inr (.inl ⟨_, hq, ?_⟩), rfl⟩
        cases r <;> rfl
  · cases rd with
    | mt hq r =>
      refine ⟨.inr (.inl ⟨_, hq, ?_⟩), rfl⟩
      cases r <;> rfl
  · cases h
  · split at h
    · rename_i n xs hx
      simp only [Res.ok.injEq] at h
      obtain ⟨h1, h2⟩ := h
      subst h1; subst h2
      cases rd with
      | ref ha =>
        obtain ⟨a, vs, ea, hq, r⟩ := rs.lst hx
        rw [ha] at ea; cases ea
        refine ⟨.inl ⟨_, hq, ?_⟩, rfl⟩
        cases r <;> rfl
    · cases h

/-! ### + - * // % ** -/
theorem relPs_rep {K : Fg} {xs : List PD} {vs : List V} (h : RelPs K H xs vs) : ∀ n : Nat, RelPs K H (List.replicate n xs).flatten (List.replicate n vs).flatten
  | 0 => .nil
  | n + 1 => by rw [List.replicate_succ, List.replicate_succ, List.flatten_cons, List.flatten_cons]; exact h.append (relPs_rep h n)
theorem sv_bin {op : Operator} (I : Inv X pins σ H s) (rx : RelV x v) (ry : RelV y u) (rs : RelS X.K H m S) (dx : RelD X.K H m d x) (dy : RelD X.K H m e y)
    (h : Post cA X.K m H σ W (binI op d e S) Q) : wpAny (model X.prog X.w) X.A (binaryOp op v u) (EP X pins σ Q) X.xe s := by
  unfold binI at h
  split at h
  · cases dx with | p dx => cases dx; cases dy with | p dy => cases dy; exact op_add pins s σ H _ _ v u Q I rx ry ⟨_, _, rfl, rfl, h.dat rs (.int _)⟩
  · cases dx with | p dx => cases dx; cases dy with | p dy => cases dy; exact op_sub pins s σ H _ _ v u Q I rx ry ⟨_, _, rfl, rfl, h.dat rs (.int _)⟩
  · split at h
    · rename_i i j hc
      cases dx with | p dx => cases dx; cases dy with | p dy => cases dy; exact op_mul pins s σ H _ _ v u Q I rx ry ⟨_, _, rfl, rfl, by rcases hc with hc | hc; exact .inl (by omega); exact .inr (by omega), h.dat rs (.int _)⟩
    · exact h.elim
  · split at h
    · rename_i i j hc
      cases dx with | p dx => cases dx; cases dy with | p dy => cases dy; exact op_fdiv pins s σ H _ _ v u Q I rx ry ⟨_, _, rfl, rfl, hc, h.dat rs (.int _)⟩
    · exact h.elim
  · split at h
    · rename_i i j hc
      cases dx with | p dx => cases dx; cases dy with | p dy => cases dy; exact op_mod pins s σ H _ _ v u Q I rx ry ⟨_, _, rfl, rfl, hc, h.dat rs (.int _)⟩
    · exact h.elim
  · split at h
    · rename_i i j hc
      cases dx with | p dx => cases dx; cases dy with | p dy => cases dy; exact op_pow pins s σ H _ _ v u Q I rx ry ⟨_, _, rfl, rfl, hc, h.dat rs (.int _)⟩
    · exact h.elim
  · split at h
    · rename_i a b hc
      cases dx with
      | p dx =>
        cases dx with
        | str _ h1 =>
          cases dy with
          | p dy =>
            cases dy with
            | str _ h2 =>
              refine op_add_str pins s σ H _ _ v u Q I rx ry ⟨_, _, rfl, rfl, by rw [len_mkS, len_mkS, line_eq]; exact hc, ?_⟩
              have e1 : mkS a ++ mkS b = mkS (a ++ b) := by
                show (⟨a.toArray ++ b.toArray⟩ : Str) = ⟨(a ++ b).toArray⟩
                simp
              rw [e1]
              exact h.dat rs (.str _ ⟨by simpa using hc, fun c q => (List.mem_append.mp q).elim (h1.2 c) (h2.2 c)⟩)
    · exact h.elim
  · split at h
    · rename_i a b hc
      cases dx with
      | p dx =>
        cases dx with
        | tup q1 r1 =>
          cases dy with
          | p dy =>
            cases dy with
            | tup q2 r2 =>
              have l1 := r1.length
              have l2 := r2.length
              refine op_catA pins s σ H _ _ v u Q I rx ry ⟨_, _, _, _, rfl, rfl, q1, q2, by rw [line_eq, ← l1, ← l2]; exact hc, fun z => ?_, fun _ z => ?_, fun _ _ => ?_⟩
              · subst z
                cases r1
                exact h.dat rs (.tup q2 (by simpa using r2))
              · subst z
                cases r2
                exact h.dat rs (.tup q1 (by simpa using r1))
              · exact h.newt rs (r1.append r2)
    · exact h.elim
  · split at h
    · rename_i m1 n1 _ _ a b ha hb
      split at h
      · rename_i hc
        cases dx with
        | ref hx =>
          cases dy with
          | ref hy =>
            obtain ⟨p, ep, rp⟩ := rs.ob _ _ ha
            rw [hx] at ep; cases ep
            obtain ⟨q, eq, rq⟩ := rs.ob _ _ hb
            rw [hy] at eq; cases eq
            cases rp with
            | pl h1 r1 =>
              cases rq with
              | pl h2 r2 =>
                have l1 := r1.length
                have l2 := r2.length
                exact op_cat pins s σ H _ _ v u Q I rx ry ⟨_, _, _, _, rfl, rfl, h1, h2, by rw [line_eq, ← l1, ← l2]; exact hc, h.newl rs rfl (relO_pl (r1.append r2))⟩
      · exact h.elim
    · rename_i m1 n1 _ _ a b ha hb
      split at h
      · rename_i hc
        cases dx with
        | ref hx =>
          cases dy with
          | ref hy =>
            obtain ⟨p, ep, rp⟩ := rs.ob _ _ ha
            rw [hx] at ep; cases ep
            obtain ⟨q, eq, rq⟩ := rs.ob _ _ hb
            rw [hy] at eq; cases eq
            cases rp with
            | pl h1 r1 =>
              cases rq with
              | ml h2 r2 =>
                have l1 := r1.length
                have l2 := r2.length
                exact op_cat pins s σ H _ _ v u Q I rx ry ⟨_, _, _, _, rfl, rfl, h1, h2, by rw [line_eq, ← l1, ← l2]; exact hc, h.newl rs rfl (relO_ml (r1.up.append r2))⟩
      · exact h.elim
    · rename_i m1 n1 _ _ a b ha hb
      split at h
      · rename_i hc
        cases dx with
        | ref hx =>
          cases dy with
          | ref hy =>
            obtain ⟨p, ep, rp⟩ := rs.ob _ _ ha
            rw [hx] at ep; cases ep
            obtain ⟨q, eq, rq⟩ := rs.ob _ _ hb
            rw [hy] at eq; cases eq
            cases rp with
            | ml h1 r1 =>
              cases rq with
              | pl h2 r2 =>
                have l1 := r1.length
                have l2 := r2.length
                exact op_cat pins s σ H _ _ v u Q I rx ry ⟨_, _, _, _, rfl, rfl, h1, h2, by rw [line_eq, ← l1, ← l2]; exact hc, h.newl rs rfl (relO_ml (r1.append r2.up))⟩
      · exact h.elim
    · rename_i m1 n1 _ _ a b ha hb
      split at h
      · rename_i hc
        cases dx with
        | ref hx =>
          cases dy with
          | ref hy =>
            obtain ⟨p, ep, rp⟩ := rs.ob _ _ ha
            rw [hx] at ep; cases ep
            obtain ⟨q, eq, rq⟩ := rs.ob _ _ hb
            rw [hy] at eq; cases eq
            cases rp with
            | ml h1 r1 =>
              cases rq with
              | ml h2 r2 =>
                have l1 := r1.length
                have l2 := r2.length
                exact op_cat pins s σ H _ _ v u Q I rx ry ⟨_, _, _, _, rfl, rfl, h1, h2, by rw [line_eq, ← l1, ← l2]; exact hc, h.newl rs rfl (relO_ml (r1.append r2))⟩
      · exact h.elim
    · exact h.elim
  · split at h
    · rename_i a b hc
      cases dx with
      | mt q1 r1 =>
        cases dy with
        | mt q2 r2 =>
          have l1 := r1.length
          have l2 := r2.length
          have kp : ∀ {p vs}, H p = none → Kp X.K H (upd H p (.tup vs)) := fun z => kp_upd (.inl z)
          refine op_catA pins s σ H _ _ v u Q I rx ry ⟨_, _, _, _, rfl, rfl, q1, q2, by rw [line_eq, ← l1, ← l2]; exact hc, fun z => ?_, fun _ z => ?_, fun _ _ p hp => ?_⟩
          · subst z
            cases r1
            exact h m H _ (Ext.refl) rs (.mt q2 (by simpa using r2))
          · subst z
            cases r2
            exact h m H _ (Ext.refl) rs (.mt q1 (by simpa using r1))
          · exact h m _ (.ref p) (Ext.more hp) (rs.more hp) (.mt (SqT.of upd_same) (by simpa using RelDs.mono (kp hp) [] ((r1).append (r2))))
    · exact h.elim
  · split at h
    · rename_i a b hc
      cases dx with
      | p d1 => cases d1 with | tup q1 r1 =>
        cases dy with
        | mt q2 r2 =>
          have l1 := r1.length
          have l2 := r2.length
          have kp : ∀ {p vs}, H p = none → Kp X.K H (upd H p (.tup vs)) := fun z => kp_upd (.inl z)
          refine op_catA pins s σ H _ _ v u Q I rx ry ⟨_, _, _, _, rfl, rfl, q1, q2, by rw [line_eq, ← l1, ← l2]; exact hc, fun z => ?_, fun _ z => ?_, fun _ _ p hp => ?_⟩
          · subst z
            cases r1
            exact h m H _ (Ext.refl) rs (.mt q2 (by simpa using r2))
          · subst z
            cases r2
            exact h m H _ (Ext.refl) rs (.mt q1 (by simpa using r1.up (m := m)))
          · exact h m _ (.ref p) (Ext.more hp) (rs.more hp) (.mt (SqT.of upd_same) (by simpa using RelDs.mono (kp hp) [] ((r1.up (m := m)).append (r2))))
    · exact h.elim
  · split at h
    · rename_i a b hc
      cases dx with
      | mt q1 r1 =>
        cases dy with
        | p d2 => cases d2 with | tup q2 r2 =>
          have l1 := r1.length
          have l2 := r2.length
          have kp : ∀ {p vs}, H p = none → Kp X.K H (upd H p (.tup vs)) := fun z => kp_upd (.inl z)
          refine op_catA pins s σ H _ _ v u Q I rx ry ⟨_, _, _, _, rfl, rfl, q1, q2, by rw [line_eq, ← l1, ← l2]; exact hc, fun z => ?_, fun _ z => ?_, fun _ _ p hp => ?_⟩
          · subst z
            cases r1
            exact h m H _ (Ext.refl) rs (.mt q2 (by simpa using r2.up (m := m)))
          · subst z
            cases r2
            exact h m H _ (Ext.refl) rs (.mt q1 (by simpa using r1))
          · exact h m _ (.ref p) (Ext.more hp) (rs.more hp) (.mt (SqT.of upd_same) (by simpa using RelDs.mono (kp hp) [] ((r1).append (r2.up (m := m)))))
    · exact h.elim
  · split at h
    · rename_i n k a ha
      split at h
      · rename_i hc
        obtain ⟨c1, c2, c3⟩ := hc
        cases dx with
        | ref hx =>
          cases dy with
          | p dy => cases dy with | int _ =>
            obtain ⟨p, ep, rp⟩ := rs.ob _ _ ha
            rw [hx] at ep; cases ep
            cases rp with
            | pl h1 r1 =>
              have l1 := r1.length
              exact op_rep pins s σ H _ _ v u Q I rx ry ⟨_, _, _, rfl, rfl, h1, by omega, by omega, by rw [line_eq, ← l1]; exact c3, h.newl rs rfl (relO_pl (relPs_rep r1 _))⟩
      · exact h.elim
    · exact h.elim
  · exact h.elim
theorem sv_neg (I : Inv X pins σ H s) (rx : RelV x v) (rs : RelS X.K H m S) (dx : RelD X.K H m d x)
    (h : Post cA X.K m H σ W (negI d S) Q) : wpAny (model X.prog X.w) X.A (unaryOp .USub v) (EP X pins σ Q) X.xe s := by
  unfold negI at h
  split at h
  · cases dx with | p dx => cases dx; exact un_neg pins s σ H _ v Q I rx ⟨_, rfl, h.dat rs (.int _)⟩
  · exact h.elim

/-! ### data as the library's data -/
theorem strOk_mkS {s : Cs} (h : okS s) : PyData.strOk (mkS s) = true := by
  unfold PyData.strOk mkS
  rw [← Array.all_toList]
  simp only [List.all_eq_true, decide_eq_true_eq]
  exact h.2
mutual
theorem RelP.dp {K : Fg} : ∀ {x : PD} {v : V}, RelP K H x v → Dp K H v x.py ∧ x.py.canLay0 = true
  | _, _, .non => ⟨.non, rfl⟩
  | _, _, .bl b => ⟨.bl b, rfl⟩
  | _, _, .int i => ⟨.int i, rfl⟩
  | _, _, .str s h => ⟨.str _, strOk_mkS h⟩
  | _, _, .tup h r => by
    obtain ⟨a, b⟩ := RelPs.dp r
    exact ⟨.tup h a, by simp only [PD.py, PyData.canLay0]; exact b⟩
theorem RelPs.dp {K : Fg} : ∀ {xs : List PD} {vs : List V}, RelPs K H xs vs → DpAll K H vs (PD.pys xs) ∧ PyData.canLayAll0 (PD.pys xs) = true
  | _, _, .nil => ⟨.nil, rfl⟩
  | _, _, .cons h r => by
    obtain ⟨a, b⟩ := RelP.dp h
    obtain ⟨a', b'⟩ := RelPs.dp r
    exact ⟨.cons a a', by simp only [PD.pys, PyData.canLayAll0, b, b', Bool.and_true]⟩
end
theorem toPy_dp (rs : RelS X.K H m S) : ∀ (k : Nat) (d : D) (v : V) (a : PyData), RelD X.K H m d v → toPy S k d = some a → Dp X.K H v a ∧ a.canLay0 = true := by
  intro k
  induction k with
  | zero =>
    intro d v a rd h
    cases d with
    | p x => cases rd with | p r => simp only [toPy, Option.some.injEq] at h; subst h; exact r.dp
    | ref n => simp [toPy] at h
    | mt xs => simp [toPy] at h
    | xv _ _ _ _ => simp [toPy] at h
  | succ k ih =>
    have all : ∀ (xs : List D) (vs : List V) (as : List PyData), RelDs X.K H m xs vs → xs.mapM (toPy S k) = some as → DpAll X.K H vs as ∧ PyData.canLayAll0 as = true := by
      intro xs
      induction xs with
      | nil =>
        intro vs as r h
        cases r
        simp only [List.mapM_nil, Option.pure_def, Option.some.injEq] at h
        subst h
        exact ⟨.nil, rfl⟩
      | cons x xs ih2 =>
        intro vs as r h
        cases r with
        | cons r1 r2 =>
          simp only [List.mapM_cons, Option.bind_eq_bind, Option.pure_def] at h
          obtain ⟨b, hb, h⟩ := Option.bind_eq_some_iff.mp h
          obtain ⟨bs, hbs, h⟩ := Option.bind_eq_some_iff.mp h
          simp only [Option.some.injEq] at h
          subst h
          obtain ⟨p1, p2⟩ := ih _ _ _ r1 hb
          obtain ⟨q1, q2⟩ := ih2 _ _ r2 hbs
          exact ⟨.cons p1 q1, by simp only [PyData.canLayAll0, p2, q2, Bool.and_true]⟩
    intro d v a rd h
    cases d with
    | p x => cases rd with | p r => simp only [toPy, Option.some.injEq] at h; subst h; exact r.dp
    | xv _ _ _ _ => simp [toPy] at h
    | ref n =>
      simp only [toPy] at h
      obtain ⟨xs, hx, h⟩ := Option.bind_eq_some_iff.mp h
      obtain ⟨as, ha, h⟩ := Option.map_eq_some_iff.mp h
      subst h
      cases rd with
      | ref hr =>
        obtain ⟨b, vs, eb, hq, r⟩ := rs.lst hx
        rw [hr] at eb; cases eb
        obtain ⟨p1, p2⟩ := all _ _ _ r ha
        exact ⟨.lst hq p1, p2⟩
    | mt xs =>
      simp only [toPy] at h
      obtain ⟨as, ha, h⟩ := Option.map_eq_some_iff.mp h
      subst h
      cases rd with
      | mt hq r =>
        obtain ⟨p1, p2⟩ := all _ _ _ r ha
        exact ⟨.tup hq p1, p2⟩

theorem Post.lift {o : Option Bool} {b : Bool} (e : o = some b) (h : Post cA X.K m H σ W (lift o S) Q) : Post cA X.K m H σ W (ret1 (.bl b) S) Q := by
  subst e; exact h
theorem lift_some {o : Option Bool} (h : Post cA X.K m H σ W (lift o S) Q) : ∃ b, o = some b := by
  cases o with
  | none => exact h.elim
  | some b => exact ⟨b, rfl⟩

theorem eqI_dp (rs : RelS X.K H m S) (dx : RelD X.K H m d x) (dy : RelD X.K H m e y) {b : Bool} (h : eqI d e S = some b) : ∃ a c, Dp X.K H x a ∧ Dp X.K H y c ∧ a.canLay0 = true ∧ c.canLay0 = true ∧ min a.depth c.depth ≤ 64 ∧ PyData.eqv a c = b := by
  unfold eqI at h
  split at h
  · rename_i a c ha hc
    split at h
    · rename_i hd
      obtain ⟨p1, p2⟩ := toPy_dp rs _ _ _ _ dx ha
      obtain ⟨q1, q2⟩ := toPy_dp rs _ _ _ _ dy hc
      exact ⟨a, c, p1, q1, p2, q2, by omega, Option.some.inj h⟩
    · cases h
  · cases h
/-! ### is -/
theorem isI_non {b : Bool} (dx : RelD X.K H m d x) (h : isI d (.p .non) = some b) : decide (x = .non) = b := by
  cases d with
  | p q =>
    cases dx with
    | p r => cases r <;> simp only [isI, Option.some.injEq] at h <;> subst h <;> simp
  | ref n => cases dx; simp only [isI, Option.some.injEq] at h; subst h; simp
  | mt xs => cases dx; simp only [isI, Option.some.injEq] at h; subst h; simp
  | xv _ _ _ _ => cases dx; simp only [isI, Option.some.injEq] at h; subst h; simp
end
end PH

set_option maxHeartbeats 4000000
/-! PH, part D: comparisons, places, parts, built-in functions and methods by values. -/
namespace PySem
open PySem.Spec PyProof.Rows SeqAt AutoSeq1
theorem str_eq_declines_dict (b : Str) (u : Tok) (l : Addr) (c : Value) (es : Array DictEntry) (n : Nat) (dd : Option Addr) (sl : Array (Option Value)) :
    Meets (Builtin.«str.__eq__» ⟨[.str b u, .ref l], []⟩) (fun _ R s => s.heap.get? l = some { cls := c, dict := dd, data := .dict es n, slots := sl } ∧ R (.ok (.ret .notImplemented)) s) :=
  .of_wp fun prog w A R s h => by obtain ⟨hp, g, d, tk, os⟩ := s; obtain ⟨hl, h⟩ := h; wp_walk using wpAny_loadPart' hl, wpAny_load hl; exact ⟨_, rfl, h⟩
theorem dict_eq_declines_str (l : Addr) (es : Array DictEntry) (n : Nat) (dd : Option Addr) (sl : Array (Option Value)) (b : Str) (u : Tok) :
    Meets (Builtin.«dict.__eq__» ⟨[.ref l, .str b u], []⟩) (fun _ R s => s.heap.get? l = some { cls := .type "dict", dict := dd, data := .dict es n, slots := sl } ∧ R (.ok (.ret .notImplemented)) s) :=
  .of_wp fun prog w A R s h => by obtain ⟨hp, g, d, tk, os⟩ := s; obtain ⟨hl, h⟩ := h; have f1 := F.sub_str_dict; wp_walk using wpAny_loadPart' hl; exact ⟨_, rfl, h⟩
/-- a text and a dict are not equal -/
theorem eqAt_str_dict {A : Around} {s : Shared} {l : Addr} {es : Array DictEntry} {n : Nat} {dd : Option Addr} {sl : Array (Option Value)} (b : Str) (u : Tok) (ho : s.heap.get? l = some { cls := .type "dict", dict := dd, data := .dict es n, slots := sl }) (hu : A.units < cLine) : SeqAt.EqAt A s (.str b u) (.ref l) false := fun prog w E Q h => by
  unfold eqBool
  refine wpAny_holding ?_
  refine wpAny_ite_split (fun hab => absurd (eq_of_beq hab) nofun) (fun _ => ?_)
  refine wpAny_bind ?_
  exact SeqAt.rc_eq_decline_or (k := false) (typeIs_str s b u) ⟨_, ho, rfl⟩ (by decide) F.sub_dict_str F.slot_str_eq F.slot_dict_eq_refl
    (fun _ hq => call_meets F.slot_str_eq (typeIs_str s b u) F.entry_str_eq (F.args_str_eq_2 _ _) (str_eq_declines_dict b u l (.type "dict") es n dd sl) ⟨ho, hq⟩)
    (fun _ hq => call_meets F.slot_dict_eq_refl ⟨_, ho, rfl⟩ F.entry_dict_eq (F.args_dict_eq_2 _ _) (dict_eq_declines_str l es n dd sl b u) ⟨ho, hq⟩)
    (fun _ hq => wpAny_of_eq (rfl : isSame (.str b u) (.ref l) = pure false) hq) (.inr hu) (wpAny_truthy_bool h)
end PySem
namespace PH
open L2 PySem PySem.Spec PyProof.Rows
section
variable {cA : Ca} {X : Cx} {pins : List (Addr × Obj)} {σ : L2.St} {H : Hp} {s : Shared} {m : List Addr} {S : Sto} {W : WX} {Q : VK} {x y z : V} {u v t : Value} {d e : D} {k : Nat}

theorem eq_go {b : Bool} (hu : X.A.units + 64 < cLine) (I : Inv X pins σ H s) (rx : RelV x v) (ry : RelV y u) (rs : RelS X.K H m S) (dx : RelD X.K H m d x) (dy : RelD X.K H m e y) (h : eqI d e S = some b)
    (q : Q (.bl b) H) : wpAny (model X.prog X.w) X.A (compareOp .Eq v u) (EP X pins σ Q) X.xe s := by
  obtain ⟨a, c, p1, q1, p2, q2, hd, rfl⟩ := eqI_dp rs dx dy h
  obtain ⟨as, r1⟩ := Dp.reads I a x v p1 rx
  obtain ⟨bs, r2⟩ := Dp.reads I c y u q1 ry
  exact SeqAt.compareEq_reads r1 r2 p2 q2 (by omega) ⟨.bl _, H, I, rfl, q⟩
theorem ne_go {b : Bool} (hu : X.A.units + 64 < cLine) (I : Inv X pins σ H s) (rx : RelV x v) (ry : RelV y u) (rs : RelS X.K H m S) (dx : RelD X.K H m d x) (dy : RelD X.K H m e y) (h : eqI d e S = some b)
    (q : Q (.bl (!b)) H) : wpAny (model X.prog X.w) X.A (compareOp .NotEq v u) (EP X pins σ Q) X.xe s := by
  obtain ⟨a, c, p1, q1, p2, q2, hd, rfl⟩ := eqI_dp rs dx dy h
  obtain ⟨as, r1⟩ := Dp.reads I a x v p1 rx
  obtain ⟨bs, r2⟩ := Dp.reads I c y u q1 ry
  exact SeqAt.compareNe_reads r1 r2 p2 q2 (by omega) ⟨.bl _, H, I, rfl, q⟩
theorem eqv_pys {K : Fg} : ∀ (ys : List PD) (x : PD), (PD.pys ys).any (fun z => PyData.eqv z x.py) = ys.any fun y => PD.eqv y x
  | [], _ => rfl
  | y :: ys, x => by
    have ih := eqv_pys (K := K) ys x
    show (PyData.eqv y.py x.py || (PD.pys ys).any fun z => PyData.eqv z x.py) = (PD.eqv y x || ys.any fun y => PD.eqv y x)
    rw [ih]; rfl
theorem strs_its {K : Fg} : ∀ {ys : List PD} {vs : List V} {its : List Value}, RelPs K H ys vs → Vals vs its → ys.all isStrP = true → ∀ y ∈ its, ∃ b t, y = .str b t
  | _, _, _, .nil, .nil, _, y, hy => nomatch hy
  | x :: xs, _, _, .cons h r, .cons q t, ha, y, hy => by
    simp only [List.all_cons, Bool.and_eq_true] at ha
    rcases List.mem_cons.mp hy with rfl | hy
    · cases x with
      | str s => cases h; obtain ⟨t, rfl⟩ := q; exact ⟨_, _, rfl⟩
      | _ => exact absurd ha.1 (by simp [isStrP])
    · exact strs_its r t ha.2 y hy
theorem isTuple_of {h : Heap} {a : Addr} {its : Array Value} (hT : IsTup h a its) : h.IsTuple a its := by
  obtain ⟨o, ho, hc, n, hd⟩ := hT
  exact ⟨o, ho, hc, n, hd⟩
theorem in_go {b : Bool} (neg : Bool) (hu : X.A.units + 65 < cLine) (I : Inv X pins σ H s) (rx : RelV x v) (ry : RelV y u) (rs : RelS X.K H m S) (dx : RelD X.K H m d x) (dy : RelD X.K H m e y) (h : inI d e S = some b)
    (q : Q (.bl (if neg then !b else b)) H) : wpAny (model X.prog X.w) X.A (compareOp (if neg then .NotIn else .In) v u) (EP X pins σ Q) X.xe s := by
  unfold inI at h
  split at h
  · rename_i c z
    cases dx with
    | p dx =>
      cases dx with
      | str _ h1 =>
        cases dy with
        | p dy =>
          cases dy with
          | str _ h2 =>
            have hb := (Option.some.inj h)
            cases neg with
            | false => exact op_in_sign pins s σ H _ _ v u Q I rx ry ⟨c, mkS z, rfl, rfl, by rw [tl_mkS, hb]; exact q⟩
            | true => exact op_notIn_sign pins s σ H _ _ v u Q I rx ry ⟨c, mkS z, rfl, rfl, by rw [tl_mkS, hb]; exact q⟩
  · rename_i x' ys
    split at h
    · rename_i hd
      cases dx with
      | p dx =>
        cases dy with
        | p dy =>
          obtain ⟨p1, p2⟩ := dx.dp
          obtain ⟨q1, q2⟩ := dy.dp
          obtain ⟨as, r1⟩ := Dp.reads I _ x v p1 rx
          obtain ⟨bs, r2⟩ := Dp.reads I _ y u q1 ry
          have hm : min (PyData.depthAll (PD.pys ys)) x'.py.depth ≤ x'.py.depth := Nat.min_le_right _ _
          have hd' : x'.py.depth ≤ 64 := hd
          have q2' : PyData.canLayAll0 (PD.pys ys) = true := by simpa only [PD.py, PyData.canLay0] using q2
          have hb := Option.some.inj h
          cases neg with
          | false => exact SeqAt.in_tuple_reads r2 r1 q2' p2 (by omega) ⟨.bl _, H, I, rfl, by rw [eqv_pys (K := X.K), hb]; exact q⟩
          | true => exact SeqAt.notIn_tuple_reads r2 r1 q2' p2 (by omega) ⟨.bl _, H, I, rfl, by rw [eqv_pys (K := X.K), hb]; exact q⟩
    · cases h
  · rename_i x' n
    split at h
    · rename_i ys hn
      split at h
      · rename_i hd
        cases dx with
        | p dx =>
          cases dy with
          | ref ha =>
            obtain ⟨a, ea, ro⟩ := rs.ob _ _ hn
            rw [ha] at ea; cases ea
            cases ro with
            | pl h1 r1 =>
              obtain ⟨p1, p2⟩ := dx.dp
              obtain ⟨q1, q2⟩ := r1.dp
              obtain ⟨as, r1⟩ := Dp.reads I _ x v p1 rx
              obtain ⟨bs, r2⟩ := Dp.reads I (.list (PD.pys ys)) _ u (.lst (SqL.of h1) q1) ry
              have hm : min (PyData.depthAll (PD.pys ys)) x'.py.depth ≤ x'.py.depth := Nat.min_le_right _ _
              have hd' : x'.py.depth ≤ 64 := hd
              have hb := Option.some.inj h
              cases neg with
              | false => exact SeqAt.in_list_reads r2 r1 q2 p2 (by omega) ⟨.bl _, H, I, rfl, by rw [eqv_pys (K := X.K), hb]; exact q⟩
              | true => exact SeqAt.notIn_list_reads r2 r1 q2 p2 (by omega) ⟨.bl _, H, I, rfl, by rw [eqv_pys (K := X.K), hb]; exact q⟩
      · cases h
    · cases h
  · rename_i n ys
    cases dy with
    | p dy =>
      cases dy with
      | tup hq r =>
        cases dx with
        | ref ha =>
          split at h
          · rename_i kvs hn
            obtain ⟨a, ea, ro⟩ := rs.ob _ _ hn
            rw [ha] at ea; cases ea
            cases ro with
            | dc h1 rk =>
              split at h
              · rename_i hall
                obtain rfl := Option.some.inj h
                cases rx
                obtain ⟨its, rv, hT, hz⟩ := I.tuple hq
                cases ry
                have hu' : X.A.in1.units < cLine := by show X.A.units + 1 < cLine; omega
                obtain ⟨_, _, vs, _, dd⟩ := dk_of I.hok h1
                obtain ⟨o, es, ep, ho, ⟨hcls, _, _⟩, hdat, _⟩ := dd
                obtain ⟨oc, od, odt, osl⟩ := o
                simp only at hcls hdat
                subst hcls hdat
                have he : ∀ y, y ∈ its.toArray → SeqAt.EqAt X.A.in1 s y _ ((fun _ => false) y) := fun y hy => by
                  obtain ⟨b, t, rfl⟩ := PH.strs_its r rv hall y (by simpa using hy)
                  exact PySem.eqAt_str_dict b t ho hu'
                have anyF : its.toArray.any (fun _ => false) = false := by simp
                cases neg with
                | false => exact SeqAt.in_tupleAt (fun _ => false) (PH.isTuple_of hT) he (by rw [anyF]; exact ⟨.bl _, H, I, rfl, q⟩)
                | true => exact SeqAt.notIn_tupleAt (fun _ => false) (PH.isTuple_of hT) he (by rw [anyF]; exact ⟨.bl _, H, I, rfl, q⟩)
              · cases h
          · split at h
            · rename_i a' ha'
              split at h
              · rename_i hd
                obtain ⟨p1, p2⟩ := toPy_dp rs _ _ _ _ (.ref ha) ha'
                obtain ⟨q1, q2⟩ := (RelP.tup hq r : RelP X.K H (.tup ys) _).dp
                obtain ⟨as, r1⟩ := Dp.reads I _ _ v p1 rx
                obtain ⟨bs, r2⟩ := Dp.reads I _ _ u q1 ry
                have hm : min (PyData.depthAll (PD.pys ys)) a'.depth ≤ a'.depth := Nat.min_le_right _ _
                have q2' : PyData.canLayAll0 (PD.pys ys) = true := by simpa only [PD.py, PyData.canLay0] using q2
                have hb := Option.some.inj h
                cases neg with
                | false => exact SeqAt.in_tuple_reads r2 r1 q2' p2 (by omega) ⟨.bl _, H, I, rfl, by rw [hb]; exact q⟩
                | true => exact SeqAt.notIn_tuple_reads r2 r1 q2' p2 (by omega) ⟨.bl _, H, I, rfl, by rw [hb]; exact q⟩
              · cases h
            · cases h
  · cases h
theorem is_go {b : Bool} (neg : Bool) (I : Inv X pins σ H s) (rx : RelV x v) (ry : RelV y u) (dx : RelD X.K H m d x) (dy : RelD X.K H m e y) (h : isI d e = some b)
    (q : Q (.bl (if neg then !b else b)) H) : wpAny (model X.prog X.w) X.A (compareOp (if neg then .IsNot else .Is) v u) (EP X pins σ Q) X.xe s := by
  have non : e = .p .non → wpAny (model X.prog X.w) X.A (compareOp (if neg then .IsNot else .Is) v u) (EP X pins σ Q) X.xe s := by
    rintro rfl
    have hb := isI_non dx h
    cases dy with
    | p dy =>
      cases dy
      cases neg with
      | false => exact op_isN pins s σ H _ _ v u Q I rx ry ⟨rfl, by rw [hb]; exact q⟩
      | true => exact op_notN pins s σ H _ _ v u Q I rx ry ⟨rfl, by rw [hb]; exact q⟩
  unfold isI at h
  split at h
  · exact non rfl
  · exact non rfl
  · rename_i b1 c1
    cases dx with
    | p dx =>
      cases dx
      cases dy with
      | p dy =>
        cases dy
        have hb := Option.some.inj h
        cases neg with
        | false => exact op_isBl pins s σ H _ _ v u Q I rx ry ⟨_, _, rfl, rfl, by rw [hb]; exact q⟩
        | true => exact op_notBl pins s σ H _ _ v u Q I rx ry ⟨_, _, rfl, rfl, by rw [hb]; exact q⟩
  · cases h
theorem lt_go {b : Bool} {p q : PD} (hu : X.A.units + 64 < cLine) (I : Inv X pins σ H s) (rx : RelV x v) (ry : RelV y u) (dx : RelP X.K H p x) (dy : RelP X.K H q y) (h : ltP p q = some b)
    (hq : Q (.bl b) H) : wpAny (model X.prog X.w) X.A (compareOp .Lt v u) (EP X pins σ Q) X.xe s := by
  unfold ltP at h
  split at h
  · rename_i hc
    obtain ⟨p1, p2⟩ := dx.dp
    obtain ⟨q1, q2⟩ := dy.dp
    obtain ⟨as, r1⟩ := Dp.reads I _ x v p1 rx
    obtain ⟨bs, r2⟩ := Dp.reads I _ y u q1 ry
    have hm : min p.py.depth q.py.depth ≤ p.py.depth := Nat.min_le_left _ _
    have hd : p.py.depth ≤ 64 := hc.2.2
    have hb := Option.some.inj h
    have hn : p.py ≠ .none := fun z => by cases p <;> first | exact hc.2.1 rfl | (simp [PD.py] at z)
    exact PySem.W.rcLt_alike _ _ X.A s v u _ _ r1 r2 hc.1 hn (by omega) X.prog X.w X.xe _ ⟨.bl _, H, I, rfl, by rw [show PySem.W.dataLt p.py q.py = b from hb]; exact hq⟩
  · cases h
theorem gt_go {b : Bool} {p q : PD} (hu : X.A.units + 64 < cLine) (I : Inv X pins σ H s) (rx : RelV x v) (ry : RelV y u) (dx : RelP X.K H p x) (dy : RelP X.K H q y) (h : gtP p q = some b)
    (hq : Q (.bl b) H) : wpAny (model X.prog X.w) X.A (compareOp .Gt v u) (EP X pins σ Q) X.xe s := by
  unfold gtP at h
  split at h
  · rename_i hc
    obtain ⟨p1, p2⟩ := dx.dp
    obtain ⟨q1, q2⟩ := dy.dp
    obtain ⟨as, r1⟩ := Dp.reads I _ x v p1 rx
    obtain ⟨bs, r2⟩ := Dp.reads I _ y u q1 ry
    have hm : min p.py.depth q.py.depth ≤ p.py.depth := Nat.min_le_left _ _
    have hd : p.py.depth ≤ 64 := hc.2.2
    have hb := Option.some.inj h
    have hn : p.py ≠ .none := fun z => by cases p <;> first | exact hc.2.1 rfl | (simp [PD.py] at z)
    exact PySem.W.rcGt_alike _ _ X.A s v u _ _ r1 r2 hc.1 hn (by omega) X.prog X.w X.xe _ ⟨.bl _, H, I, rfl, by rw [show PySem.W.dataLt q.py p.py = b from hb]; exact hq⟩
  · cases h
theorem sv_cmp (op : CmpOp) (hu : X.A.units + 65 < cLine) (I : Inv X pins σ H s) (rx : RelV x v) (ry : RelV y u) (rs : RelS X.K H m S) (dx : RelD X.K H m d x) (dy : RelD X.K H m e y)
    (h : Post cA X.K m H σ W (cmpI op d e S) Q) : wpAny (model X.prog X.w) X.A (compareOp op v u) (EP X pins σ Q) X.xe s := by
  have mp : ∀ {o : Option Bool} {b : Bool}, o.map (!·) = some b → ∃ c, o = some c ∧ b = !c := fun {o b} q => by
    obtain ⟨c, h1, h2⟩ := Option.map_eq_some_iff.mp q
    exact ⟨c, h1, h2.symm⟩
  cases op with
  | Eq =>
    simp only [cmpI] at h
    obtain ⟨b, e⟩ := lift_some h
    exact eq_go (by omega) I rx ry rs dx dy e ((Post.lift e h).dat rs (.bl b))
  | NotEq =>
    simp only [cmpI] at h
    obtain ⟨b, e⟩ := lift_some h
    obtain ⟨c, e2, rfl⟩ := mp e
    exact ne_go (by omega) I rx ry rs dx dy e2 ((Post.lift e h).dat rs (.bl _))
  | In =>
    simp only [cmpI] at h
    obtain ⟨b, e⟩ := lift_some h
    exact in_go false hu I rx ry rs dx dy e ((Post.lift e h).dat rs (.bl b))
  | NotIn =>
    simp only [cmpI] at h
    obtain ⟨b, e⟩ := lift_some h
    obtain ⟨c, e2, rfl⟩ := mp e
    exact in_go true hu I rx ry rs dx dy e2 ((Post.lift e h).dat rs (.bl _))
  | Is =>
    simp only [cmpI] at h
    obtain ⟨b, e⟩ := lift_some h
    exact is_go false I rx ry dx dy e ((Post.lift e h).dat rs (.bl b))
  | IsNot =>
    simp only [cmpI] at h
    obtain ⟨b, e⟩ := lift_some h
    obtain ⟨c, e2, rfl⟩ := mp e
    exact is_go true I rx ry dx dy e2 ((Post.lift e h).dat rs (.bl _))
  | Lt =>
    simp only [cmpI] at h
    split at h
    · cases dx with
      | p dx =>
        cases dy with
        | p dy =>
          obtain ⟨b, e⟩ := lift_some h
          exact lt_go (by omega) I rx ry dx dy e ((Post.lift e h).dat rs (.bl b))
    · exact h.elim
  | Gt =>
    simp only [cmpI] at h
    split at h
    · cases dx with | p dx => cases dx; cases dy with | p dy => cases dy; exact op_gt pins s σ H _ _ v u Q I rx ry ⟨_, _, rfl, rfl, h.dat rs (.bl _)⟩
    · cases dx with
      | p dx =>
        cases dy with
        | p dy =>
          obtain ⟨b, e⟩ := lift_some h
          exact gt_go (by omega) I rx ry dx dy e ((Post.lift e h).dat rs (.bl b))
    · exact h.elim
  | LtE =>
    simp only [cmpI] at h
    split at h
    · cases dx with | p dx => cases dx; cases dy with | p dy => cases dy; exact op_le pins s σ H _ _ v u Q I rx ry ⟨_, _, rfl, rfl, h.dat rs (.bl _)⟩
    · exact h.elim
  | GtE =>
    simp only [cmpI] at h
    split at h
    · cases dx with | p dx => cases dx; cases dy with | p dy => cases dy; exact op_ge pins s σ H _ _ v u Q I rx ry ⟨_, _, rfl, rfl, h.dat rs (.bl _)⟩
    · exact h.elim

/-! ### places -/
theorem atI_lt {α : Type} {xs : List α} {i : Int} {c : α} (h : atI xs i = some c) : ∃ j, xs[j]? = some c ∧ ixN xs.length i = some j := by
  unfold atI at h
  obtain ⟨j, h1, h2⟩ := Option.bind_eq_some_iff.mp h
  exact ⟨j, h2, h1⟩
theorem atI_rel {α β : Type} {xs : List α} {ys : List β} {i : Int} {c : α} {b : β} {j : Nat} (hl : xs.length = ys.length) (hj : ixN xs.length i = some j) (hb : ys[j]? = some b) : atI ys i = some b := by
  unfold atI
  rw [← hl, hj]
  exact hb
theorem sv_ix (rs : RelS X.K H m S) (dx : RelD X.K H m d x) (dy : RelD X.K H m e y)
    (h : Post cA X.K m H σ W (ixI d e S) Q) : rIx X.K x y H Q := by
  unfold ixI at h
  split at h
  · split at h
    · rename_i i c hc
      cases dx with
      | p dx =>
        cases dx with
        | str z hs =>
          cases dy with
          | p dy =>
            cases dy
            obtain ⟨j, h1, h2⟩ := atI_lt hc
            exact .inr (.inr ⟨_, _, c, rfl, rfl, by rw [len_mkS, line_eq]; exact hs.1, hc, h.dat rs (.str [c] ⟨by simp [LINE], fun a ha => by rw [List.mem_singleton.mp ha]; exact hs.2 c (List.mem_of_getElem? h1)⟩)⟩)
    · exact h.elim
  · split at h
    · rename_i i c hc
      cases dx with
      | p dx =>
        cases dx with
        | tup hq r =>
          cases dy with
          | p dy =>
            cases dy
            obtain ⟨j, h1, h2⟩ := atI_lt hc
            obtain ⟨w, hw, rw⟩ := r.get h1
            exact .inr (.inl ⟨_, _, _, w, rfl, rfl, hq, atI_rel (c := c) r.length h2 hw, h.dat rs rw⟩)
    · exact h.elim
  · split at h
    · rename_i i c hc
      cases dx with
      | mt hq r =>
        cases dy with
        | p dy =>
          cases dy
          obtain ⟨j, h1, h2⟩ := atI_lt hc
          obtain ⟨w, hw, rw⟩ := r.get h1
          exact .inr (.inl ⟨_, _, _, w, rfl, rfl, hq, atI_rel (c := c) r.length h2 hw, h m H w .refl rs rw⟩)
    · exact h.elim
  · split at h
    · rename_i xs hx
      split at h
      · rename_i i c hc
        cases dx with
        | ref ha =>
          obtain ⟨a, vs, ea, hq, r⟩ := rs.lst hx
          rw [ha] at ea; cases ea
          cases dy with
          | p dy =>
            cases dy
            obtain ⟨j, h1, h2⟩ := atI_lt hc
            obtain ⟨w, hw, rw⟩ := r.get h1
            exact .inl ⟨_, _, _, w, rfl, rfl, hq, atI_rel (c := c) r.length h2 hw, h m H w .refl rs rw⟩
      · exact h.elim
    · exact h.elim
  · exact h.elim

/-! ### parts -/
theorem mem_cut {α : Type} {xs : List α} {lo hi : Option Int} {c : α} (h : c ∈ cut xs lo hi) : c ∈ xs := List.mem_of_mem_drop (List.mem_of_mem_take h)
theorem cut_len {α : Type} (xs : List α) (lo hi : Option Int) : (cut xs lo hi).length ≤ xs.length := by
  unfold cut
  rw [List.length_take, List.length_drop]
  omega
theorem RelPs.cut {K : Fg} {xs : List PD} {vs : List V} (r : RelPs K H xs vs) (lo hi : Option Int) : RelPs K H (cut xs lo hi) (cutV vs lo hi) := by
  unfold PH.cut cutV
  rw [r.length]
  exact (r.drop _).take _
theorem RelDs.cut {K : Fg} {xs : List D} {vs : List V} (r : RelDs K H m xs vs) (lo hi : Option Int) : RelDs K H m (cut xs lo hi) (cutV vs lo hi) := by
  unfold PH.cut cutV
  rw [r.length]
  exact (r.drop _).take _
def rSlX (K : Fg) : V → Option Int → Option Int → Hp → VK → Prop := fun x lo hi H Q => rSlL K x lo hi H Q ∨ rSlA K x lo hi H Q ∨ rSlS x lo hi H Q
theorem sl_any : SlR X (rSlX X.K) := sl_list.or (sl_tupA.or sl_str)
theorem sv_sl {lo hi : Option Int} (rs : RelS X.K H m S) (dx : RelD X.K H m d x) (h : Post cA X.K m H σ W (slI d lo hi S) Q) : rSlX X.K x lo hi H Q := by
  unfold slI at h
  split at h
  · rename_i z
    cases dx with
    | p dx =>
      cases dx with
      | str _ hs =>
        refine .inr (.inr ⟨_, rfl, by rw [len_mkS, line_eq]; exact hs.1, ?_⟩)
        have e : cutS (mkS z) lo hi = mkS (cut z lo hi) := by
          unfold cutS cut
          rw [tl_mkS, len_mkS]
          rfl
        rw [e]
        exact h.dat rs (.str _ ⟨Nat.le_trans (cut_len _ _ _) hs.1, fun c q => hs.2 c (mem_cut q)⟩)
  · rename_i xs
    cases dx with
    | p dx =>
      cases dx with
      | tup hq r =>
        refine .inr (.inl ⟨_, _, rfl, hq, fun q => ?_, fun _ => h.newt rs (r.cut lo hi)⟩)
        have e : cut xs lo hi = xs := by
          unfold cut
          rw [r.length, q.1, q.2, List.drop_zero, Nat.sub_zero, ← r.length, List.take_length]
        rw [e] at h
        exact h.dat rs (.tup hq r)
  · split at h
    · rename_i n xs hn
      obtain ⟨a, ea, ro⟩ := rs.ob _ _ hn
      cases dx with
      | ref ha =>
        rw [ha] at ea; cases ea
        cases ro with
        | pl h1 r1 => exact .inl ⟨_, _, rfl, SqL.of h1, h.newl rs rfl (relO_pl (r1.cut lo hi))⟩
    · rename_i n xs hn
      obtain ⟨a, ea, ro⟩ := rs.ob _ _ hn
      cases dx with
      | ref ha =>
        rw [ha] at ea; cases ea
        cases ro with
        | fz h1 r1 => exact .inl ⟨_, _, rfl, h1.seq, h.newl rs rfl (relO_pl (r1.cut lo hi))⟩
    · rename_i n xs hn
      obtain ⟨a, ea, ro⟩ := rs.ob _ _ hn
      cases dx with
      | ref ha =>
        rw [ha] at ea; cases ea
        cases ro with
        | ml h1 r1 => exact .inl ⟨_, _, rfl, SqL.of h1, h.newl rs rfl (relO_ml (r1.cut lo hi))⟩
    · exact h.elim
  · exact h.elim

/-! ### displays -/
theorem sv_tup {ds : List D} {vs : List V} (rs : RelS X.K H m S) (r : RelDs X.K H m ds vs) (h : Post cA X.K m H σ W (.ok (mkT ds) S) Q) : ∀ p, H p = none → Q (.ref p) (upd H p (.tup vs)) := fun p hp => by
  refine h m _ (.ref p) (Ext.more hp) (rs.more hp) ?_
  unfold mkT
  have kp : Kp X.K H (upd H p (.tup vs)) := kp_upd (.inl hp)
  split
  · rename_i ys e
    exact .p (.tup (SqT.of upd_same) ((r.down e).mono kp))
  · have := r.mono kp []
    exact .mt (SqT.of upd_same) (by simpa using this)
theorem sv_lst {ds : List D} {vs : List V} (rs : RelS X.K H m S) (r : RelDs X.K H m ds vs) (h : Post cA X.K m H σ W (new (mkL ds) S) Q) : ∀ p, H p = none → Q (.ref p) (upd H p (.lst vs)) := by
  unfold mkL at h
  split at h
  · rename_i ys e
    exact h.newl rs rfl (relO_pl (r.down e))
  · exact h.newl rs rfl (relO_ml r)
end
end PH

set_option maxHeartbeats 4000000
/-! PH, part E: built-in functions, methods, isinstance, stores by values. -/
namespace PySem.W
open PySem PySem.Calls PyProof.Rows
/-- what is collected of a list or a tuple; the heap behind it -/
theorem collect_seqE {prog : Program} {w : World} {A : Around} {E : Value → Shared → Prop} {s : Shared} {Q : List Value → Shared → Prop} (it : Addr) {T : String} {o : Obj} {vs : List Value} {n : Nat} (hT : T = "list" ∨ T = "tuple")
    (ho : s.heap.get? it = some o) (hc : o.cls = .type T) (hd : o.data = .seq vs.toArray n) (hz : vs.length ≤ sizeLine)
    (hQ : Q vs { s with heap := (s.heap.push (seqObj "list" #[] 0)).update s.heap.objs.size (Obj.mapSeq (· ++ vs.toArray)) }) : wpAny (model prog w) A (collect (.ref it)) Q E s := by
  unfold collect
  refine wpAny_bind (wpAny_runValue (codeAny_builtin F.entry_proto_collect ?_)); rw [Around.under_plainId F.plain_proto_collect _]
  show wpAny _ A.in1 (newList [] >>= fun l => again (.builtin "list.__iadd__" ⟨[l, .ref it], []⟩)) _ _ s
  refine wpAny_bind (wpAny_newObj_type (wpAny_pure ⟨plainId_quiet F.plain_list_iadd _, codeAny_builtin F.entry_list_iadd ?_⟩)); rw [Around.under_plainId F.plain_list_iadd _]
  show wpAny _ A.in1 (Builtin.List.listExtendWith (.ref s.heap.objs.size) (.ref it) (.ref s.heap.objs.size)) _ _ { s with heap := s.heap.push (seqObj "list" #[] 0) }
  have hS : (s.heap.push (seqObj "list" #[] 0)).get? s.heap.objs.size = some { cls := .type "list", data := .seq #[] 0 } := Heap.get?_push_size _ rfl
  have hS2 := Heap.get?_update_self (Obj.mapSeq (· ++ vs.toArray)) hS rfl
  have fin' : wpAny (model prog w) A (match Value.ref s.heap.objs.size with
      | Value.ref a => do match (← load a).data with | Data.seq xs _ => pure xs.toList | _ => unsupported "internal:collect"
      | _ => unsupported "internal:collect") Q E { s with heap := (s.heap.push (seqObj "list" #[] 0)).update s.heap.objs.size (Obj.mapSeq (· ++ vs.toArray)) } := by
    show wpAny _ A (load s.heap.objs.size >>= _) _ _ _
    refine wpAny_bind (wpAny_load hS2 (wpAny_pure ?_))
    show Q ((#[] : Array Value) ++ vs.toArray).toList _
    rw [show ((#[] : Array Value) ++ vs.toArray).toList = vs by simp]
    exact hQ
  refine wpAny_mono (wpAny_extend_seq (hsz := by rw [List.size_toArray]; exact hz) (A := A) (R := fun r s' => r = .ok (.ret (.ref s.heap.objs.size)) ∧ s' = { s with heap := (s.heap.push (seqObj "list" #[] 0)).update s.heap.objs.size (Obj.mapSeq (· ++ vs.toArray)) })
    (s := { s with heap := s.heap.push (seqObj "list" #[] 0) }) _ it _ 0 hT hS (Heap.get?_push_of_some _ ho) hc hd ⟨rfl, rfl⟩) (fun fin s' h => ?_) (fun e s' h => absurd h.1 (by simp))
  cases fin with
  | done f => obtain ⟨e, rfl⟩ := h; cases e; exact fin'
  | again c' => exact ⟨h.1, codeAny_mono h.2 fun r s'' hr => by obtain ⟨rfl, rfl⟩ := hr; exact fin'⟩
/-- sorted of a list or a tuple that reads as data -/
theorem sorted_seq {prog : Program} {w : World} {A : Around} {E : Value → Shared → Prop} {s : Shared} {β : Type} {enc : β → PyData} {R : Value → β → Prop} {bs : List β} {vs : List Value} {it : Addr} {T : String} {o : Obj} {n : Nat} {Q : Value → Shared → Prop}
    (hT : T = "list" ∨ T = "tuple") (ho : s.heap.get? it = some o) (hc : o.cls = .type T) (hd : o.data = .seq vs.toArray n)
    (e : EachIs R vs bs) (er : EachIs (fun v b => ∃ as, Reads s.heap v (enc b) as) vs bs) (hal : AllAlike (bs.map enc)) (hk : Sortable (bs.map enc)) (hL : bs.length ≤ sizeLine) (hu : ∀ b, b ∈ bs → A.units + 2 + (enc b).depth < cLine)
    (h : ∀ (h' : Heap) (a : Addr) (out : List Value) (q : Nat), (∀ b u, s.heap.get? b = some u → h'.get? b = some u) → s.heap.objs.size ≤ a → h'.get? a = some (seqObj "list" out.toArray q) → out.length = bs.length →
      EachIs R out (bs.mergeSort (dataLe false enc)) → Q (.ref a) { s with heap := h' }) : wpAny (model prog w) A (call (.builtin "sorted") [.ref it]) Q E s := by
  have hz : vs.length ≤ sizeLine := by rw [e.length]; exact hL
  refine call_function_entry_kw (kw := []) kind_sorted plain_sorted entry_sorted (args_sorted1 _) ?_
  unfold Builtin.«sorted»
  refine wpAny_bind (m := checkCount "sorted" 1 1 _) (wpAny_pure (wpAny_bind ?_))
  refine collect_seqE it hT ho hc hd hz ?_
  refine wpAny_bind (wpAny_newList ?_ hz)
  generalize hh1 : (s.heap.push (seqObj "list" #[] 0)).update s.heap.objs.size (Obj.mapSeq (· ++ vs.toArray)) = h1
  have hat : (h1.push (seqObj "list" vs.toArray 0)).get? h1.objs.size = some (seqObj "list" vs.toArray 0) := Heap.get?_push_size _ rfl
  have hle : s.heap.objs.size ≤ h1.objs.size := by rw [← hh1, Heap.size_update, size_push']; exact Nat.le_succ _
  have k1 : ∀ b u, s.heap.get? b = some u → h1.get? b = some u := fun b u q => by
    rw [← hh1, Heap.get?_update_ne _ _ _ _ (Nat.ne_of_lt (Heap.lt_size q)), Heap.get?_push_ne _ _ _ (Nat.ne_of_lt (Heap.lt_size q))]; exact q
  have k2 : ∀ b u, s.heap.get? b = some u → (h1.push (seqObj "list" vs.toArray 0)).get? b = some u := fun b u q => Heap.get?_push_of_some _ (k1 b u q)
  have old : ∀ b u, s.heap.get? b = some u → (sortingHeap (h1.push (seqObj "list" vs.toArray 0)) h1.objs.size vs).get? b = some u := fun b u q =>
    sortingHeap_old (Nat.ne_of_lt (Nat.lt_of_lt_of_le (Heap.lt_size q) hle)) (k2 b u q)
  refine wpAny_bind (wpAny_holding (wpAny_call_entry_kw (kw := []) slot_list_sort ⟨_, hat, rfl⟩ entry_list_sort ?_ (args_list_sort _)))
  have er' : EachIs (fun v b => ∃ as, Reads (sortingHeap (h1.push (seqObj "list" vs.toArray 0)) h1.objs.size vs) v (enc b) as) vs bs := er.mono fun _ _ ⟨as, r⟩ => ⟨as, PyProof.Rows.Reads.keeps old r⟩
  show wpAny (model prog w) A.in1.in1 (Builtin.«list.sort» ⟨[.ref h1.objs.size], []⟩) _ _ { s with heap := h1.push (seqObj "list" vs.toArray 0) }
  refine list_sort_vals (s := { s with heap := h1.push (seqObj "list" vs.toArray 0) }) (κ := dataKind (sortingHeap (h1.push (seqObj "list" vs.toArray 0)) h1.objs.size vs) (bs.map enc)) hat
    (SortsAt.data (s := { s with heap := sortingHeap (h1.push (seqObj "list" vs.toArray 0)) h1.objs.size vs }) (each_map (R := fun v d => ∃ as, Reads (sortingHeap (h1.push (seqObj "list" vs.toArray 0)) h1.objs.size vs) v d as) enc er') hal hk
      (bound_map fun b hb => by have q := hu b hb; show A.units + 1 + 1 + _ < _; omega)) hz ⟨.none, rfl, wpAny_pure ?_⟩
  obtain ⟨q, hq⟩ := PyProof.Rows.sortedHeap_at (vs := vs) (out := (sortVals (dataKind (sortingHeap (h1.push (seqObj "list" vs.toArray 0)) h1.objs.size vs) (bs.map enc)) false vs vs).toArray) hat
  refine ⟨_, rfl, h _ _ _ q (fun b u z => ?_) hle hq (by rw [sortVals_length false rfl]; exact e.length) (sortVals_data false e er' hal)⟩
  rw [PyProof.Rows.sortedHeap_old (Nat.ne_of_lt (Nat.lt_of_lt_of_le (Heap.lt_size z) hle)) (Heap.lt_size (k2 b u z))]
  exact k2 b u z
end PySem.W

namespace PH
open L2 PySem PySem.Spec PyProof.Rows
def Bf.nm : Bf → Str
  | .len => "len" | .int => "int" | .ord => "ord" | .str => "str" | .tuple => "tuple" | .list => "list" | .sorted => "sorted" | .all => "all" | .any => "any" | .sum => "sum" | .max => "max" | .min => "min" | .abs => "abs"
def Bf.val : Bf → Value
  | .len => .builtin "len" | .int => .type "int" | .ord => .builtin "ord" | .str => .type "str" | .tuple => .type "tuple" | .list => .type "list" | .sorted => .builtin "sorted" | .all => .builtin "all" | .any => .builtin "any" | .sum => .builtin "sum"
  | .max => .builtin "max" | .min => .builtin "min" | .abs => .builtin "abs"
theorem Bf.boot : ∀ b : Bf, bootBuiltins b.nm = some b.val := fun b => by cases b <;> decide +kernel
theorem Bf.ne : ∀ b : Bf, b.nm ≠ "__name__" ∧ (b.nm == ("__debug__" : Str)) = false := fun b => by cases b <;> decide +kernel
section
variable {cA : Ca} {X : Cx} {pins : List (Addr × Obj)} {σ : L2.St} {H : Hp} {s : Shared} {m : List Addr} {S : Sto} {W : WX} {Q : VK} {x y z : V} {u v t : Value} {d e : D} {k : Nat}
theorem RelDs.one {K : Fg} {d : D} {vs : List V} (r : RelDs K H m [d] vs) : ∃ v, vs = [v] ∧ RelD K H m d v := by
  cases r with | cons h r => cases r; exact ⟨_, rfl, h⟩
theorem RelDs.two {K : Fg} {d e : D} {vs : List V} (r : RelDs K H m [d, e] vs) : ∃ v w, vs = [v, w] ∧ RelD K H m d v ∧ RelD K H m e w := by
  cases r with | cons h r => cases r with | cons h' r => cases r; exact ⟨_, _, rfl, h, h'⟩
theorem pl_of {n : Nat} {xs : List PD} {v : V} (rs : RelS X.K H m S) (hn : S[n]? = some (.pl xs)) (rd : RelD X.K H m (.ref n) v) : ∃ a vs, v = .ref a ∧ H a = some (.lst vs) ∧ RelPs X.K H xs vs ∧ m[n]? = some a := by
  cases rd with
  | ref ha =>
    obtain ⟨a, ea, ro⟩ := rs.ob _ _ hn
    rw [ha] at ea; cases ea
    cases ro with | pl h r => exact ⟨_, _, rfl, h, r, ha⟩
theorem data_of {xs : List PD} {v : V} (rs : RelS X.K H m S) (h : dataOf d S = some xs) (rd : RelD X.K H m d v) : ∃ a vs, v = .ref a ∧ RelPs X.K H xs vs ∧ (SqL X.K H a vs ∨ (SqT X.K H a vs ∧ RelP X.K H (.tup xs) v)) := by
  unfold dataOf at h
  split at h
  · cases h
    cases rd with | p q => cases q with | tup hq r => exact ⟨_, _, rfl, r, .inr ⟨hq, .tup hq r⟩⟩
  · split at h
    · rename_i hn
      cases h
      obtain ⟨a, vs, rfl, h1, r, _⟩ := pl_of rs hn rd
      exact ⟨_, _, rfl, r, .inl (SqL.of h1)⟩
    · rename_i hn
      cases h
      cases rd with
      | ref ha =>
        obtain ⟨a, ea, ro⟩ := rs.ob _ _ hn
        rw [ha] at ea; cases ea
        cases ro with | fz h r => exact ⟨_, _, rfl, r, .inl h.seq⟩
    · cases h
  · cases h
theorem bools_of {K : Fg} : ∀ {xs : List PD} {bs : List Bool} {vs : List V}, RelPs K H xs vs → boolsOf xs = some bs → vs = bs.map V.bl
  | [], _, _, .nil, e => by simp only [boolsOf, Option.some.injEq] at e; subst e; rfl
  | .bl b :: xs, bs, _, .cons h r, e => by
    simp only [boolsOf] at e
    obtain ⟨cs, h1, rfl⟩ := Option.map_eq_some_iff.mp e
    cases h
    rw [bools_of r h1]; rfl
  | .non :: _, _, _, .cons _ _, e => by simp [boolsOf] at e
  | .int _ :: _, _, _, .cons _ _, e => by simp [boolsOf] at e
  | .str _ :: _, _, _, .cons _ _, e => by simp [boolsOf] at e
  | .tup _ :: _, _, _, .cons _ _, e => by simp [boolsOf] at e
theorem ints_of {K : Fg} : ∀ {xs : List PD} {bs : List Int} {vs : List V}, RelPs K H xs vs → intsOf xs = some bs → vs = bs.map V.int
  | [], _, _, .nil, e => by simp only [intsOf, Option.some.injEq] at e; subst e; rfl
  | .int b :: xs, bs, _, .cons h r, e => by
    simp only [intsOf] at e
    obtain ⟨cs, h1, rfl⟩ := Option.map_eq_some_iff.mp e
    cases h
    rw [ints_of r h1]; rfl
  | .non :: _, _, _, .cons _ _, e => by simp [intsOf] at e
  | .bl _ :: _, _, _, .cons _ _, e => by simp [intsOf] at e
  | .str _ :: _, _, _, .cons _ _, e => by simp [intsOf] at e
  | .tup _ :: _, _, _, .cons _ _, e => by simp [intsOf] at e
theorem strs_of {K : Fg} : ∀ {xs : List PD} {ss : List Cs} {vs : List V}, RelPs K H xs vs → strsOf xs = some ss → vs = (ss.map mkS).map V.str ∧ ∀ s ∈ ss, okS s
  | [], _, _, .nil, e => by simp only [strsOf, Option.some.injEq] at e; subst e; exact ⟨rfl, fun _ h => nomatch h⟩
  | .str b :: xs, ss, _, .cons h r, e => by
    simp only [strsOf] at e
    obtain ⟨cs, h1, rfl⟩ := Option.map_eq_some_iff.mp e
    cases h with
    | str _ hs =>
      obtain ⟨e2, h2⟩ := strs_of r h1
      rw [e2]
      exact ⟨rfl, fun s hm => (List.mem_cons.mp hm).elim (fun q => q ▸ hs) (h2 s)⟩
  | .non :: _, _, _, .cons _ _, e => by simp [strsOf] at e
  | .bl _ :: _, _, _, .cons _ _, e => by simp [strsOf] at e
  | .int _ :: _, _, _, .cons _ _, e => by simp [strsOf] at e
  | .tup _ :: _, _, _, .cons _ _, e => by simp [strsOf] at e

/-! ### sorted -/
theorem each_of {K : Fg} {R : Value → PD → Prop} : ∀ {xs : List PD} {vs : List V} {us : List Value}, RelPs K H xs vs → Vals vs us → (∀ u v x, RelV v u → RelP K H x v → R u x) → PySem.W.EachIs R us xs
  | _, _, _, .nil, .nil, _ => .nil
  | _, _, _, .cons h r, .cons q t, f => .cons (f _ _ _ q h) (each_of r t f)
theorem of_each {K : Fg} : ∀ {us : List Value} {xs : List PD}, PySem.W.EachIs (fun u x => ∃ v, RelV v u ∧ RelP K H x v) us xs → ∃ vs, Vals vs us ∧ RelPs K H xs vs
  | _, _, .nil => ⟨[], .nil, .nil⟩
  | _, _, .cons ⟨v, q, h⟩ r => let ⟨vs, q', h'⟩ := of_each r; ⟨v :: vs, .cons q q', .cons h h'⟩
theorem isTup1_py {x : PD} (h : isTup1 x = true) : ∃ y r, x.py = .tuple (y :: r) := by
  cases x with
  | tup xs =>
    cases xs with
    | nil => simp [isTup1] at h
    | cons y r => exact ⟨y.py, PD.pys r, by simp only [PD.py, PD.pys]⟩
  | _ => simp [isTup1] at h
theorem isFlat_py {x : PD} (h : isFlat x = true) : x.py ≠ .none ∧ ∀ xs, x.py ≠ .tuple xs := by
  cases x <;> simp [isFlat, PD.py] at h ⊢
theorem sv_sorted {xs ys : List PD} {a : Addr} {vs : List V} (hu : X.A.units + 100 < cLine) (I : Inv X pins σ H s) (r : RelPs X.K H xs vs) (hq : SqL X.K H a vs ∨ SqT X.K H a vs) (hs : srtI xs = some ys)
    (hQ : ∀ p ws, H p = none → RelPs X.K H ys ws → Q (.ref p) (upd H p (.lst ws))) : wpAny (model X.prog X.w) X.A (call (.builtin "sorted") [.ref a]) (EP X pins σ Q) X.xe s := by
  unfold srtI at hs
  split at hs
  · rename_i hc
    obtain ⟨h1, h2, h3⟩ := hc
    cases hs
    obtain ⟨its, T, o, n, rv, hT, ho, hcl, hd, hz⟩ : ∃ (its : List Value) (T : String) (o : Obj) (n : Nat), Vals vs its ∧ (T = "list" ∨ T = "tuple") ∧ s.heap.get? a = some o ∧ o.cls = .type T ∧ o.data = .seq its.toArray n ∧ vs.length ≤ sizeLine := by
      rcases hq with hq | hq
      · obtain ⟨its, r, ⟨o, n, ho, hc, _, hd⟩, hz⟩ := I.list hq
        exact ⟨its, _, o, n, r, .inl rfl, ho, hc, hd, hz⟩
      · obtain ⟨its, r, ⟨o, ho, hc, n, hd⟩, hz⟩ := I.tuple hq
        exact ⟨its, _, o, n, r, .inr rfl, ho, hc, hd, hz⟩
    have hl : xs.length ≤ sizeLine := by rw [r.length]; exact hz
    refine PySem.W.sorted_seq (R := fun u x => ∃ v, RelV v u ∧ RelP X.K H x v) (enc := PD.py) (bs := xs) hT ho hcl hd (each_of r rv fun u v x q h => ⟨v, q, h⟩) (each_of r rv fun u v x q h => Dp.reads I _ v u h.dp.1 q) (fun p hp q hq' => ?_) ?_ hl (fun b hb => ?_) fun h' p out q k hp hat hlen he => ?_
    · obtain ⟨x, hx, rfl⟩ := List.mem_map.mp hp
      obtain ⟨y, hy, rfl⟩ := List.mem_map.mp hq'
      exact h1 x hx y hy
    · rcases h2 with h2 | h2
      · refine .inl fun p hp => ?_
        obtain ⟨x, hx, rfl⟩ := List.mem_map.mp hp
        exact isTup1_py (h2 x hx)
      · refine .inr fun p hp => ?_
        obtain ⟨x, hx, rfl⟩ := List.mem_map.mp hp
        exact isFlat_py (h2 x hx)
    · have := h3 b hb
      have : b.py.depth ≤ 64 := this
      omega
    · obtain ⟨ws, q1, q2⟩ := of_each he
      exact ⟨.ref p, _, I.laid (t' := s.toks) (o := .lst ws) k hp ⟨by rw [q1.length, hlen]; exact hl, out, q, q1, hat⟩, rfl, hQ p ws (I.hok.fresh hp) q2⟩
  · cases hs

/-! ### built-in functions -/
theorem numS_eq (i : Int) : (Str.ofString (toString i) : Str) = mkS (numS i) := by rw [Str.ofString_eq_toList]; rfl
theorem okS_num {i : Int} (h : i.natAbs.log2 < 1920) : okS (numS i) := by
  have dg : ∀ c ∈ Nat.toDigits 10 i.natAbs, c.toNat < 1114112 := fun c hc => by
    have := c.valid
    simp only [UInt32.isValidChar, Nat.isValidChar] at this
    show c.val.toNat < _
    omega
  have len : (Nat.toDigits 10 i.natAbs).length ≤ 2000 := by
    have h2 : i.natAbs < 2 ^ 1920 := by
      rcases Nat.eq_zero_or_pos i.natAbs with z | z
      · rw [z]; exact Nat.pow_pos (by decide)
      · exact (Nat.log2_lt (by omega)).mp h
    have h3 : i.natAbs < 10 ^ 2000 := Nat.lt_of_lt_of_le h2 (by decide +kernel)
    have := TL.numL_len (n := i.natAbs) (k := 2000) (by decide) h3
    simpa [TL.numL] using this
  unfold okS numS
  cases i with
  | ofNat n =>
    have e : toString (Int.ofNat n) = toString n := rfl
    rw [e, Nat.toString_eq_repr, Nat.repr]
    simp only [String.toList_ofList, List.length_map]
    refine ⟨Nat.le_trans len (by decide), fun c hc => ?_⟩
    obtain ⟨b, hb, rfl⟩ := List.mem_map.mp hc
    exact dg b hb
  | negSucc n =>
    have e : toString (Int.negSucc n) = "-" ++ toString (n + 1) := rfl
    rw [e, Nat.toString_eq_repr, Nat.repr]
    simp only [String.toList_append, String.toList_ofList, List.map_append, List.length_append, List.length_map]
    refine ⟨?_, fun c hc => ?_⟩
    · have l2 : (Nat.toDigits 10 (n + 1)).length ≤ 2000 := len
      have : "-".toList.length = 1 := rfl
      unfold LINE
      omega
    · rcases List.mem_append.mp hc with hc | hc
      · have : "-".toList.map Char.toNat = [45] := rfl
        rw [this] at hc
        rw [List.mem_singleton.mp hc]; decide
      · obtain ⟨b, hb, rfl⟩ := List.mem_map.mp hc
        exact dg b hb
theorem ints_pd : ∀ {xs : List PD} {bs : List Int}, intsOf xs = some bs → xs = bs.map .int
  | [], _, e => by simp only [intsOf, Option.some.injEq] at e; subst e; rfl
  | .int b :: xs, bs, e => by
    simp only [intsOf] at e
    obtain ⟨cs, h1, rfl⟩ := Option.map_eq_some_iff.mp e
    rw [ints_pd h1]; rfl
  | .non :: _, _, e => by simp [intsOf] at e
  | .bl _ :: _, _, e => by simp [intsOf] at e
  | .str _ :: _, _, e => by simp [intsOf] at e
  | .tup _ :: _, _, e => by simp [intsOf] at e
theorem pys_ints : ∀ bs : List Int, PD.pys (bs.map .int) = bs.map PyData.int
  | [] => rfl
  | b :: bs => by
    have ih := pys_ints bs
    show PyData.int b :: PD.pys (bs.map .int) = PyData.int b :: bs.map PyData.int
    rw [ih]
theorem depth_ints : ∀ bs : List Int, PyData.depthAll (bs.map PyData.int) ≤ 1
  | [] => by simp [PyData.depthAll]
  | b :: bs => by
    have ih := depth_ints bs
    simp only [List.map_cons, PyData.depthAll, PyData.depth]
    omega
theorem alike_ints1 (bs : List Int) : PySem.W.AlikeAll (bs.map PyData.int) := by
  refine ⟨fun x hx y hy => ?_, fun x hx => ?_⟩
  · obtain ⟨a, _, rfl⟩ := List.mem_map.mp hx
    obtain ⟨b, _, rfl⟩ := List.mem_map.mp hy
    rfl
  · obtain ⟨a, _, rfl⟩ := List.mem_map.mp hx
    exact fun h => nomatch h
theorem sv_max1 {i : Int} {r : List Int} {a : Addr} {vs : List V} (hc : X.calm = true) (hu : X.A.units + 100 < cLine) (I : Inv X pins σ H s) (rr : RelPs X.K H ((i :: r).map .int) vs) (hq : SqL X.K H a vs ∨ SqT X.K H a vs) (h : Q (.int (r.foldl max i)) H) :
    wpAny (model X.prog X.w) X.A (call (.builtin "max") [.ref a]) (EP X pins σ Q) X.xe s := by
  have dp := rr.dp.1
  rw [pys_ints] at dp
  have fin : ∀ (v : Value) (h' : Heap) (tk : Nat) (bs : List Addr), Reads h' v (PySem.W.maxD (.int i) (r.map PyData.int)) bs → (∀ b o, s.heap.get? b = some o → h'.get? b = some o) → EP X pins σ Q v { s with heap := h', toks := tk } := fun v h' tk bs rd hk => by
    rw [PySem.W.maxD_ints] at rd
    cases rd
    exact ⟨.int _, H, I.kept hk, ⟨_, rfl⟩, h⟩
  have dl := depth_ints (i :: r)
  rcases hq with hq | hq
  · obtain ⟨its, rv, hl, _⟩ := I.list hq
    obtain ⟨as, ra⟩ := Dp.readsAll I _ _ _ dp rv
    exact PySem.W.max_list_data (I.ok.hd hc) hl.isList (by simpa using ra) (alike_ints1 (i :: r)) (by simp only [List.map_cons] at dl; omega) fun j v h' tk bs _ rd hk => fin v h' tk bs rd hk
  · obtain ⟨its, rv, hl, _⟩ := I.tuple hq
    obtain ⟨as, ra⟩ := Dp.readsAll I _ _ _ dp rv
    exact PySem.W.max_tuple_data (I.ok.hd hc) (isTuple_of hl) (by simpa using ra) (alike_ints1 (i :: r)) (by simp only [List.map_cons] at dl; omega) fun j v h' tk bs _ rd hk => fin v h' tk bs rd hk
theorem sv_min1 {i : Int} {r : List Int} {a : Addr} {vs : List V} (hc : X.calm = true) (hu : X.A.units + 100 < cLine) (I : Inv X pins σ H s) (rr : RelPs X.K H ((i :: r).map .int) vs) (hq : SqL X.K H a vs ∨ SqT X.K H a vs) (h : Q (.int (r.foldl min i)) H) :
    wpAny (model X.prog X.w) X.A (call (.builtin "min") [.ref a]) (EP X pins σ Q) X.xe s := by
  have dp := rr.dp.1
  rw [pys_ints] at dp
  have fin : ∀ (v : Value) (h' : Heap) (tk : Nat) (bs : List Addr), Reads h' v (PySem.W.minD (.int i) (r.map PyData.int)) bs → (∀ b o, s.heap.get? b = some o → h'.get? b = some o) → EP X pins σ Q v { s with heap := h', toks := tk } := fun v h' tk bs rd hk => by
    rw [PySem.W.minD_ints] at rd
    cases rd
    exact ⟨.int _, H, I.kept hk, ⟨_, rfl⟩, h⟩
  have dl := depth_ints (i :: r)
  rcases hq with hq | hq
  · obtain ⟨its, rv, hl, _⟩ := I.list hq
    obtain ⟨as, ra⟩ := Dp.readsAll I _ _ _ dp rv
    exact PySem.W.min_list_data (I.ok.hd hc) hl.isList (by simpa using ra) (alike_ints1 (i :: r)) (by simp only [List.map_cons] at dl; omega) fun j v h' tk bs _ rd hk => fin v h' tk bs rd hk
  · obtain ⟨its, rv, hl, _⟩ := I.tuple hq
    obtain ⟨as, ra⟩ := Dp.readsAll I _ _ _ dp rv
    exact PySem.W.min_tuple_data (I.ok.hd hc) (isTuple_of hl) (by simpa using ra) (alike_ints1 (i :: r)) (by simp only [List.map_cons] at dl; omega) fun j v h' tk bs _ rd hk => fin v h' tk bs rd hk
theorem sv_blt (b : Bf) {ds : List D} {vs : List V} {us : List Value} (hc : X.calm = true) (hu : X.A.units + 100 < cLine) (I : Inv X pins σ H s) (rv : Vals vs us) (rs : RelS X.K H m S) (rd : RelDs X.K H m ds vs) (h : Post cA X.K m H σ W (bltI b ds S) Q) :
    wpAny (model X.prog X.w) X.A (call b.val us) (EP X pins σ Q) X.xe s := by
  unfold bltI at h
  split at h
  · obtain ⟨v, rfl, r1⟩ := rd.one
    cases r1 with
    | p r1 =>
      cases r1 with
      | str z hs => exact call_len_str pins s σ H _ us Q I rv ⟨_, rfl, by rw [len_mkS, line_eq]; exact hs.1, by rw [len_mkS]; exact h.dat rs (.int _)⟩
  · obtain ⟨v, rfl, r1⟩ := rd.one
    cases r1 with
    | p r1 => cases r1 with | tup hq r => exact call_len_seq pins s σ H _ us Q I rv ⟨_, _, rfl, .inr hq, by rw [← r.length]; exact h.dat rs (.int _)⟩
  · obtain ⟨v, rfl, r1⟩ := rd.one
    cases r1 with
    | mt hq r => exact call_len_seq pins s σ H _ us Q I rv ⟨_, _, rfl, .inr hq, by rw [← r.length]; exact h.dat rs (.int _)⟩
  · split at h
    · rename_i hx
      obtain ⟨v, rfl, r1⟩ := rd.one
      cases r1 with
      | ref ha =>
        obtain ⟨a, ws, ea, hq, r⟩ := rs.lst hx
        rw [ha] at ea; cases ea
        exact call_len_seq pins s σ H _ us Q I rv ⟨_, _, rfl, .inl hq, by rw [← r.length]; exact h.dat rs (.int _)⟩
    · exact h.elim
  · obtain ⟨v, rfl, r1⟩ := rd.one
    cases r1 with | p r1 => cases r1; exact call_int1 pins s σ H _ us Q I rv (.inl ⟨_, rfl, h.dat rs (.int _)⟩)
  · obtain ⟨v, rfl, r1⟩ := rd.one
    cases r1 with | p r1 => cases r1; exact call_int1 pins s σ H _ us Q I rv (.inr ⟨_, rfl, h.dat rs (.int _)⟩)
  · rename_i c
    obtain ⟨v, rfl, r1⟩ := rd.one
    cases r1 with
    | p r1 => cases r1 with | str _ hs => exact call_ord pins s σ H _ us Q I rv ⟨_, rfl, rfl, h.dat rs (.int _)⟩
  · split at h
    · rename_i i hi
      obtain ⟨v, rfl, r1⟩ := rd.one
      cases r1 with
      | p r1 => cases r1; exact call_str_int pins s σ H _ us Q I rv ⟨_, rfl, hi, by rw [numS_eq]; exact h.dat rs (.str _ (okS_num hi))⟩
    · exact h.elim
  · split at h
    · rename_i xs hx
      obtain ⟨v, rfl, r1⟩ := rd.one
      obtain ⟨a, ws, e1, r, hq⟩ := data_of rs hx r1; subst e1
      rcases hq with hq | ⟨hq, q2⟩
      · exact call_tuple_of pins s σ H _ us Q I rv ⟨a, ws, rfl, .inl ⟨hq, h.newt rs r⟩⟩
      · exact call_tuple_of pins s σ H _ us Q I rv ⟨a, ws, rfl, .inr ⟨hq, h.dat rs q2⟩⟩
    · exact h.elim
  · split at h
    · rename_i xs hx
      obtain ⟨v, rfl, r1⟩ := rd.one
      obtain ⟨a, ws, e1, r, hq⟩ := data_of rs hx r1; subst e1
      refine call_list_of pins s σ H _ us Q I rv ⟨a, ws, rfl, ?_, h.newl rs rfl (relO_pl r)⟩
      rcases hq with hq | ⟨hq, _⟩
      · exact .inl hq
      · exact .inr hq
    · exact h.elim
  · split at h
    · rename_i xs hx
      split at h
      · rename_i ys hy
        obtain ⟨v, rfl, r1⟩ := rd.one
        obtain ⟨a, ws, e1, r, hq⟩ := data_of rs hx r1; subst e1
        rw [Vals.ref1 rv]
        have hq' : SqL X.K H a ws ∨ SqT X.K H a ws := hq.imp id (·.1)
        exact sv_sorted hu I r hq' hy fun p zs hp rz => h.newl rs rfl (relO_pl rz) p hp
      · exact h.elim
    · exact h.elim
  · split at h
    · rename_i hn
      split at h
      · rename_i bs hb
        obtain ⟨v, rfl, r1⟩ := rd.one
        obtain ⟨a, ws, e1, h1, r, _⟩ := pl_of rs hn r1; subst e1
        exact cr_all hc pins s σ H _ us Q I rv ⟨a, bs, rfl, by rw [← bools_of r hb]; exact SqL.of h1, h.dat rs (.bl _)⟩
      · exact h.elim
    · exact h.elim
  · split at h
    · rename_i hn
      split at h
      · rename_i bs hb
        obtain ⟨v, rfl, r1⟩ := rd.one
        obtain ⟨a, ws, e1, h1, r, _⟩ := pl_of rs hn r1; subst e1
        exact cr_any hc pins s σ H _ us Q I rv ⟨a, bs, rfl, by rw [← bools_of r hb]; exact SqL.of h1, h.dat rs (.bl _)⟩
      · exact h.elim
    · exact h.elim
  · split at h
    · rename_i hn
      split at h
      · rename_i bs hb
        obtain ⟨v, rfl, r1⟩ := rd.one
        obtain ⟨a, ws, e1, h1, r, _⟩ := pl_of rs hn r1; subst e1
        exact cr_sum hc pins s σ H _ us Q I rv ⟨a, bs, rfl, by rw [← ints_of r hb]; exact SqL.of h1, h.dat rs (.int _)⟩
      · exact h.elim
    · exact h.elim
  · obtain ⟨v, w, rfl, r1, r2⟩ := rd.two
    cases r1 with | p r1 => cases r1; cases r2 with | p r2 => cases r2; exact call_max2 hc pins s σ H _ us Q I rv ⟨_, _, rfl, h.dat rs (.int _)⟩
  · obtain ⟨v, w, rfl, r1, r2⟩ := rd.two
    cases r1 with | p r1 => cases r1; cases r2 with | p r2 => cases r2; exact call_min2 hc pins s σ H _ us Q I rv ⟨_, _, rfl, h.dat rs (.int _)⟩
  · split at h
    · rename_i xs hx
      split at h
      · rename_i i r hi
        obtain ⟨v, rfl, r1⟩ := rd.one
        obtain ⟨a, ws, e1, rr, hq⟩ := data_of rs hx r1; subst e1
        rw [Vals.ref1 rv]
        obtain rfl := ints_pd hi
        exact sv_max1 hc hu I rr (hq.imp id (·.1)) (h.dat rs (.int _))
      · exact h.elim
    · exact h.elim
  · split at h
    · rename_i xs hx
      split at h
      · rename_i i r hi
        obtain ⟨v, rfl, r1⟩ := rd.one
        obtain ⟨a, ws, e1, rr, hq⟩ := data_of rs hx r1; subst e1
        rw [Vals.ref1 rv]
        obtain rfl := ints_pd hi
        exact sv_min1 hc hu I rr (hq.imp id (·.1)) (h.dat rs (.int _))
      · exact h.elim
    · exact h.elim
  · obtain ⟨v, rfl, r1⟩ := rd.one
    cases r1 with | p r1 => cases r1; exact call_abs pins s σ H _ us Q I rv ⟨_, rfl, h.dat rs (.int _)⟩
  · exact h.elim
end
end PH

set_option maxHeartbeats 4000000
/-! PH, part F: methods, isinstance, stores by values; targets. -/
namespace PySem.AutoSeq1
open PySem AutoSeq1 PySem.Spec PyProof.Rows
theorem PHX.ext_tup (l : Addr) (items : Array Value) (n : Nat) (b : Addr) (items2 : Array Value) (n2 : Nat) (d0 : Option Addr) (sl : Array (Option Value)) (hs0 : ¬(!items.isEmpty && Builtin.List.listTooLong (items.size + items2.size)) = true) (hs1 : items.size ≤ sizeLine) (hs2 : items.size + items2.size ≤ sizeLine + 1) :
    Meets (Builtin.«list.extend» ⟨[.ref l, .ref b], []⟩) (fun _ R s => s.heap.get? l = some { cls := .type "list", dict := none, data := .seq items n, slots := #[] } ∧ s.heap.get? b = some { cls := .type "tuple", dict := d0, data := .seq items2 n2, slots := sl } ∧ R (.ok (.ret Value.none)) { s with heap := s.heap.update l (Obj.mapSeq fun x => x ++ items2), toks := s.toks }) :=
  .of_wp fun prog w A R s h => by
    obtain ⟨hp, g, d, tk, os⟩ := s; obtain ⟨hl, hb, h⟩ := h; have f1 := idx_int; have f2 := sub_tuple_tuple; have f3 := sub_list_list; have f4 := sub_tuple_list; have f5 := sub_list_tuple;
    have hz' : (items ++ items2).size ≤ sizeLine + 1 := by rw [Array.size_append]; exact hs2
    wp_walk using (wpAny_updateSeq hl rfl (hz := hs1) (_hz' := hz')), wpAny_loadPart' hl, wpAny_loadPart' hb; exact ⟨_, rfl, h⟩
end PySem.AutoSeq1
namespace PH
open L2 PySem PySem.Spec PyProof.Rows
def rExtT (K : Fg) : V → List V → Hp → VK → Prop := fun x vs H Q => ∃ l b xs zs, x = .ref l ∧ vs = [.ref b] ∧ H l = some (.lst xs) ∧ SqT K H b zs ∧ xs.length + zs.length ≤ sizeLine ∧ Q .non (upd H l (.lst (xs ++ zs)))
theorem mt_extT {X : Cx} : MtM X "list.extend" (rExtT X.K) := by
  intro pins s σ H x vs v us Q I rx rv h
  obtain ⟨l, b, xs, zs, rfl, rfl, hH, hB, hz, q⟩ := h
  cases rx
  obtain ⟨u, rfl, ru⟩ := rv.one
  cases ru
  obtain ⟨z, its, n, r, hl, e⟩ := I.lstM hH
  obtain ⟨its2, r2, ⟨o, e2, hc, n2, hd⟩, hl2⟩ := I.tuple hB
  have hlen1 : its.length = xs.length := r.length.symm
  have hlen2 : its2.length = zs.length := r2.length.symm
  have hsz : its.toArray.size + its2.toArray.size ≤ sizeLine := by rw [List.size_toArray, List.size_toArray]; omega
  have hlong : ¬ (!its.toArray.isEmpty && Builtin.List.listTooLong (its.toArray.size + its2.toArray.size)) = true := by
    rw [notLongL hsz, Bool.and_false]
    exact Bool.false_ne_true
  obtain ⟨oc, od, odat, osl⟩ := o
  dsimp only at hc hd
  subst hc hd
  refine call_meets F.slot_list_extend ⟨_, e, rfl⟩ F.entry_list_extend (F.args_list_extend_2 _ _)
    (PySem.AutoSeq1.PHX.ext_tup l its.toArray n b its2.toArray n2 od osl hlong (by rw [List.size_toArray]; omega) (by omega)) ⟨e, e2, ?_⟩
  refine ⟨.non, _, I.lset (its' := its ++ its2) hH e (by simp) (r.append r2) ?_, rfl, q⟩
  rw [List.length_append]
  omega
def Mt.nm : Mt → Str
  | .append => "append" | .extend => "extend" | .pop => "pop" | .join => "join" | .split => "split" | .find => "find" | .index => "index"
def Mt.T : Mt → String
  | .append | .extend | .pop => "list"
  | _ => "str"
def Mt.id : Mt → String
  | .append => "list.append" | .extend => "list.extend" | .pop => "list.pop" | .join => "str.join" | .split => "str.split" | .find => "str.find" | .index => "str.index"
theorem Mt.pa : ∀ k : Mt, PlainAttrs k.T := fun k => by cases k <;> first | exact F.plainAttrs_list | exact F.plainAttrs_str
theorem Mt.slot : ∀ k : Mt, Slot k.T k.nm k.id
  | .append => F.slot_list_append | .extend => F.slot_list_extend | .pop => F.slot_list_pop | .join => F.slot_str_join | .split => F.slot_str_split | .find => F.slot_str_find | .index => F.slot_str_index
theorem Mt.ty : ∀ k : Mt, typeOf (.builtin k.id) = pure (.type "method_descriptor")
  | .append => F.type_list_append | .extend => F.type_list_extend | .pop => F.type_list_pop | .join => F.type_str_join | .split => F.type_str_split | .find => F.type_str_find | .index => F.type_str_index
def Ty.nm : Ty → Str
  | .int => "int" | .bool => "bool" | .str => "str" | .tuple => "tuple" | .list => "list" | .dict => "dict"
def Ty.n : Ty → String
  | .int => "int" | .bool => "bool" | .str => "str" | .tuple => "tuple" | .list => "list" | .dict => "dict"
theorem Ty.boot : ∀ b : Ty, bootBuiltins b.nm = some (.type b.n) := fun b => by cases b <;> decide +kernel
theorem Ty.ne : ∀ b : Ty, b.nm ≠ "__name__" ∧ (b.nm == ("__debug__" : Str)) = false := fun b => by cases b <;> decide +kernel
/-- the name of a value's type -/
def tyName (S : Sto) (d : D) : String := match d with
  | .p .non => "NoneType" | .p (.bl _) => "bool" | .p (.int _) => "int" | .p (.str _) => "str" | .p (.tup _) => "tuple" | .mt _ => "tuple" | .xv _ _ _ _ => "tuple" | .ref n => if Sto.isD S n then "dict" else "list"
theorem kit_all : ∀ a ∈ ["NoneType", "bool", "int", "str", "tuple", "list", "dict"], ∀ b ∈ ["int", "bool", "str", "tuple", "list", "dict"], kitB a b = some (decide (a = b) || (decide (a = "bool") && decide (b = "int"))) := by decide +kernel
section
variable {cA : Ca} {X : Cx} {pins : List (Addr × Obj)} {σ : L2.St} {H : Hp} {s : Shared} {m : List Addr} {S : Sto} {W : WX} {Q : VK} {x y z : V} {u v t : Value} {d e : D} {k : Nat}

/-! ### isinstance -/
theorem sqt_ty {a : Addr} {vs : List V} (h : SqT X.K H a vs) : TyX X.K H (.ref a) (.type "tuple") := by
  rcases h with (h | ⟨o, h⟩) | ⟨o, its, n, h1, h2, _⟩
  · exact .base (.tup h)
  · exact .fTuple h
  · exact .kTuple h1 h2
theorem sv_ty (rs : RelS X.K H m S) (rd : RelD X.K H m d x) (hk : known d S = true) : TyX X.K H x (.type (tyName S d)) := by
  cases rd with
  | p r =>
    cases r with
    | non => exact .base .non
    | bl b => exact .base (.bl b)
    | int i => exact .base (.int i)
    | str s h => exact .base (.str _)
    | tup h r => exact sqt_ty h
  | mt h r => exact sqt_ty h
  | xv h r => cases hk
  | @ref n a ha =>
    simp only [known, Bool.and_eq_true] at hk
    obtain ⟨o, ho⟩ := Option.isSome_iff_exists.mp hk.1
    obtain ⟨b, eb, ro⟩ := rs.ob _ _ ho
    rw [ha] at eb; cases eb
    cases ro with
    | pl h r => simp only [tyName, Sto.isD, ho]; exact .base (.lst h)
    | ml h r => simp only [tyName, Sto.isD, ho]; exact .base (.lst h)
    | dc h r => simp only [tyName, Sto.isD, ho]; exact .base (.dK h)
    | ob h cl r => exact absurd hk.2 (by simp [Sto.isO, ho])
    | fz h r =>
      simp only [tyName, Sto.isD, ho]
      rcases h with ⟨o, h⟩ | ⟨o, its, n, h1, h2, _⟩
      · exact .base (.frz h)
      · exact .kList h1 h2
theorem isTy_kit (t : Ty) (hk : known d S = true) : PySem.W.kitOne X.K (.type (tyName S d)) (.type t.n) = some (isTy d S t) := by
  refine kit_ty ?_
  have hk' : ∀ n, d = .ref n → (∃ o, S[n]? = some o) ∧ Sto.isO S n = false := fun n e => by subst e; simp only [known, Bool.and_eq_true, Bool.not_eq_true'] at hk; exact ⟨Option.isSome_iff_exists.mp hk.1, hk.2⟩
  have h := kit_all (tyName S d) (by
    cases d with
    | p x => cases x <;> simp [tyName]
    | ref n => cases q : Sto.isD S n <;> simp [tyName, q]
    | xv a d c fs => cases hk
    | mt xs => simp [tyName]) t.n (by cases t <;> simp [Ty.n])
  rw [h]
  congr 1
  cases d with
  | p x => cases x <;> cases t <;> rfl
  | ref n =>
    obtain ⟨⟨o, ho⟩, hno⟩ := hk' n rfl
    cases o <;> first | (exfalso; simp [Sto.isO, ho] at hno; done) | (cases t <;> simp [tyName, Ty.n, isTy, Sto.lst, Sto.isD, ho, O.isL])
  | xv a d c fs => cases hk
  | mt xs => cases t <;> rfl
theorem kitAny_map {K : Fg} {t : Value} {f : Ty → Bool} : ∀ ts : List Ty, (∀ c ∈ ts, PySem.W.kitOne K t (.type c.n) = some (f c)) → PySem.W.kitAny K t (ts.map fun c => Value.type c.n) = some (ts.any f)
  | [], _ => rfl
  | c :: ts, h => by
    rw [List.map_cons, List.any_cons]
    refine kitAny_cons (h c List.mem_cons_self) (fun hb => ?_) fun hb => ?_
    · rw [kitAny_map ts fun c hc => h c (List.mem_cons_of_mem _ hc), hb, Bool.false_or]
    · rw [hb, Bool.true_or]

/-! ### methods -/
theorem sv_recv {mt : Mt} (rs : RelS X.K H m S) (rd : RelD X.K H m d x) (h : recv mt d S = true) : tyV X.K mt.T x H := by
  unfold recv at h
  split at h
  · simp only [Bool.and_eq_true] at h
    obtain ⟨xs, hx⟩ := Option.isSome_iff_exists.mp h.2
    cases rd with
    | ref ha =>
      obtain ⟨a, vs, ea, hq, _⟩ := rs.lst hx
      rw [ha] at ea; cases ea
      exact .inl ⟨by (cases mt <;> first | rfl | (cases h.1)), _, hq⟩
  · cases rd with
    | p r =>
      cases r with
      | str z hs => cases mt <;> first | rfl | (exact absurd h (by decide))
  · cases h
theorem sum_le : ∀ {ys : List Cs}, (ys.map (·.length)).sum = ((ys.map mkS).map (·.length)).sum
  | [] => rfl
  | y :: ys => by simp only [List.map_cons, List.sum_cons, len_mkS, sum_le (ys := ys)]
theorem joinL_len (s : Cs) : ∀ ys : List Cs, (TL.joinL s ys).length ≤ (ys.map (·.length)).sum + ys.length * s.length
  | [] => by simp [TL.joinL]
  | [y] => by simp [TL.joinL]
  | y :: z :: r => by
    have ih := joinL_len s (z :: r)
    simp only [TL.joinL, List.length_append, List.map_cons, List.sum_cons, List.length_cons, Nat.add_mul, Nat.one_mul] at ih ⊢
    omega
theorem joinL_mem (s : Cs) {c : Nat} : ∀ ys : List Cs, c ∈ TL.joinL s ys → c ∈ s ∨ ∃ y ∈ ys, c ∈ y
  | [], h => by simp [TL.joinL] at h
  | [y], h => .inr ⟨y, by simp, by simpa [TL.joinL] using h⟩
  | y :: z :: r, h => by
    simp only [TL.joinL, List.mem_append] at h
    rcases h with h | h | h
    · exact .inr ⟨y, by simp, h⟩
    · exact .inl h
    · rcases joinL_mem s (z :: r) h with q | ⟨w, hw, q⟩
      · exact .inl q
      · exact .inr ⟨w, List.mem_cons_of_mem _ hw, q⟩
theorem spl_mem (t : Cs) {c : Nat} : ∀ (s : Cs) (k : Nat) (acc : Cs) (p : Cs), p ∈ TL.spl t k acc s → c ∈ p → c ∈ acc ∨ c ∈ s
  | [], k, acc, p, h, hc => by
    rw [TL.spl_nil] at h
    rw [List.mem_singleton.mp h] at hc
    exact .inl hc
  | a :: s, 0, acc, p, h, hc => by
    cases q : TL.pre t (a :: s) with
    | true =>
      rw [TL.spl_hit q] at h
      rcases List.mem_cons.mp h with rfl | h
      · exact .inl hc
      · rcases spl_mem t s _ _ p h hc with z | z
        · simp at z
        · exact .inr (List.mem_cons_of_mem _ z)
    | false =>
      rw [TL.spl_miss q] at h
      rcases spl_mem t s _ _ p h hc with z | z
      · rcases List.mem_append.mp z with z | z
        · exact .inl z
        · rw [List.mem_singleton.mp z]; exact .inr List.mem_cons_self
      · exact .inr (List.mem_cons_of_mem _ z)
  | a :: s, k + 1, acc, p, h, hc => by
    rw [TL.spl_pass] at h
    rw [List.drop_succ_cons] at h
    rw [← TL.spl_pass] at h
    rcases spl_mem t s _ _ p h hc with z | z
    · exact .inl z
    · exact .inr (List.mem_cons_of_mem _ z)
theorem spl_len (t : Cs) : ∀ (s : Cs) (k : Nat) (acc p : Cs), p ∈ TL.spl t k acc s → p.length ≤ acc.length + s.length
  | [], k, acc, p, h => by
    rw [TL.spl_nil] at h
    rw [List.mem_singleton.mp h]; simp
  | a :: s, 0, acc, p, h => by
    cases q : TL.pre t (a :: s) with
    | true =>
      rw [TL.spl_hit q] at h
      rcases List.mem_cons.mp h with rfl | h
      · simp
      · have := spl_len t s _ _ p h
        simp only [List.length_nil, List.length_cons] at this ⊢
        omega
    | false =>
      rw [TL.spl_miss q] at h
      have := spl_len t s _ _ p h
      simp only [List.length_append, List.length_cons, List.length_nil] at this ⊢
      omega
  | a :: s, k + 1, acc, p, h => by
    rw [TL.spl_pass, List.drop_succ_cons, ← TL.spl_pass] at h
    have := spl_len t s _ _ p h
    simp only [List.length_cons]
    omega
theorem rel_strs {K : Fg} : ∀ {ys : List Cs}, (∀ y ∈ ys, okS y) → RelPs K H (ys.map .str) ((ys.map mkS).map V.str)
  | [], _ => .nil
  | y :: ys, h => .cons (.str y (h y List.mem_cons_self)) (rel_strs fun z hz => h z (List.mem_cons_of_mem _ hz))
theorem push_rel {o o' : O} {a : Addr} {w : V} (ro : RelO X.K H m a o) (hp : o.push d = some o') (rd : RelD X.K H m d w) : ∃ vs, H a = some (.lst vs) ∧ o.mut = true ∧ o'.mut = true ∧ vs.length = o.ds.length ∧ RelO X.K (upd H a (.lst (vs ++ [w]))) m a o' := by
  cases ro with
  | @pl xs vs h r =>
    have kp : Kp X.K H (upd H a (.lst (vs ++ [w]))) := kp_upd (.inr ⟨_, h⟩)
    cases d with
    | p z =>
      simp only [O.push, Option.some.injEq] at hp
      subst hp
      cases rd with | p rd => exact ⟨vs, h, rfl, rfl, by simp [O.ds, r.length], .pl upd_same ((r.append (.cons rd .nil)).mono kp)⟩
    | ref n =>
      simp only [O.push, Option.some.injEq] at hp
      subst hp
      have := (r.up.append (.cons rd .nil)).mono kp []
      exact ⟨vs, h, rfl, rfl, by simp [O.ds, r.length], .ml upd_same (by simpa using this)⟩
    | mt zs =>
      simp only [O.push, Option.some.injEq] at hp
      subst hp
      have := (r.up.append (.cons rd .nil)).mono kp []
      exact ⟨vs, h, rfl, rfl, by simp [O.ds, r.length], .ml upd_same (by simpa using this)⟩
    | xv z1 z2 z3 z4 =>
      simp only [O.push, Option.some.injEq] at hp
      subst hp
      have := (r.up.append (.cons rd .nil)).mono kp []
      exact ⟨vs, h, rfl, rfl, by simp [O.ds, r.length], .ml upd_same (by simpa using this)⟩
  | @ml xs vs h r =>
    have kp : Kp X.K H (upd H a (.lst (vs ++ [w]))) := kp_upd (.inr ⟨_, h⟩)
    simp only [O.push, Option.some.injEq] at hp
    subst hp
    have := (r.append (.cons rd .nil)).mono kp []
    exact ⟨vs, h, rfl, rfl, by simp [O.ds, r.length], .ml upd_same (by simpa using this)⟩
  | fz h r => simp [O.push] at hp
  | dc h r => simp [O.push] at hp
  | ob h cl r => simp [O.push] at hp
theorem last_get {α : Type} {xs : List α} {y : α} (h : xs.getLast? = some y) : xs[xs.length - 1]? = some y := by rw [← h, List.getLast?_eq_getElem?]
theorem sv_mth (mt : Mt) {ds : List D} {vs : List V} {us : List Value} (I : Inv X pins σ H s) (rx : RelV x v) (rv : Vals vs us) (rs : RelS X.K H m S) (dx : RelD X.K H m d x) (rd : RelDs X.K H m ds vs) (h : Post cA X.K m H σ W (mthI mt d ds S) Q) :
    wpAny (model X.prog X.w) X.A (call (.builtin mt.id) (v :: us)) (EP X pins σ Q) X.xe s := by
  unfold mthI at h
  split at h
  · split at h
    · rename_i o hn
      split at h
      · rename_i hz
        split at h
        · rename_i o' hp
          obtain ⟨w, rfl, r1⟩ := rd.one
          cases dx with
          | ref ha =>
            obtain ⟨a, ea, ro⟩ := rs.ob _ _ hn
            rw [ha] at ea; cases ea
            obtain ⟨vs, h1, m1, m2, hl, ro'⟩ := push_rel ro hp r1
            refine mt_append pins s σ H _ _ v us Q I rx rv ⟨_, _, _, rfl, rfl, h1, by rw [hl, line_eq]; exact hz, ?_⟩
            exact h m _ .non (Ext.put h1) (rs.put hn m1 ha h1 ro' m2) (.p .non)
        · exact h.elim
      · exact h.elim
    · exact h.elim
  · split at h
    · rename_i xs ys hn hk
      split at h
      · rename_i hz
        obtain ⟨w, rfl, r1⟩ := rd.one
        obtain ⟨b, ws, e1, h2, q2, _⟩ := pl_of rs hk r1
        subst e1
        obtain ⟨a, zs, e1, h1, q1, ha⟩ := pl_of rs hn dx
        subst e1
        have l1 := q1.length
        have l2 := q2.length
        refine mt_extend pins s σ H _ _ v us Q I rx rv ⟨_, _, _, _, rfl, rfl, h1, h2, by rw [line_eq, ← l1, ← l2]; exact hz, ?_⟩
        exact h m _ .non (Ext.put h1) (rs.put hn rfl ha h1 (.pl upd_same ((q1.append q2).mono (kp_upd (.inr ⟨_, h1⟩)))) rfl) (.p .non)
      · exact h.elim
    · exact h.elim
  · split at h
    · rename_i xs hn
      split at h
      · rename_i hz
        obtain ⟨w, rfl, r1⟩ := rd.one
        obtain ⟨a, zs, e1, h1, q1, ha⟩ := pl_of rs hn dx
        subst e1
        cases r1 with
        | p r1 =>
          cases r1 with
          | tup hq q2 =>
            have l1 := q1.length
            have l2 := q2.length
            refine mt_extT pins s σ H _ _ v us Q I rx rv ⟨_, _, _, _, rfl, rfl, h1, hq, by rw [line_eq, ← l1, ← l2]; exact hz, ?_⟩
            exact h m _ .non (Ext.put h1) (rs.put hn rfl ha h1 (.pl upd_same ((q1.append q2).mono (kp_upd (.inr ⟨_, h1⟩)))) rfl) (.p .non)
      · exact h.elim
    · exact h.elim
  · split at h
    · rename_i n xs hn
      split at h
      · rename_i y hy
        cases rd
        obtain ⟨a, zs, e1, h1, q1, ha⟩ := pl_of rs hn dx
        subst e1
        obtain ⟨w, hw, rw⟩ := q1.get (last_get hy)
        have kp : Kp X.K H (upd H a (.lst zs.dropLast)) := kp_upd (.inr ⟨_, h1⟩)
        refine mt_pop pins s σ H _ _ v us Q I rx rv ⟨_, _, w, rfl, rfl, h1, by rw [← q1.length]; exact hw, ?_⟩
        exact h m _ w (Ext.put h1) (rs.put hn rfl ha h1 (.pl upd_same (q1.dropLast.mono kp)) rfl) (.p (rw.mono kp))
      · exact h.elim
    · rename_i n xs hn
      split at h
      · rename_i y hy
        cases rd
        cases dx with
        | @ref _ a ha =>
          obtain ⟨b, ea, ro⟩ := rs.ob _ _ hn
          rw [ha] at ea; cases ea
          cases ro with
          | @ml _ zs h1 q1 =>
            obtain ⟨w, hw, rw⟩ := q1.get (last_get hy)
            have kp : Kp X.K H (upd H a (.lst zs.dropLast)) := kp_upd (.inr ⟨_, h1⟩)
            have e1 := q1.dropLast.mono kp []
            have e2 := rw.mono kp []
            refine mt_pop pins s σ H _ _ v us Q I rx rv ⟨_, _, w, rfl, rfl, h1, by rw [← q1.length]; exact hw, ?_⟩
            exact h m _ w (Ext.put h1) (rs.put hn rfl ha h1 (.ml upd_same (by simpa using e1)) rfl) (by simpa using e2)
      · exact h.elim
    · exact h.elim
  · split at h
    · rename_i ss hs
      split at h
      · rename_i hz
        obtain ⟨w, rfl, r1⟩ := rd.one
        obtain ⟨xs, hx, hs⟩ := Option.bind_eq_some_iff.mp hs
        obtain ⟨a, ws, e1, r, hq⟩ := data_of rs hx r1
        subst e1
        obtain ⟨e2, ok⟩ := strs_of r hs
        subst e2
        cases dx with
        | p dx =>
          cases dx with
          | str z hz0 =>
            have hq' : SqL X.K H a ((ss.map mkS).map V.str) ∨ SqT X.K H a ((ss.map mkS).map V.str) := hq.imp id (·.1)
            refine mt_join pins s σ H _ _ v us Q I rx rv ⟨_, a, ss.map mkS, rfl, rfl, hq', ?_, ?_⟩
            · rw [← sum_le, List.length_map, len_mkS]; exact hz
            · have e3 : ∀ z0, Txt.join (mkS z0) (ss.map mkS) = mkS (TL.joinL z0 ss) := fun z0 => by
                rw [TL.join_eq]
                have := TL.tl_join (mkS z0) (ss.map mkS)
                rw [List.map_map] at this
                have e4 : ss.map (TL.tl ∘ mkS) = ss := by
                  conv => rhs; rw [← List.map_id ss]
                  exact List.map_congr_left fun _ _ => rfl
                rw [e4] at this
                rw [← mkS_of (Str.join (mkS z0) (ss.map mkS))]
                exact congrArg mkS this
              rw [e3]
              refine h.dat rs (.str _ ⟨Nat.le_trans (joinL_len _ _) hz, fun c hc => ?_⟩)
              rcases joinL_mem _ _ hc with q | ⟨y, hy, q⟩
              · exact hz0.2 c q
              · exact (ok y hy).2 c q
      · exact h.elim
    · exact h.elim
  · obtain ⟨w, rfl, r1⟩ := rd.one
    cases dx with
    | p dx =>
      cases dx with
      | str z hz0 =>
        cases r1 with
        | p r1 => cases r1 with | str z2 hz2 => exact mt_find pins s σ H _ _ v us Q I rx rv ⟨_, _, rfl, rfl, h.dat rs (.int _)⟩
  · split at h
    · rename_i i rest ho
      obtain ⟨w, rfl, r1⟩ := rd.one
      cases dx with
      | p dx =>
        cases dx with
        | str z hz0 =>
          cases r1 with
          | p r1 => cases r1 with | str z2 hz2 => exact mt_sindex pins s σ H _ _ v us Q I rx rv ⟨_, _, i, rest, rfl, rfl, by rw [len_mkS]; exact ho, h.dat rs (.int _)⟩
    · exact h.elim
  · split at h
    · rename_i s0 t0 hc
      obtain ⟨c1, c2, c3⟩ := hc
      obtain ⟨w, rfl, r1⟩ := rd.one
      cases dx with
      | p dx =>
        cases dx with
        | str z hz0 =>
          cases r1 with
          | p r1 =>
            cases r1 with
            | str z2 hz2 =>
              have ne : TL.tl (mkS t0) ≠ [] := c1
              have kd := TL.kind_ok (x := mkS s0) (y := mkS t0) (by simpa [mkS] using c2)
              have e := TL.split_spl (mkS s0) (mkS t0) ne kd
              have e2 : Txt.split (mkS s0) (mkS t0) = (TL.spl t0 0 [] s0).map mkS := by
                rw [← show TL.spl (TL.tl (mkS t0)) 0 [] (TL.tl (mkS s0)) = TL.spl t0 0 [] s0 from rfl, ← e, List.map_map]
                conv => lhs; rw [← List.map_id (Txt.split (mkS s0) (mkS t0))]
                exact List.map_congr_left fun q _ => (mkS_of q).symm
              refine mt_split pins s σ H _ _ v us Q I rx rv ⟨_, _, rfl, rfl, ?_, by rw [len_mkS, line_eq]; exact c3, ?_⟩
              · rw [len_mkS]
                cases t0 with
                | nil => exact absurd rfl c1
                | cons a r => simp
              · intro p hp
                rw [e2]
                refine h.newl rs rfl (relO_pl (rel_strs fun y hy => ⟨?_, fun c hc => ?_⟩)) p hp
                · have := spl_len _ _ _ _ _ hy
                  have h0 := hz0.1
                  simp only [List.length_nil] at this
                  omega
                · rcases spl_mem _ _ _ _ _ hy hc with q | q
                  · simp at q
                  · exact hz0.2 c q
    · exact h.elim
  · exact h.elim

/-! ### o[i] = v -/
theorem sv_sub {S' : Sto} {f : D} {w : V} {q : Hp → Prop} (rs : RelS X.K H m S) (dx : RelD X.K H m d x) (dy : RelD X.K H m e y) (dw : RelD X.K H m f w) (h : subI d e f S = some S') (hq : ∀ H', Ext X.K H m H' m → RelS X.K H' m S' → q H') : rSetL x y w H q := by
  unfold subI at h
  split at h
  · split at h
    · rename_i hn
      obtain ⟨j, hj, rfl⟩ := Option.map_eq_some_iff.mp h
      obtain ⟨a, zs, e1, h1, q1, ha⟩ := pl_of rs hn dx
      subst e1
      cases dy with
      | p dy =>
        cases dy
        cases dw with
        | p dw =>
          refine ⟨a, zs, _, j, rfl, rfl, h1, by rw [← q1.length]; exact hj, hq _ (Ext.put h1) (rs.put hn rfl ha h1 (.pl upd_same ((RelPs.set dw j q1).mono (kp_upd (.inr ⟨_, h1⟩)))) rfl)⟩
    · rename_i hn
      obtain ⟨j, hj, rfl⟩ := Option.map_eq_some_iff.mp h
      cases dx with
      | ref ha =>
        obtain ⟨a, ea, ro⟩ := rs.ob _ _ hn
        rw [ha] at ea; cases ea
        cases ro with
        | @ml _ zs h1 q1 =>
          cases dy with
          | p dy =>
            cases dy
            have e1 := (RelDs.set dw j q1).mono (kp_upd (o := .lst (zs.set j w)) (.inr ⟨_, h1⟩)) []
            exact ⟨_, zs, _, j, rfl, rfl, h1, by rw [← q1.length]; exact hj, hq _ (Ext.put h1) (rs.put hn rfl ha h1 (.ml upd_same (by simpa using e1)) rfl)⟩
    · cases h
  · cases h
end
end PH

set_option maxHeartbeats 4000000
/-! PH, part G: an expression computes what its term says, construct by construct. -/
namespace PH
open L2 PySem PySem.Spec PyProof.Rows
theorem _root_.L2.PE.imp {X : Cx} {e : Expr} {t t' : TE} (h : PE X e t) (f : ∀ σ H Q, t' σ H Q → t σ H Q) : PE X e t' := ⟨fun pins s σ H Q I q => h.run pins s σ H Q I (f σ H Q q)⟩
theorem _root_.L2.PT.imp {X : Cx} {e : Expr} {t t' : TT} (h : PT X e t) (f : ∀ σ H Q, t' σ H Q → t σ H Q) : PT X e t' := ⟨fun pins s σ H Q I q => h.run pins s σ H Q I (f σ H Q q)⟩
theorem _root_.L2.PW.imp {X : Cx} {e : Expr} {t t' : TT} (h : PW X e t) (f : ∀ σ H Q, t' σ H Q → t σ H Q) : PW X e t' := ⟨fun wh pins s σ H Q I q => h.run wh pins s σ H Q I (f σ H Q q)⟩
theorem _root_.L2.PA.imp {X : Cx} {e : List Expr} {t t' : TA} (h : PA X e t) (f : ∀ σ H Q, t' σ H Q → t σ H Q) : PA X e t' := ⟨fun pos pins s σ H Q I q => h.run pos pins s σ H Q I (f σ H Q q)⟩
/-- no star in front -/
def plain : Expr → Bool
  | .Starred .. => false
  | _ => true
theorem star_cons {e : Expr} {es : List Expr} {env : Env} (h : plain e = true) : starEach (e :: es) env = (false, eval e env) :: starEach es env := by
  cases e <;> first | rfl | cases h
theorem star_any : ∀ {es : List Expr} {env : Env} {pos : Pos}, es.all plain = true → (backTo pos (starEach es env)).any (·.1) = false
  | [], _, _, _ => rfl
  | e :: es, env, pos, h => by
    simp only [List.all_cons, Bool.and_eq_true] at h
    rw [star_cons h.1]
    show (false || (backTo pos (starEach es env)).any (·.1)) = false
    rw [star_any h.2]; rfl
theorem star_all : ∀ {es : List Expr} {env : Env} {pos : Pos}, es.all plain = true → (backTo pos (starEach es env)).all (fun x => !x.1) = true
  | [], _, _, _ => rfl
  | e :: es, env, pos, h => by
    simp only [List.all_cons, Bool.and_eq_true] at h
    rw [star_cons h.1]
    show (!false && (backTo pos (starEach es env)).all (fun x => !x.1)) = true
    rw [star_all h.2]; rfl
section
variable {cA : Ca} {X : Cx} {σ : L2.St} {H : Hp} {m : List Addr} {S : Sto} {ρ : Nv} {W : WX} {Q : VK} {pos : Pos} {a b c x : Expr} {f g h : Nv → Sto → Res D}
/-- behind two values -/
def Fin2 (cA : Ca) (K : Fg) (σ : L2.St) (W : WX) (h : D → D → Sto → Res D) (x y : V) (H : Hp) (Q : VK) : Prop := ∃ m d e S, RelS K H m S ∧ RelD K H m d x ∧ RelD K H m e y ∧ Post cA K m H σ W (h d e S) Q
def Fin1 (cA : Ca) (K : Fg) (σ : L2.St) (W : WX) (h : D → Sto → Res D) (x : V) (H : Hp) (Q : VK) : Prop := ∃ m d S, RelS K H m S ∧ RelD K H m d x ∧ Post cA K m H σ W (h d S) Q
theorem seq1 {k : D → Sto → Res D} (hN : RelN X.K H m ρ σ) (hS : RelS X.K H m S) (hp : Post cA X.K m H σ W ((f ρ S).bind k) Q) : tR cA X.K W f σ H fun x H1 => Fin1 cA X.K σ W k x H1 Q :=
  ⟨m, ρ, S, hN, hS, (Post.bind hp).imp fun _ _ ⟨m1, d, S1, _, _, rs1, rd1, hp1⟩ => ⟨m1, d, S1, rs1, rd1, hp1⟩⟩
theorem seq2 {k : D → D → Sto → Res D} (hN : RelN X.K H m ρ σ) (hS : RelS X.K H m S) (hp : Post cA X.K m H σ W ((f ρ S).bind fun x S => (g ρ S).bind fun y S => k x y S) Q) :
    tR cA X.K W f σ H fun x H1 => tR cA X.K W g σ H1 fun y H2 => Fin2 cA X.K σ W k x y H2 Q :=
  ⟨m, ρ, S, hN, hS, (Post.bind hp).imp fun _ _ ⟨m1, d, S1, _, e1, rs1, rd1, hp1⟩ => ⟨m1, ρ, S1, hN.ext e1, rs1, (Post.bind hp1).imp fun _ _ ⟨m2, d2, S2, _, e2, rs2, rd2, hp2⟩ => ⟨m2, d, d2, S2, rs2, rd1.ext e2, rd2, hp2⟩⟩⟩
/-- behind values -/
theorem seqA {k : List D → Sto → Res D} {g : Nv → Sto → Res (List D)} (hN : RelN X.K H m ρ σ) (hS : RelS X.K H m S) (hp : Post cA X.K m H σ W ((g ρ S).bind k) Q) :
    tA cA X.K W g σ H fun vs H1 => ∃ m1 ds S1, g ρ S = .ok ds S1 ∧ RelS X.K H1 m1 S1 ∧ RelDs X.K H1 m1 ds vs ∧ Post cA X.K m1 H1 σ W (k ds S1) Q :=
  ⟨m, ρ, S, hN, hS, (Post.bindA hp).imp fun _ _ ⟨m1, d, S1, q, _, rs1, rd1, hp1⟩ => ⟨m1, d, S1, q, rs1, rd1, hp1⟩⟩

/-! ### names, constants -/
theorem se_var {i : Nat} {n : Str} (hN : X.N[i]? = some n) (hv : Vis X.env.scope n) (hd : (n == ("__debug__" : Str)) = false) (hcd : (n == ("__classdict__" : Str)) = false) :
    PE X (.Name n pos) (tR cA X.K W fun ρ S => match ρ[i]? with | some (some d) => .ok d S | _ => .stuck) :=
  (pe_var hN hv hd hcd).imp fun σ H Q ⟨m, ρ, S, rn, rs, hp⟩ => by
    dsimp only at hp
    split at hp
    · rename_i d hd
      obtain ⟨v, e, r⟩ := rn.nv i d hd
      exact ⟨v, e, hp m H v .refl rs r⟩
    · exact hp.elim
theorem se_dat {x : PD} {v : V} (he : PE X c (tC v)) (r : ∀ H, RelP X.K H x v) : PE X c (tR cA X.K W fun _ S => ret1 x S) :=
  he.imp fun σ H Q ⟨m, ρ, S, rn, rs, hp⟩ => hp.dat rs (r H)

/-! ### displays -/
theorem sa_nil : PA X [] (tA cA X.K W fun _ S => .ok [] S) := pa_nil.imp fun σ H Q ⟨m, ρ, S, rn, rs, hp⟩ => hp m H [] .refl rs .nil
theorem sa_cons {es : List Expr} {g : Nv → Sto → Res (List D)} (hp : plain a = true) (ha : PE X a (tR cA X.K W f)) (hr : PA X es (tA cA X.K W g)) :
    PA X (a :: es) (tA cA X.K W fun ρ S => (f ρ S).bind fun d S => (g ρ S).bind fun ds S => .ok (d :: ds) S) :=
  (pa_cons ha hr (star_cons hp)).imp fun σ H Q ⟨m, ρ, S, rn, rs, h⟩ =>
    ⟨m, ρ, S, rn, rs, (PostA.bind h).imp fun v H1 ⟨m1, d, S1, _, e1, rs1, rd1, h1⟩ => ⟨m1, ρ, S1, rn.ext e1, rs1, (PostA.bindA h1).imp fun vs H2 ⟨m2, ds, S2, _, e2, rs2, r2, h2⟩ => h2 m2 H2 (v :: vs) .refl rs2 (.cons (rd1.ext e2) r2)⟩⟩
theorem se_tup {es : List Expr} {k : Nat} {g : Nv → Sto → Res (List D)} (hz : es.length ≤ 1000) (ha : PA X es (tA cA X.K W g)) (hl : ∀ ρ S ds S', g ρ S = .ok ds S' → ds.length = es.length) :
    PE X (.Tuple es k pos) (tR cA X.K W fun ρ S => (g ρ S).bind fun ds S => .ok (mkT ds) S) :=
  (pe_tup ha).imp fun σ H Q ⟨m, ρ, S, rn, rs, h⟩ => by
    obtain ⟨m1, ρ1, S1, a1, a2, a3⟩ := seqA rn rs h
    refine ⟨m1, ρ1, S1, a1, a2, a3.imp fun vs H1 ⟨m3, ds, S3, q, rs3, r3, h3⟩ => ⟨?_, sv_tup rs3 r3 h3⟩⟩
    rw [← r3.length, hl ρ S ds S3 q, line_eq]
    exact Nat.le_trans hz (by decide)
theorem se_lst {es : List Expr} {g : Nv → Sto → Res (List D)} (hz : es.length ≤ 1000) (ha : PA X es (tA cA X.K W g)) (hl : ∀ ρ S ds S', g ρ S = .ok ds S' → ds.length = es.length) :
    PE X (.List es pos) (tR cA X.K W fun ρ S => (g ρ S).bind fun ds S => new (mkL ds) S) :=
  (pe_lst ha).imp fun σ H Q ⟨m, ρ, S, rn, rs, h⟩ => by
    obtain ⟨m1, ρ1, S1, a1, a2, a3⟩ := seqA rn rs h
    refine ⟨m1, ρ1, S1, a1, a2, a3.imp fun vs H1 ⟨m3, ds, S3, q, rs3, r3, h3⟩ => ⟨?_, sv_lst rs3 r3 h3⟩⟩
    rw [← r3.length, hl ρ S ds S3 q, line_eq]
    exact Nat.le_trans hz (by decide)

/-! ### operators -/
theorem se_bin {op : Operator} (ha : PE X a (tR cA X.K W f)) (hb : PE X b (tR cA X.K W g)) : PE X (.BinOp a op b pos) (tR cA X.K W fun ρ S => (f ρ S).bind fun x S => (g ρ S).bind fun y S => binI op x y S) :=
  ⟨fun pins s σ H Q I ⟨m, ρ, S, rn, rs, hp⟩ => wpAny_BinOp (bin ha hb I (seq2 rn rs hp) fun v u s2 x y H2 I2 rx ry ⟨m2, d, e, S2, rs2, dx, dy, hp2⟩ => sv_bin I2 rx ry rs2 dx dy hp2)⟩
theorem se_neg (ha : PE X a (tR cA X.K W f)) : PE X (.UnaryOp .USub a pos) (tR cA X.K W fun ρ S => (f ρ S).bind negI) :=
  ⟨fun pins s σ H Q I ⟨m, ρ, S, rn, rs, hp⟩ => UnaryOp_ (thn (ha.run pins s σ H _ I (seq1 rn rs hp)) fun v s1 ⟨x, H1, I1, r1, m1, d, S1, rs1, dx, hp1⟩ => sv_neg I1 r1 rs1 dx hp1)⟩
theorem pc_any {op : CmpOp} (hu : X.A.units + 65 < cLine) (ha : PE X a (tR cA X.K W f)) (hb : PE X b (tR cA X.K W g)) : PC X op a b (tR cA X.K W fun ρ S => (f ρ S).bind fun x S => (g ρ S).bind fun y S => cmpI op x y S) :=
  ⟨fun pins s σ H Q I ⟨m, ρ, S, rn, rs, hp⟩ => bin ha hb I (seq2 rn rs hp) fun v u s2 x y H2 I2 rx ry ⟨m2, d, e, S2, rs2, dx, dy, hp2⟩ => sv_cmp op hu I2 rx ry rs2 dx dy hp2⟩
theorem se_cmp {op : CmpOp} (hu : X.A.units + 65 < cLine) (hm : behindInMarks op b = false) (ha : PE X a (tR cA X.K W f)) (hb : PE X b (tR cA X.K W g)) :
    PE X (.Compare a [op] [b] pos) (tR cA X.K W fun ρ S => (f ρ S).bind fun x S => (g ρ S).bind fun y S => cmpI op x y S) := pe_cmp (pc_any hu ha hb) hm
theorem cmpI_bl {op : CmpOp} {d e r : D} {S S' : Sto} (h : cmpI op d e S = .ok r S') : (∃ k, r = .p (.bl k)) ∧ S' = S := by
  have l : ∀ {o : Option Bool}, lift o S = .ok r S' → (∃ k, r = .p (.bl k)) ∧ S' = S := fun {o} h => by
    cases o with
    | none => cases h
    | some k => cases h; exact ⟨⟨_, rfl⟩, rfl⟩
  cases op <;> simp only [cmpI] at h <;> first
    | exact l h
    | (split at h <;> first | exact l h | (cases h; exact ⟨⟨_, rfl⟩, rfl⟩) | cases h)
theorem cmpI_nx {op : CmpOp} {d e : D} {S S' : Sto} {x : Ex} : cmpI op d e S ≠ .exc x S' := fun h => by
  have l : ∀ {o : Option Bool}, lift o S ≠ .exc x S' := fun {o} h => by cases o <;> cases h
  cases op <;> simp only [cmpI] at h <;> first
    | exact l h
    | (split at h <;> first | exact l h | cases h)
theorem truI_bl {k : Bool} {S : Sto} : truI (.p (.bl k)) S = .ok k S := rfl
theorem truI_nx {d : D} {S S' : Sto} {x : Ex} : truI d S ≠ .exc x S' := fun h => by
  unfold truI at h
  repeat' (first | cases h | split at h)
/-- what a test's reading is made of: the value's reading, then its truth -/
theorem test_of {Q : Bool → Hp → Prop} (hN : RelN X.K H m ρ σ) (hS : RelS X.K H m S) (hp : PostB cA X.K m H σ W ((f ρ S).bind truI) Q) : tR cA X.K W f σ H fun x H' => ∃ k, TruV X.K x H' k ∧ Q k H' :=
  ⟨m, ρ, S, hN, hS, (PostB.bind hp).imp fun v H1 ⟨m1, d, S1, _, e1, rs1, rd1, h1⟩ => by
    cases q : truI d S1 with
    | ok k S2 =>
      rw [q] at h1
      obtain ⟨t, rfl⟩ := sv_tru rs1 rd1 q
      exact ⟨k, t, h1 m1 H1 .refl rs1⟩
    | exc x S2 => exact absurd q truI_nx
    | stuck => rw [q] at h1; exact h1.elim⟩
theorem st_plain (ha : PE X a (tR cA X.K W f)) (he : ∀ whole, isTrue a X.env whole = (do let v ← whole; standAt a.pos; holding [v] (truthy v))) : PT X a (tB cA X.K W fun ρ S => (f ρ S).bind truI) :=
  (pt_truth ha he).imp fun σ H Q ⟨m, ρ, S, rn, rs, hp⟩ => test_of rn rs hp
/-- a value that is True or False, as a test -/
theorem test_bl {Q : Bool → Hp → Prop} (hN : RelN X.K H m ρ σ) (hS : RelS X.K H m S) (hb : ∀ d S', f ρ S = .ok d S' → ∃ k, d = .p (.bl k)) (hp : PostB cA X.K m H σ W ((f ρ S).bind truI) Q) : tR cA X.K W f σ H fun x H' => ∃ k, x = .bl k ∧ Q k H' :=
  ⟨m, ρ, S, hN, hS, (PostB.bind hp).imp fun v H1 ⟨m1, d, S1, q, e1, rs1, rd1, h1⟩ => by
    obtain ⟨k, rfl⟩ := hb _ _ q
    cases rd1 with | p r => cases r; exact ⟨k, rfl, h1 m1 H1 .refl rs1⟩⟩
theorem Res.bind_ok {α β : Type} {r : Res α} {k : α → Sto → Res β} {y : β} {S : Sto} (h : r.bind k = .ok y S) : ∃ x S1, r = .ok x S1 ∧ k x S1 = .ok y S := by
  cases r with
  | ok x S1 => exact ⟨x, S1, rfl, h⟩
  | exc x S1 => cases h
  | stuck => cases h
theorem st_cmp {op : CmpOp} (hu : X.A.units + 65 < cLine) (hm : behindInMarks op b = false) (ha : PE X a (tR cA X.K W f)) (hb : PE X b (tR cA X.K W g)) :
    PT X (.Compare a [op] [b] pos) (tB cA X.K W fun ρ S => ((f ρ S).bind fun x S => (g ρ S).bind fun y S => cmpI op x y S).bind truI) :=
  (pt_cmp (pc_any hu ha hb) hm).imp fun σ H Q ⟨m, ρ, S, rn, rs, hp⟩ => test_bl rn rs (fun d S' h => by
    obtain ⟨x, S1, _, h⟩ := Res.bind_ok h
    obtain ⟨y, S2, _, h⟩ := Res.bind_ok h
    exact (cmpI_bl h).1) hp
/-- a comparison by values, for chains -/
def rC (cA : Ca) (K : Fg) (op : CmpOp) : R2 := fun x y H Q => ∃ m d e S, RelS K H m S ∧ RelD K H m d x ∧ RelD K H m e y ∧ Post cA K m H [] (fun _ _ _ _ => False) (cmpI op d e S) Q
theorem op_any {op : CmpOp} (hu : X.A.units + 65 < cLine) : OpR X (compareOp op) (rC cA X.K op) := fun pins s σ H x y v u Q I rx ry ⟨m, d, e, S, rs, dx, dy, hp⟩ => by
  refine sv_cmp (cA := cA) (W := fun _ _ _ _ => False) op hu I rx ry rs dx dy ?_
  cases q : cmpI op d e S with
  | ok r S1 => rw [q] at hp; exact hp
  | exc x S1 => exact absurd q cmpI_nx
  | stuck => rw [q] at hp; exact hp
theorem Post.swap {r : Res D} {σ' : L2.St} {W' : WX} (hx : ∀ x S, r ≠ .exc x S) (h : Post cA X.K m H σ W r Q) : Post cA X.K m H σ' W' r Q := by
  cases r with
  | ok d S => exact h
  | exc x S => exact absurd rfl (hx x S)
  | stuck => exact h
def chnF (o1 o2 : CmpOp) (f g h : Nv → Sto → Res D) : Nv → Sto → Res D := fun ρ S => (f ρ S).bind fun x S => (g ρ S).bind fun y S => (cmpI o1 x y S).bind fun t S => (truI t S).bind fun k S =>
  if k then (h ρ S).bind fun z S => cmpI o2 y z S else ret1 (.bl false) S
theorem chain_of {o1 o2 : CmpOp} (rn : RelN X.K H m ρ σ) (rs : RelS X.K H m S) (hp : Post cA X.K m H σ W (chnF o1 o2 f g h ρ S) Q) :
    tChain (rC cA X.K o1) (rC cA X.K o2) (tR cA X.K W f) (tR cA X.K W g) (tR cA X.K W h) σ H Q := by
  refine ⟨m, ρ, S, rn, rs, (Post.bind hp).imp fun x H1 ⟨m1, d, S1, _, e1, rs1, rd1, h1⟩ => ⟨m1, ρ, S1, rn.ext e1, rs1, (Post.bind h1).imp fun y H2 ⟨m2, e, S2, _, e2, rs2, rd2, h2⟩ => ?_⟩⟩
  refine ⟨m2, d, e, S2, rs2, rd1.ext e2, rd2, Post.swap (fun _ _ => cmpI_nx) ((Post.bind h2).imp fun t H3 ⟨m3, r, S3, q, e3, rs3, rd3, h3⟩ => ?_)⟩
  obtain ⟨⟨k, rfl⟩, rfl⟩ := cmpI_bl q
  cases rd3 with
  | p rd3 =>
    cases rd3
    refine ⟨k, rfl, ?_⟩
    have h3' : Post cA X.K m3 H3 σ W (if k then (h ρ S3).bind fun z S => cmpI o2 e z S else ret1 (.bl false) S3) Q := h3
    cases k with
    | false =>
      have := (show Post cA X.K m3 H3 σ W (ret1 (.bl false) S3) Q from h3').dat rs3 (.bl false)
      simpa using this
    | true =>
      have h4 : Post cA X.K m3 H3 σ W ((h ρ S3).bind fun z S => cmpI o2 e z S) Q := h3'
      have : tR cA X.K W h σ H3 fun z H4 => rC cA X.K o2 y z H4 Q := ⟨m3, ρ, S3, ((rn.ext e1).ext e2).ext e3, rs3, (Post.bind h4).imp fun z H4 ⟨m4, w, S4, _, e4, rs4, rd4, h5⟩ => ⟨m4, e, w, S4, rs4, (rd2.ext e3).ext e4, rd4, Post.swap (fun _ _ => cmpI_nx) h5⟩⟩
      simpa using this
theorem se_chn {o1 o2 : CmpOp} (hu : X.A.units + 65 < cLine) (hm : lastMarks [o1, o2] [b, c] = false) (ha : PE X a (tR cA X.K W f)) (hb : PE X b (tR cA X.K W g)) (hc : PE X c (tR cA X.K W h)) : PE X (.Compare a [o1, o2] [b, c] pos) (tR cA X.K W (chnF o1 o2 f g h)) :=
  (pe_chain (op_any (cA := cA) hu) (op_any (cA := cA) hu) ha hb hc hm).imp fun σ H Q ⟨m, ρ, S, rn, rs, hp⟩ => chain_of rn rs hp
theorem st_chn {o1 o2 : CmpOp} (hu : X.A.units + 65 < cLine) (hm : lastMarks [o1, o2] [b, c] = false) (ha : PE X a (tR cA X.K W f)) (hb : PE X b (tR cA X.K W g)) (hc : PE X c (tR cA X.K W h)) :
    PT X (.Compare a [o1, o2] [b, c] pos) (tB cA X.K W fun ρ S => (chnF o1 o2 f g h ρ S).bind truI) :=
  (pt_chain (op_any (cA := cA) hu) (op_any (cA := cA) hu) ha hb hc hm).imp fun σ H Q ⟨m, ρ, S, rn, rs, hp⟩ => by
    obtain ⟨m1, ρ1, S1, a1, a2, a3⟩ := test_bl (f := chnF o1 o2 f g h) rn rs (fun d S' q => by
      obtain ⟨x, S1, _, q⟩ := Res.bind_ok q
      obtain ⟨y, S2, _, q⟩ := Res.bind_ok q
      obtain ⟨t, S3, _, q⟩ := Res.bind_ok q
      obtain ⟨k, S4, _, q⟩ := Res.bind_ok q
      cases k with
      | true => obtain ⟨z, S5, _, q⟩ := Res.bind_ok (show (h ρ S4).bind _ = _ from q); exact (cmpI_bl q).1
      | false => cases q; exact ⟨_, rfl⟩) hp
    exact chain_of a1 a2 a3

/-! ### not, and, or, if else -/
theorem se_not (ha : PE X a (tR cA X.K W f)) : PE X (.UnaryOp .Not a pos) (tR cA X.K W fun ρ S => (f ρ S).bind fun x S => (truI x S).bind fun k S => ret1 (.bl (!k)) S) :=
  (pe_notT ha).imp fun σ H Q ⟨m, ρ, S, rn, rs, hp⟩ => ⟨m, ρ, S, rn, rs, (Post.bind hp).imp fun v H1 ⟨m1, d, S1, _, e1, rs1, rd1, h1⟩ => by
    cases q : truI d S1 with
    | ok k S2 =>
      rw [q] at h1
      obtain ⟨t, rfl⟩ := sv_tru rs1 rd1 q
      exact ⟨k, t, Post.dat rs1 h1 (.bl _)⟩
    | exc x S2 => exact absurd q truI_nx
    | stuck => rw [q] at h1; exact h1.elim⟩
/-- a test computes k -/
def tK (f : Nv → Sto → Res D) : Nv → Sto → Res Bool := fun ρ S => (f ρ S).bind truI
theorem bind_assoc {α β γ : Type} (r : Res α) (k : α → Sto → Res β) (l : β → Sto → Res γ) : (r.bind k).bind l = r.bind fun x S => (k x S).bind l := by cases r <;> rfl
theorem truI_self {d : D} {S S' : Sto} {k : Bool} (h : truI d S = .ok k S') : S' = S := by
  unfold truI at h
  repeat' (first | (cases h; rfl) | cases h | split at h)
theorem st_not (ha : PT X a (tB cA X.K W (tK f))) : PT X (.UnaryOp .Not a pos) (tB cA X.K W (tK fun ρ S => (f ρ S).bind fun x S => (truI x S).bind fun k S => ret1 (.bl (!k)) S)) :=
  (pt_not ha).imp fun σ H Q ⟨m, ρ, S, rn, rs, hp⟩ => ⟨m, ρ, S, rn, rs, by
    have e : tK (fun ρ S => (f ρ S).bind fun x S => (truI x S).bind fun k S => ret1 (.bl (!k)) S) ρ S = (tK f ρ S).bind fun k S => .ok (!k) S := by
      unfold tK
      rw [bind_assoc, bind_assoc]
      congr 1
      funext x S1
      rw [bind_assoc]
      congr 1
    rw [e] at hp
    exact (PostB.bindB hp).imp fun k H1 ⟨m1, S1, _, e1, rs1, h1⟩ => h1 m1 H1 .refl rs1⟩
end
end PH

set_option maxHeartbeats 4000000
/-! PH, part H: and, or, if else, places, parts, calls. -/
namespace PH
open L2 PySem PySem.Spec PyProof.Rows
section
variable {cA : Ca} {X : Cx} {σ : L2.St} {H : Hp} {m : List Addr} {S : Sto} {ρ : Nv} {W : WX} {Q : VK} {pos : Pos} {a b c x : Expr} {f g h : Nv → Sto → Res D} {rest : List Expr} {o : BoolOp}
def boF (o : BoolOp) (f g : Nv → Sto → Res D) : Nv → Sto → Res D := fun ρ S => (f ρ S).bind fun d S => (truI d S).bind fun k S => match o, k with
  | .And, true => g ρ S
  | .Or, false => g ρ S
  | _, _ => .ok d S
theorem se_bo_one (ha : PE X a (tR cA X.K W f)) : PE X (.BoolOp o [a] pos) (tR cA X.K W f) := pe_one ha
theorem se_bo_cons (ha : PE X a (tR cA X.K W f)) (hb : PE X (.BoolOp o (b :: rest) pos) (tR cA X.K W g)) : PE X (.BoolOp o (a :: b :: rest) pos) (tR cA X.K W (boF o f g)) := by
  cases o with
  | And =>
    refine (pe_andT ha hb).imp fun σ H Q ⟨m, ρ, S, rn, rs, hp⟩ => ⟨m, ρ, S, rn, rs, (Post.bind hp).imp fun v H1 ⟨m1, d, S1, _, e1, rs1, rd1, h1⟩ => ?_⟩
    cases q : truI d S1 with
    | ok k S2 =>
      rw [q] at h1
      obtain ⟨t, rfl⟩ := sv_tru rs1 rd1 q
      refine ⟨k, t, ?_⟩
      cases k with
      | true => simpa using (show tR cA X.K W g σ H1 Q from ⟨m1, ρ, S2, rn.ext e1, rs1, h1⟩)
      | false => simpa using (show Q v H1 from h1 m1 H1 v .refl rs1 rd1)
    | exc x S2 => exact absurd q truI_nx
    | stuck => rw [q] at h1; exact h1.elim
  | Or =>
    refine (pe_orT ha hb).imp fun σ H Q ⟨m, ρ, S, rn, rs, hp⟩ => ⟨m, ρ, S, rn, rs, (Post.bind hp).imp fun v H1 ⟨m1, d, S1, _, e1, rs1, rd1, h1⟩ => ?_⟩
    cases q : truI d S1 with
    | ok k S2 =>
      rw [q] at h1
      obtain ⟨t, rfl⟩ := sv_tru rs1 rd1 q
      refine ⟨k, t, ?_⟩
      cases k with
      | false => simpa using (show tR cA X.K W g σ H1 Q from ⟨m1, ρ, S2, rn.ext e1, rs1, h1⟩)
      | true => simpa using (show Q v H1 from h1 m1 H1 v .refl rs1 rd1)
    | exc x S2 => exact absurd q truI_nx
    | stuck => rw [q] at h1; exact h1.elim
theorem tK_bo (ρ : Nv) (S : Sto) : tK (boF o f g) ρ S = (tK f ρ S).bind fun k S => match o, k with
    | .And, true => tK g ρ S
    | .Or, false => tK g ρ S
    | .And, false => .ok false S
    | .Or, true => .ok true S := by
  unfold tK boF
  cases f ρ S with
  | ok d S1 =>
    simp only [Res.bind]
    cases q : truI d S1 with
    | ok k S2 =>
      obtain rfl := truI_self q
      cases o <;> cases k <;> simp [q]
    | exc x S2 => exact absurd q truI_nx
    | stuck => rfl
  | exc x S1 => rfl
  | stuck => rfl
theorem sw_bo_one (ha : PT X a (tB cA X.K W (tK f))) : PW X (.BoolOp o [a] pos) (tB cA X.K W (tK f)) := by
  cases o with
  | And => exact pw_and1 ha
  | Or => exact pw_or1 ha
theorem sw_bo_cons (ha : PT X a (tB cA X.K W (tK f))) (hb : PW X (.BoolOp o (b :: rest) pos) (tB cA X.K W (tK g))) : PW X (.BoolOp o (a :: b :: rest) pos) (tB cA X.K W (tK (boF o f g))) := by
  cases o with
  | And =>
    refine (pw_and ha hb).imp fun σ H Q ⟨m, ρ, S, rn, rs, hp⟩ => ⟨m, ρ, S, rn, rs, ?_⟩
    rw [tK_bo] at hp
    refine (PostB.bindB hp).imp fun k H1 ⟨m1, S1, _, e1, rs1, h1⟩ => ?_
    cases k with
    | true => simpa using (show tB cA X.K W (tK g) σ H1 Q from ⟨m1, ρ, S1, rn.ext e1, rs1, h1⟩)
    | false => simpa using (show Q false H1 from h1 m1 H1 .refl rs1)
  | Or =>
    refine (pw_or ha hb).imp fun σ H Q ⟨m, ρ, S, rn, rs, hp⟩ => ⟨m, ρ, S, rn, rs, ?_⟩
    rw [tK_bo] at hp
    refine (PostB.bindB hp).imp fun k H1 ⟨m1, S1, _, e1, rs1, h1⟩ => ?_
    cases k with
    | false => simpa using (show tB cA X.K W (tK g) σ H1 Q from ⟨m1, ρ, S1, rn.ext e1, rs1, h1⟩)
    | true => simpa using (show Q true H1 from h1 m1 H1 .refl rs1)
def ifeF (h f g : Nv → Sto → Res D) : Nv → Sto → Res D := fun ρ S => (h ρ S).bind fun x S => (truI x S).bind fun k S => if k then f ρ S else g ρ S
theorem ifeF_eq (ρ : Nv) (S : Sto) : ifeF h f g ρ S = (tK h ρ S).bind fun k S => if k then f ρ S else g ρ S := by unfold ifeF tK; rw [bind_assoc]
theorem se_ife (hc : PT X c (tB cA X.K W (tK h))) (ha : PE X a (tR cA X.K W f)) (hb : PE X b (tR cA X.K W g)) : PE X (.IfExp c a b pos) (tR cA X.K W (ifeF h f g)) :=
  (pe_ifExp hc ha hb).imp fun σ H Q ⟨m, ρ, S, rn, rs, hp⟩ => ⟨m, ρ, S, rn, rs, by
    rw [ifeF_eq] at hp
    refine (Post.bindB hp).imp fun k H1 ⟨m1, S1, _, e1, rs1, h1⟩ => ?_
    cases k with
    | true => simpa using (show tR cA X.K W f σ H1 Q from ⟨m1, ρ, S1, rn.ext e1, rs1, h1⟩)
    | false => simpa using (show tR cA X.K W g σ H1 Q from ⟨m1, ρ, S1, rn.ext e1, rs1, h1⟩)⟩
theorem tK_ife (ρ : Nv) (S : Sto) : tK (ifeF h f g) ρ S = (tK h ρ S).bind fun k S => if k then tK f ρ S else tK g ρ S := by
  show ((ifeF h f g ρ S).bind truI) = _
  rw [ifeF_eq, bind_assoc]
  congr 1
  funext k S1
  cases k <;> rfl
theorem st_ife (hc : PT X c (tB cA X.K W (tK h))) (ha : PT X a (tB cA X.K W (tK f))) (hb : PT X b (tB cA X.K W (tK g))) : PT X (.IfExp c a b pos) (tB cA X.K W (tK (ifeF h f g))) :=
  ⟨fun pins s σ H Q I ⟨m, ρ, S, rn, rs, hp⟩ => by
    rw [tK_ife] at hp
    refine wpAny_bind (thn (hc.run pins s σ H _ I ⟨m, ρ, S, rn, rs, PostB.bindB hp⟩) fun k s1 ⟨H1, I1, m1, S1, _, e1, rs1, h1⟩ => ?_)
    cases k with
    | true => exact ha.run pins s1 σ H1 Q I1 ⟨m1, ρ, S1, rn.ext e1, rs1, h1⟩
    | false => exact hb.run pins s1 σ H1 Q I1 ⟨m1, ρ, S1, rn.ext e1, rs1, h1⟩⟩

/-! ### a[i], a[lo:hi] -/
def noSlice : Expr → Bool
  | .Slice .. => false
  | _ => true
theorem plainIx_of (h : noSlice b = true) : PlainIx b := fun o i => by cases b <;> first | rfl | cases h
theorem se_ix (hs : noSlice b = true) (ha : PE X a (tR cA X.K W f)) (hb : PE X b (tR cA X.K W g)) : PE X (.Subscript a b pos) (tR cA X.K W fun ρ S => (f ρ S).bind fun x S => (g ρ S).bind fun y S => ixI x y S) :=
  (pe_ix ix_seq ha hb (plainIx_of hs)).imp fun σ H Q ⟨m, ρ, S, rn, rs, hp⟩ => by
    obtain ⟨m1, ρ1, S1, a1, a2, a3⟩ := seq2 rn rs hp
    exact ⟨m1, ρ1, S1, a1, a2, a3.imp fun x H1 ⟨m2, ρ2, S2, b1, b2, b3⟩ => ⟨m2, ρ2, S2, b1, b2, b3.imp fun y H2 ⟨m3, d, e, S3, rs3, dx, dy, h3⟩ => sv_ix rs3 dx dy h3⟩⟩
/-- a text looked up in a dict of the top -/
theorem se_gd {t : List (Cs × PD)} {p : Addr} (hs : noSlice b = true) (ha : PE X a (tC (.ref p))) (hT : ∀ z x, t.lookup z = some x → ∃ v, KDct X.K X.w p (mkS z) v ∧ ∀ H, RelP X.K H x v) (hb : PE X b (tR cA X.K W g)) :
    PE X (.Subscript a b pos) (tR cA X.K W fun ρ S => (g ρ S).bind fun d S => match d with
      | .p (.str z) => (match t.lookup z with
        | some x => ret1 x S
        | none => .stuck)
      | _ => .stuck) :=
  (pe_ix ix_kdict ha hb (plainIx_of hs)).imp fun σ H Q ⟨m, ρ, S, rn, rs, hp⟩ => ⟨m, ρ, S, rn, rs, (Post.bind hp).imp fun v H1 ⟨m1, d, S1, _, e1, rs1, rd1, h1⟩ => by
    split at h1
    · rename_i z
      split at h1
      · rename_i x hx
        obtain ⟨v0, k0, r0⟩ := hT _ _ hx
        cases rd1 with
        | p r =>
          cases r with
          | str _ hs => exact ⟨p, _, v0, rfl, rfl, k0, h1.dat rs1 (r0 H1)⟩
      · exact h1.elim
    · exact h1.elim⟩
/-- a part of a slice, behind the value -/
theorem part_of {k : Int → Sto → Res D} {R : Option Int → Hp → Prop} (rn : RelN X.K H m ρ σ) (rs : RelS X.K H m S) (hp : Post cA X.K m H σ W ((g ρ S).bind fun l S => asInt l S fun i => k i S) Q)
    (hR : ∀ i H1 m1 S1, Ext X.K H m H1 m1 → RelS X.K H1 m1 S1 → Post cA X.K m1 H1 σ W (k i S1) Q → R (some i) H1) : tPart (tR cA X.K W g) σ H R :=
  ⟨m, ρ, S, rn, rs, (Post.bind hp).imp fun v H1 ⟨m1, d, S1, _, e1, rs1, rd1, h1⟩ => by
    unfold asInt at h1
    split at h1
    · cases rd1 with | p r => cases r; exact ⟨_, rfl, hR _ H1 m1 S1 e1 rs1 h1⟩
    · exact h1.elim⟩
theorem se_slN {p2 : Pos} (ha : PE X a (tR cA X.K W f)) : PE X (.Subscript a (.Slice none none none p2) pos) (tR cA X.K W fun ρ S => (f ρ S).bind fun x S => slI x none none S) :=
  (pe_slice sl_any ha po_none po_none).imp fun σ H Q ⟨m, ρ, S, rn, rs, hp⟩ => ⟨m, ρ, S, rn, rs, (Post.bind hp).imp fun v H1 ⟨m1, d, S1, _, e1, rs1, rd1, h1⟩ => sv_sl rs1 rd1 h1⟩
theorem se_slL {p2 : Pos} (ha : PE X a (tR cA X.K W f)) (hb : PE X b (tR cA X.K W g)) : PE X (.Subscript a (.Slice (some b) none none p2) pos) (tR cA X.K W fun ρ S => (f ρ S).bind fun x S => (g ρ S).bind fun l S => asInt l S fun i => slI x (some i) none S) :=
  (pe_slice sl_any ha (po_some hb) po_none).imp fun σ H Q ⟨m, ρ, S, rn, rs, hp⟩ => ⟨m, ρ, S, rn, rs, (Post.bind hp).imp fun v H1 ⟨m1, d, S1, _, e1, rs1, rd1, h1⟩ =>
    part_of (rn.ext e1) rs1 h1 fun i H2 m2 S2 e2 rs2 h2 => sv_sl rs2 (rd1.ext e2) h2⟩
theorem se_slH {p2 : Pos} (ha : PE X a (tR cA X.K W f)) (hb : PE X b (tR cA X.K W g)) : PE X (.Subscript a (.Slice none (some b) none p2) pos) (tR cA X.K W fun ρ S => (f ρ S).bind fun x S => (g ρ S).bind fun l S => asInt l S fun i => slI x none (some i) S) :=
  (pe_slice sl_any ha po_none (po_some hb)).imp fun σ H Q ⟨m, ρ, S, rn, rs, hp⟩ => ⟨m, ρ, S, rn, rs, (Post.bind hp).imp fun v H1 ⟨m1, d, S1, _, e1, rs1, rd1, h1⟩ =>
    (show tPart (tR cA X.K W g) σ H1 fun u H3 => rSlX X.K v none u H3 Q from part_of (rn.ext e1) rs1 h1 fun i H2 m2 S2 e2 rs2 h2 => sv_sl rs2 (rd1.ext e2) h2)⟩
theorem se_sl {p2 : Pos} (ha : PE X a (tR cA X.K W f)) (hb : PE X b (tR cA X.K W g)) (hc : PE X c (tR cA X.K W h)) :
    PE X (.Subscript a (.Slice (some b) (some c) none p2) pos) (tR cA X.K W fun ρ S => (f ρ S).bind fun x S => (g ρ S).bind fun l S => asInt l S fun i => (h ρ S).bind fun l S => asInt l S fun j => slI x (some i) (some j) S) :=
  (pe_slice sl_any ha (po_some hb) (po_some hc)).imp fun σ H Q ⟨m, ρ, S, rn, rs, hp⟩ => ⟨m, ρ, S, rn, rs, (Post.bind hp).imp fun v H1 ⟨m1, d, S1, _, e1, rs1, rd1, h1⟩ =>
    part_of (k := fun i S => (h ρ S).bind fun l S => asInt l S fun j => slI d (some i) (some j) S) (rn.ext e1) rs1 h1 fun i H2 m2 S2 e2 rs2 h2 =>
      part_of (k := fun j S => slI d (some i) (some j) S) ((rn.ext e1).ext e2) rs2 h2 fun j H3 m3 S3 e3 rs3 h3 => sv_sl rs3 ((rd1.ext e2).ext e3) h3⟩

/-! ### calls -/
theorem bltI_nx {b : Bf} {ds : List D} {S S' : Sto} {x : Ex} : bltI b ds S ≠ .exc x S' := fun h => by
  unfold bltI at h
  repeat' (first | cases h | split at h)
def rB (cA : Ca) (K : Fg) (b : Bf) : List V → Hp → VK → Prop := fun vs H Q => ∃ m ds S, RelS K H m S ∧ RelDs K H m ds vs ∧ Post cA K m H [] (fun _ _ _ _ => False) (bltI b ds S) Q
theorem cr_blt (b : Bf) (hc : X.calm = true) (hu : X.A.units + 100 < cLine) : CallR X b.val (rB cA X.K b) := fun pins s σ H xs us Q I r ⟨m, ds, S, rs, rd, hp⟩ =>
  sv_blt (cA := cA) (W := fun _ _ _ _ => False) b hc hu I r rs rd (Post.swap (fun _ _ => bltI_nx) hp)
theorem se_blt {bf : Bf} {es : List Expr} {g : Nv → Sto → Res (List D)} {p : Pos} (hc : X.calm = true) (hu : X.A.units + 100 < cLine) (hg : Gl X bf.nm) (hm : X.mg bf.nm = none) (hpl : (a :: es).all plain = true) (ha : PA X (a :: es) (tA cA X.K W g)) :
    PE X (.Call (.Name bf.nm p) (a :: es) [] pos) (tR cA X.K W fun ρ S => (g ρ S).bind fun ds S => bltI bf ds S) := by
  have hpl' := hpl
  simp only [List.all_cons, Bool.and_eq_true] at hpl'
  have fin : ∀ σ H Q, tR cA X.K W (fun ρ S => (g ρ S).bind fun ds S => bltI bf ds S) σ H Q → tCB (rB cA X.K bf) (tA cA X.K W g) σ H Q := fun σ H Q ⟨m, ρ, S, rn, rs, hp⟩ => by
    obtain ⟨m1, ρ1, S1, a1, a2, a3⟩ := seqA rn rs hp
    exact ⟨m1, ρ1, S1, a1, a2, a3.imp fun vs H1 ⟨m2, ds, S2, _, rs2, rd2, h2⟩ => ⟨m2, ds, S2, rs2, rd2, Post.swap (fun _ _ => bltI_nx) h2⟩⟩
  have ty : ∀ T, bf.val = .type T → PE X (.Call (.Name bf.nm p) (a :: es) [] pos) (tR cA X.K W fun ρ S => (g ρ S).bind fun ds S => bltI bf ds S) := fun T e =>
    (pe_callTy (T := T) (r := rB cA X.K bf) (by rw [← e]; exact cr_blt bf hc hu) hg hm (by rw [← e]; exact bf.boot) ha bf.ne.1 bf.ne.2 (star_cons hpl'.1) (star_any hpl'.2)).imp fin
  have bu : ∀ T, bf.val = .builtin T → PE X (.Call (.Name bf.nm p) (a :: es) [] pos) (tR cA X.K W fun ρ S => (g ρ S).bind fun ds S => bltI bf ds S) := fun T e =>
    (pe_callB (id := T) (r := rB cA X.K bf) (by rw [← e]; exact cr_blt bf hc hu) hg hm (by rw [← e]; exact bf.boot) ha bf.ne.1 bf.ne.2 (star_cons hpl'.1) (star_any hpl'.2)).imp fin
  cases bf <;> first | exact ty _ rfl | exact bu _ rfl
theorem isI_nx {d : D} {S S' : Sto} {x : Ex} {t : Bool} : (if known d S then ret1 (.bl t) S else .stuck : Res D) ≠ .exc x S' := fun h => by split at h <;> cases h
theorem se_isi {t : Ty} {p p' : Pos} (hpl : plain a = true) (hg : Gl X "isinstance") (hm : X.mg "isinstance" = none) (hg' : Gl X t.nm) (hm' : X.mg t.nm = none) (ha : PE X a (tR cA X.K W f)) :
    PE X (.Call (.Name "isinstance" p) [a, .Name t.nm p'] [] pos) (tR cA X.K W fun ρ S => (f ρ S).bind fun x S => if known x S then ret1 (.bl (isTy x S t)) S else .stuck) :=
  (pe_callB call_isi hg hm PyProof.Rows.boot_isinstance (pa_cons ha (pa_cons (pe_bltn (v := .ty t.n) hg' hm' t.boot rfl t.ne.1 t.ne.2) pa_nil rfl) (star_cons hpl)) (he := star_cons hpl) (hpl := rfl)).imp fun σ H Q ⟨m, ρ, S, rn, rs, hp⟩ =>
    ⟨m, ρ, S, rn, rs, (Post.bind hp).imp fun v H1 ⟨m1, d, S1, _, e1, rs1, rd1, h1⟩ => by
      split at h1
      · rename_i hk
        exact ⟨v, .ty t.n, _, _, _, rfl, .ty _, sv_ty rs1 rd1 hk, isTy_kit t hk, h1.dat rs1 (.bl _)⟩
      · exact h1.elim⟩
theorem pa_tys : ∀ (ts : List (Ty × Pos)), (∀ t ∈ ts, Gl X t.1.nm ∧ X.mg t.1.nm = none) → ∃ t, PA X (ts.map fun t => Expr.Name t.1.nm t.2) t ∧ ∀ σ H Q, Q (ts.map fun t => V.ty t.1.n) H → t σ H Q
  | [], _ => ⟨_, pa_nil, fun _ _ _ q => q⟩
  | t :: ts, h => by
    obtain ⟨u, h1, h2⟩ := pa_tys ts fun t ht => h t (List.mem_cons_of_mem _ ht)
    obtain ⟨g1, g2⟩ := h t List.mem_cons_self
    exact ⟨_, pa_cons (pe_bltn (v := .ty t.1.n) g1 g2 t.1.boot rfl t.1.ne.1 t.1.ne.2) h1 rfl, fun σ H Q q => h2 σ H _ q⟩
theorem paired_tys : ∀ ts : List (Ty × Pos), Paired ClsV (ts.map fun t => V.ty t.1.n) ((ts.map (·.1)).map fun c => Value.type c.n)
  | [] => .nil
  | t :: ts => .cons (.ty _) (paired_tys ts)
theorem se_isT {ts : List (Ty × Pos)} {k : Nat} {p p' : Pos} (hz : ts.length ≤ 1000) (hpl : plain a = true) (hg : Gl X "isinstance") (hm : X.mg "isinstance" = none) (ht : ∀ t ∈ ts, Gl X t.1.nm ∧ X.mg t.1.nm = none) (ha : PE X a (tR cA X.K W f)) :
    PE X (.Call (.Name "isinstance" p) [a, .Tuple (ts.map fun t => Expr.Name t.1.nm t.2) k p'] [] pos) (tR cA X.K W fun ρ S => (f ρ S).bind fun x S => if known x S then ret1 (.bl ((ts.map (·.1)).any (isTy x S))) S else .stuck) := by
  obtain ⟨u, h1, h2⟩ := pa_tys ts ht
  refine (pe_callB call_isiT hg hm PyProof.Rows.boot_isinstance (pa_cons ha (pa_cons (pe_tup h1) pa_nil rfl) (star_cons hpl)) (he := star_cons hpl) (hpl := rfl)).imp fun σ H Q ⟨m, ρ, S, rn, rs, hp⟩ =>
    ⟨m, ρ, S, rn, rs, (Post.bind hp).imp fun v H1 ⟨m1, d, S1, _, e1, rs1, rd1, q1⟩ => h2 _ _ _ ⟨by rw [List.length_map, line_eq]; exact Nat.le_trans hz (by decide), fun q hq => ?_⟩⟩
  split at q1
  · rename_i hk
    have ex := Ext.more (K := X.K) (m := m1) hq (u := .tup (ts.map fun t => V.ty t.1.n))
    exact ⟨v, q, _, _, _, _, rfl, upd_same, paired_tys ts, sv_ty (rs1.more hq) (rd1.ext ex) hk, kitAny_map _ fun c _ => isTy_kit c hk, q1 m1 _ _ ex (rs1.more hq) (.p (.bl _))⟩
  · exact q1.elim
theorem mthI_nx {b : Mt} {d : D} {ds : List D} {S S' : Sto} {x : Ex} : mthI b d ds S ≠ .exc x S' := fun h => by
  unfold mthI at h
  repeat' (first | cases h | split at h)
def rM (cA : Ca) (K : Fg) (b : Mt) : V → List V → Hp → VK → Prop := fun x vs H Q => ∃ m d ds S, RelS K H m S ∧ RelD K H m d x ∧ RelDs K H m ds vs ∧ Post cA K m H [] (fun _ _ _ _ => False) (mthI b d ds S) Q
theorem mt_any (b : Mt) : MtR X b.id (rM cA X.K b) := fun pins s σ H x xs v us Q I rx r ⟨m, d, ds, S, rs, dx, rd, hp⟩ =>
  sv_mth (cA := cA) (W := fun _ _ _ _ => False) b I rx r rs dx rd (Post.swap (fun _ _ => mthI_nx) hp)
def mthF (b : Mt) (f : Nv → Sto → Res D) (g : Nv → Sto → Res (List D)) : Nv → Sto → Res D := fun ρ S => (f ρ S).bind fun x S => if recv b x S then (g ρ S).bind fun ds S => mthI b x ds S else .stuck
theorem mth_of {b : Mt} {g : Nv → Sto → Res (List D)} (rn : RelN X.K H m ρ σ) (rs : RelS X.K H m S) (hp : Post cA X.K m H σ W (mthF b f g ρ S) Q) :
    tR cA X.K W f σ H fun x H1 => tyV X.K b.T x H1 ∧ tA cA X.K W g σ H1 fun xs H2 => rM cA X.K b x xs H2 Q :=
  ⟨m, ρ, S, rn, rs, (Post.bind hp).imp fun v H1 ⟨m1, d, S1, _, e1, rs1, rd1, h1⟩ => by
    split at h1
    · rename_i hk
      exact ⟨sv_recv rs1 rd1 hk, m1, ρ, S1, rn.ext e1, rs1, (Post.bindA h1).imp fun vs H2 ⟨m2, ds, S2, _, e2, rs2, r2, h2⟩ => ⟨m2, d, ds, S2, rs2, rd1.ext e2, r2, Post.swap (fun _ _ => mthI_nx) h2⟩⟩
    · exact h1.elim⟩
theorem se_mth {b : Mt} {es : List Expr} {g : Nv → Sto → Res (List D)} {o e : Expr} {apos : Pos} (hbase : attributeBase o b.nm X.env (eval o X.env) = eval o X.env) (hline : (apos.endLine == pos.line) = true) (hpl : (e :: es).all plain = true) (hfew : (e :: es).length < 30)
    (ho : PE X o (tR cA X.K W f)) (ha : PA X (e :: es) (tA cA X.K W g)) : PE X (.Call (.Attribute o b.nm apos) (e :: es) [] pos) (tR cA X.K W (mthF b f g)) := by
  have hpl' := hpl
  simp only [List.all_cons, Bool.and_eq_true] at hpl'
  exact (pe_bm b.pa b.slot b.ty (mt_any (cA := cA) b) ho ha hbase (by rw [star_all hpl]; simp [keywordEach, backToKw]; simpa using hfew) hline (star_cons hpl'.1) (star_any hpl'.2)).imp fun σ H Q ⟨m, ρ, S, rn, rs, hp⟩ => mth_of rn rs hp
theorem se_mth0 {b : Mt} {o : Expr} {apos : Pos} (hbase : attributeBase o b.nm X.env (eval o X.env) = eval o X.env) (hline : (apos.endLine == pos.line) = true)
    (ho : PE X o (tR cA X.K W f)) : PE X (.Call (.Attribute o b.nm apos) [] [] pos) (tR cA X.K W (mthF b f fun _ S => .ok [] S)) :=
  (pe_bm0 b.pa b.slot b.ty (mt_any (cA := cA) b) ho hbase hline).imp fun σ H Q ⟨m, ρ, S, rn, rs, hp⟩ => by
    obtain ⟨m1, ρ1, S1, a1, a2, a3⟩ := mth_of rn rs hp
    refine ⟨m1, ρ1, S1, a1, a2, a3.imp fun x H1 ⟨t, m2, ρ2, S2, b1, b2, b3⟩ => ⟨t, b3 m2 H1 [] .refl b2 .nil⟩⟩
end
end PH

set_option maxHeartbeats 4000000
/-! PH, part I: targets, walks, comprehensions, calls of the text's own defs. -/
namespace PH
open L2 PySem PySem.Spec PyProof.Rows
/-! ### targets -/
mutual
def Tg.sl : Tg → List Nat
  | .nm i => [i]
  | .tp ts => Tg.sls ts
def Tg.sls : List Tg → List Nat
  | [] => []
  | t :: ts => Tg.sl t ++ Tg.sls ts
end
/-- the slots beside vs are as they were -/
def Agr (vs : List Nat) (σ σ' : L2.St) : Prop := σ'.length = σ.length ∧ ∀ j, j ∉ vs → σ'[j]? = σ[j]?
theorem Agr.refl {vs : List Nat} {σ : L2.St} : Agr vs σ σ := ⟨rfl, fun _ _ => rfl⟩
theorem Agr.trans {vs ws : List Nat} {σ σ1 σ2 : L2.St} (a : Agr vs σ σ1) (b : Agr ws σ1 σ2) : Agr (vs ++ ws) σ σ2 :=
  ⟨b.1.trans a.1, fun j h => (b.2 j fun z => h (List.mem_append_right _ z)).trans (a.2 j fun z => h (List.mem_append_left _ z))⟩
theorem wipe_get (σ : L2.St) : ∀ (vs : List Nat) (j : Nat), (L2.wipe σ vs)[j]? = if j ∈ vs then (if j < σ.length then some none else none) else σ[j]?
  | [], j => by simp [L2.wipe]
  | v :: vs, j => by
    unfold L2.wipe
    by_cases hj : v = j
    · subst hj
      by_cases hl : v < σ.length
      · rw [List.getElem?_set_self (by rw [wipe_length]; exact hl)]; simp [hl]
      · rw [List.getElem?_eq_none (by simp [wipe_length]; omega)]; simp [hl]
    · rw [List.getElem?_set_ne hj, wipe_get σ vs j]
      have : (j ∈ v :: vs) ↔ j ∈ vs := by simp [Ne.symm hj]
      simp only [this]
theorem wipe_agr {σ σ' : L2.St} {vs ws : List Nat} (h : ∀ j ∈ ws, j ∈ vs) (a : Agr ws (L2.wipe σ vs) σ') : L2.wipe σ' vs = L2.wipe σ vs := by
  apply List.ext_getElem?
  intro j
  have hl : σ'.length = σ.length := by rw [a.1, wipe_length]
  rw [wipe_get, wipe_get]
  by_cases hj : j ∈ vs
  · simp [hj, hl]
  · simp only [hj, if_false]
    rw [a.2 j fun z => hj (h j z), wipe_get]
    simp [hj]
section
variable (K : Fg)
def tG (tg : Tg) : TG := fun v σ H Q => ∃ m ρ S d, RelN K H m ρ σ ∧ RelS K H m S ∧ RelD K H m d v ∧ match asgT tg d ρ with
  | some ρ' => ∀ σ', RelN K H m ρ' σ' → Agr tg.sl σ σ' → Q σ' H
  | none => False
def tGs (ts : List Tg) : TGs := fun vs σ H Q => ∃ m ρ S ds, RelN K H m ρ σ ∧ RelS K H m S ∧ RelDs K H m ds vs ∧ match asgTs ts ds ρ with
  | some ρ' => ∀ σ', RelN K H m ρ' σ' → Agr (Tg.sls ts) σ σ' → Q σ' H
  | none => False
end
section
variable {cA : Ca} {X : Cx} {σ : L2.St} {H : Hp} {m : List Addr} {S : Sto} {ρ : Nv} {W : WX} {Q : VK} {pos : Pos} {a b c x : Expr} {f g h : Nv → Sto → Res D}
theorem _root_.L2.PG.imp {X : Cx} {e : Expr} {t t' : TG} (h : PG X e t) (f : ∀ v σ H Q, t' v σ H Q → t v σ H Q) : PG X e t' := ⟨fun pins s σ H v u Q I r q => h.run pins s σ H v u Q I r (f v σ H Q q)⟩
theorem _root_.L2.PGs.imp {X : Cx} {e : List Expr} {t t' : TGs} (h : PGs X e t) (f : ∀ v σ H Q, t' v σ H Q → t v σ H Q) : PGs X e t' := ⟨fun pins s σ H v u Q I r q => h.run pins s σ H v u Q I r (f v σ H Q q)⟩
theorem sg_nm {i : Nat} {n : Str} (hN : X.N.Nodup) (hi : X.N[i]? = some n) (hx : Loc X.env.scope n) (hf : X.fn n = true ∨ X.env.scope.names.lookup n = some .local) : PG X (.Name n pos) (tG X.K (.nm i)) :=
  (pg_name hN hi hx hf).imp fun v σ H Q ⟨m, ρ, S, d, rn, rs, rd, h⟩ => h _ (rn.set rd i) ⟨by simp, fun j hj => List.getElem?_set_ne (fun z => hj (by simp [Tg.sl, z]))⟩
theorem assign_cons {e : Expr} {es : List Expr} {env : Env} (h : plain e = true) : assignEach (e :: es) env = (false, assign e env) :: assignEach es env := by
  cases e <;> first | rfl | cases h
theorem assign_len : ∀ {es : List Expr} {env : Env}, es.all plain = true → (assignEach es env).length = es.length ∧ (assignEach es env).findIdx? (·.1) = none
  | [], _, _ => ⟨rfl, rfl⟩
  | e :: es, env, h => by
    simp only [List.all_cons, Bool.and_eq_true] at h
    obtain ⟨h1, h2⟩ := assign_len (env := env) h.2
    rw [assign_cons h.1]
    exact ⟨by simp [h1], by simp [List.findIdx?_cons, h2]⟩
theorem sg_nil : PGs X [] (tGs X.K []) := pgs_nil.imp fun vs σ H Q ⟨m, ρ, S, ds, rn, rs, rd, h⟩ => by
  cases rd with
  | nil => exact ⟨rfl, h σ rn .refl⟩
  | cons _ _ => exact h.elim
theorem sg_cons {e : Expr} {es : List Expr} {t : Tg} {ts : List Tg} (hp : plain e = true) (h1 : PG X e (tG X.K t)) (h2 : PGs X es (tGs X.K ts)) : PGs X (e :: es) (tGs X.K (t :: ts)) :=
  (pgs_cons h1 h2 (by rw [assign_cons hp]; rfl)).imp fun vs σ H Q ⟨m, ρ, S, ds, rn, rs, rd, h⟩ => by
    cases rd with
    | nil => exact h.elim
    | @cons d ds v vs r1 r2 =>
      refine ⟨v, vs, rfl, m, ρ, S, d, rn, rs, r1, ?_⟩
      simp only [asgTs] at h
      cases q : asgT t d ρ with
      | none => simp [q] at h
      | some ρ1 =>
        simp only [q, Option.bind_some] at h
        intro σ1 rn1 ag
        refine ⟨m, ρ1, S, ds, rn1, rs, r2, ?_⟩
        cases q2 : asgTs ts ds ρ1 with
        | none => simp [q2] at h
        | some ρ2 =>
          simp only [q2] at h ⊢
          exact fun σ2 rn2 ag2 => h σ2 rn2 (ag.trans ag2)
theorem sg_tp {es : List Expr} {k : Nat} {ts : List Tg} (hc : X.calm = true) (hp : es.all plain = true) (hl : es.length = ts.length) (h : PGs X es (tGs X.K ts)) : PG X (.Tuple es k pos) (tG X.K (.tp ts)) :=
  (pg_tup hc h (assign_len hp).1 (assign_len hp).2).imp fun v σ H Q ⟨m, ρ, S, d, rn, rs, rd, h⟩ => by
    have len : ∀ (ts : List Tg) (ds : List D) (ρ ρ' : Nv), asgTs ts ds ρ = some ρ' → ts.length = ds.length := by
      intro ts
      induction ts with
      | nil => intro ds ρ ρ' e; cases ds <;> simp_all [asgTs]
      | cons t ts ih =>
        intro ds ρ ρ' e
        cases ds with
        | nil => simp [asgTs] at e
        | cons d ds =>
          simp only [asgTs] at e
          obtain ⟨ρ1, _, e2⟩ := Option.bind_eq_some_iff.mp e
          simp [ih ds ρ1 ρ' e2]
    cases d with
    | ref n => exact h.elim
    | xv _ _ _ _ => exact h.elim
    | p x =>
      cases x with
      | tup xs =>
        cases rd with
        | p r =>
          cases r with
          | tup hq r =>
            simp only [asgT] at h
            refine ⟨_, _, rfl, hq, ?_, m, ρ, S, _, rn, rs, r.up, ?_⟩
            · cases q : asgTs ts (xs.map .p) ρ with
              | none => simp [q] at h
              | some ρ' =>
                have := len _ _ _ _ q
                rw [hl, this, List.length_map, r.length]
            · cases q : asgTs ts (xs.map .p) ρ with
              | none => simp [q] at h
              | some ρ' => simpa [q, Tg.sl] using h
      | non => exact h.elim
      | bl _ => exact h.elim
      | int _ => exact h.elim
      | str _ => exact h.elim
    | mt xs =>
      cases rd with
      | mt hq r =>
        simp only [asgT] at h
        refine ⟨_, _, rfl, hq, ?_, m, ρ, S, _, rn, rs, r, ?_⟩
        · cases q : asgTs ts xs ρ with
          | none => simp [q] at h
          | some ρ' =>
            have := len _ _ _ _ q
            rw [hl, this, r.length]
        · cases q : asgTs ts xs ρ with
          | none => simp [q] at h
          | some ρ' => simpa [q, Tg.sl] using h

/-! ### walks -/
/-- the iterator yields the items while the list walked stands still -/
def ItOk (K : Fg) (m : List Addr) (H : Hp) (J : It) (w : Wk) : Prop :=
  ∀ m' H' S', Ext K H m H' m' → RelS K H' m' S' → w.still S' = true → ∀ i, (w.ds.length ≤ i → J.stop i H') ∧ ∀ d, w.ds[i]? = some d → J.go i H' ∧ ∀ x H'', J.yld i H' x H'' → H'' = H' ∧ RelD K H' m' d x
def tW (cA : Ca) (K : Fg) (W : WX) (w : Nv → Sto → Res Wk) : TI := fun σ H R => ∃ m ρ S, RelN K H m ρ σ ∧ RelS K H m S ∧ match w ρ S with
  | .ok wk S1 => ∀ m1 H1 J, Ext K H m H1 m1 → RelS K H1 m1 S1 → ItOk K m1 H1 J wk → R J H1
  | .exc x S1 => ∀ m' H' c dx, Ext K H m H' m' → RelS K H' m' S1 → RelX cA K H' m' x c dx → W c dx σ H'
  | .stuck => False
theorem sq_uniq_go {K : Fg} {H : Hp} {a : Addr} {vs : List V} {i : Nat} {v : V} (h : SqL K H a vs) (hv : vs[i]? = some v) : (Itl K a).go i H := ⟨vs, v, h, hv⟩
theorem itok_ref {n : Nat} {o : O} {a : Addr} (hl : o.isL = true) (ha : m[n]? = some a) : ItOk X.K m H (Itl X.K a) ⟨o.ds, some (n, o)⟩ := fun m' H' S' e rs hs i => by
  have hn : S'[n]? = some o := by simpa [Wk.still] using hs
  obtain ⟨b, eb, ro⟩ := rs.ob _ _ hn
  obtain ⟨t, rfl⟩ := e.pre
  rw [pre_get ha] at eb; cases eb
  obtain ⟨vs, hq, r⟩ := ro.lst hl
  refine ⟨fun hi => ⟨vs, hq, by rw [← r.length]; exact hi⟩, fun d hd => ?_⟩
  obtain ⟨v, hv, rv⟩ := r.get hd
  refine ⟨⟨vs, v, hq, hv⟩, fun x H'' hy => ⟨hy.1, ?_⟩⟩
  have := hy.2 vs hq
  rw [hv] at this; cases this
  exact rv
theorem itok_tup {w : Wk} {a : Addr} {vs : List V} (hw : w.src = none) (hq : SqT X.K H a vs) (r : RelDs X.K H m w.ds vs) : ItOk X.K m H (Itt X.K a) w := fun m' H' S' e rs hs i => by
  have hq' := e.kp.1 _ _ hq
  have r' := r.ext e
  refine ⟨fun hi => ⟨vs, hq', by rw [← r.length]; exact hi⟩, fun d hd => ?_⟩
  obtain ⟨v, hv, rv⟩ := r'.get hd
  refine ⟨⟨vs, v, hq', hv⟩, fun x H'' hy => ⟨hy.1, ?_⟩⟩
  have := hy.2 vs hq'
  rw [hv] at this; cases this
  exact rv
theorem itok_str {z : Cs} (hz : okS z) : ItOk X.K m H (Its (mkS z)) ⟨z.map fun c => .p (.str [c]), none⟩ := fun m' H' S' e rs hs i => by
  have hl : (mkS z).cps.size = z.length := by simp [mkS]
  refine ⟨fun hi => by show (mkS z).cps.size ≤ i; rw [hl]; simpa using hi, fun d hd => ?_⟩
  simp only [List.getElem?_map] at hd
  obtain ⟨c, hc, rfl⟩ := Option.map_eq_some_iff.mp hd
  have hi : i < z.length := (List.getElem?_eq_some_iff.mp hc).1
  refine ⟨by show i < (mkS z).cps.size; rw [hl]; exact hi, fun x H'' hy => ⟨hy.1, ?_⟩⟩
  obtain ⟨c', h1, rfl⟩ := hy.2
  have : (mkS z).cps[i]? = z[i]? := by simp [mkS]
  rw [this, hc] at h1; cases h1
  exact .p (.str [c] ⟨by simp [LINE], fun q hq => by rw [List.mem_singleton.mp hq]; exact hz.2 c (List.mem_of_getElem? hc)⟩)
theorem itok_rg {lo : Int} {n : Nat} : ItOk X.K m H (Itr lo n) ⟨rgS lo 1 n, none⟩ := fun m' H' S' e rs hs i => by
  have hl : (rgS lo 1 n).length = n := by simp [rgS]
  refine ⟨fun hi => by show n ≤ i; simpa [hl] using hi, fun d hd => ?_⟩
  have hi : i < n := by have := (List.getElem?_eq_some_iff.mp hd).1; simpa [hl] using this
  refine ⟨hi, fun x H'' hy => ⟨hy.1, ?_⟩⟩
  rw [hy.2]
  simp only [rgS, List.getElem?_map, List.getElem?_range hi, Option.map_some, Option.some.injEq, Int.mul_one] at hd
  subst hd
  exact .p (.int _)
theorem sw_of {tg l : Expr} (hl : PE X l (tR cA X.K W f)) : PI X tg l (tW cA X.K W fun ρ S => (f ρ S).bind wkOf) := ⟨fun pins s σ H R I ⟨m, ρ, S, rn, rs, h⟩ => by
  cases q : f ρ S with
  | stuck => simp only [q, Res.bind] at h
  | exc x S1 =>
    simp only [q, Res.bind] at h
    refine (pi_list hl).run pins s σ H R I ⟨m, ρ, S, rn, rs, ?_⟩
    rw [q]; exact h
  | ok d S1 =>
    simp only [q, Res.bind] at h
    cases q2 : wkOf d S1 with
    | stuck => simp only [q2] at h
    | exc x S2 =>
      exfalso
      unfold wkOf at q2
      repeat' (first | cases q2 | split at q2)
    | ok wk S2 =>
      simp only [q2] at h
      unfold wkOf at q2
      split at q2
      · cases q2
        refine (pi_str hl).run pins s σ H R I ⟨m, ρ, S, rn, rs, ?_⟩
        rw [q]
        intro m1 H1 v e1 rs1 rd1
        cases rd1 with | p r => cases r with | str z hz => exact ⟨_, rfl, h m1 H1 _ e1 rs1 (itok_str hz)⟩
      · cases q2
        refine (pi_tup hl).run pins s σ H R I ⟨m, ρ, S, rn, rs, ?_⟩
        rw [q]
        intro m1 H1 v e1 rs1 rd1
        cases rd1 with | p r => cases r with | tup hq r => exact ⟨_, rfl, ⟨_, hq⟩, h m1 H1 _ e1 rs1 (itok_tup rfl hq r.up)⟩
      · cases q2
        refine (pi_tup hl).run pins s σ H R I ⟨m, ρ, S, rn, rs, ?_⟩
        rw [q]
        intro m1 H1 v e1 rs1 rd1
        cases rd1 with | mt hq r => exact ⟨_, rfl, ⟨_, hq⟩, h m1 H1 _ e1 rs1 (itok_tup rfl hq r)⟩
      · rename_i n
        split at q2
        · rename_i o ho
          split at q2
          · rename_i hil
            cases q2
            refine (pi_list hl).run pins s σ H R I ⟨m, ρ, S, rn, rs, ?_⟩
            rw [q]
            intro m1 H1 v e1 rs1 rd1
            cases rd1 with
            | @ref _ a ha =>
              obtain ⟨b, eb, ro⟩ := rs1.ob _ _ ho
              rw [ha] at eb; cases eb
              obtain ⟨vs, hq, _⟩ := ro.lst hil
              exact ⟨_, rfl, ⟨vs, hq⟩, h m1 H1 _ e1 rs1 (itok_ref hil ha)⟩
          · cases q2
        · cases q2
      · cases q2⟩
theorem small_of {i : Int} (h : small i = true) : -(2 ^ 62) ≤ i ∧ i < 2 ^ 62 := by simpa [small] using h
def rg1F (f : Nv → Sto → Res D) : Nv → Sto → Res Wk := fun ρ S => (f ρ S).bind fun x S => match x with
  | .p (.int n) => if small n then .ok ⟨rgS 0 1 n.toNat, none⟩ S else .stuck
  | _ => .stuck
def rg2F (f g : Nv → Sto → Res D) : Nv → Sto → Res Wk := fun ρ S => (f ρ S).bind fun x S => (g ρ S).bind fun y S => match x, y with
  | .p (.int i), .p (.int j) => if small i && small j then .ok ⟨rgS i 1 (j - i).toNat, none⟩ S else .stuck
  | _, _ => .stuck
/-- behind a value, for a walk -/
theorem wk_bind {k : D → Sto → Res Wk} {R : It → Hp → Prop} (h : match (f ρ S).bind k with
  | .ok wk S1 => ∀ m1 H1 J, Ext X.K H m H1 m1 → RelS X.K H1 m1 S1 → ItOk X.K m1 H1 J wk → R J H1
  | .exc x S1 => ∀ m' H' c dx, Ext X.K H m H' m' → RelS X.K H' m' S1 → RelX cA X.K H' m' x c dx → W c dx σ H'
  | .stuck => False) : Post cA X.K m H σ W (f ρ S) fun v H1 => ∃ m1 d S1, f ρ S = .ok d S1 ∧ Ext X.K H m H1 m1 ∧ RelS X.K H1 m1 S1 ∧ RelD X.K H1 m1 d v ∧ match k d S1 with
  | .ok wk S2 => ∀ m2 H2 J, Ext X.K H1 m1 H2 m2 → RelS X.K H2 m2 S2 → ItOk X.K m2 H2 J wk → R J H2
  | .exc x S2 => ∀ m' H' c dx, Ext X.K H1 m1 H' m' → RelS X.K H' m' S2 → RelX cA X.K H' m' x c dx → W c dx σ H'
  | .stuck => False := by
  cases q : f ρ S with
  | stuck => simp only [q, Res.bind] at h
  | exc x S1 => simp only [q, Res.bind] at h; exact h
  | ok d S1 =>
    intro m1 H1 v e1 rs1 rd1
    refine ⟨m1, d, S1, rfl, e1, rs1, rd1, ?_⟩
    simp only [q, Res.bind] at h
    cases q2 : k d S1 with
    | ok wk S2 => simp only [q2] at h ⊢; exact fun m2 H2 J e2 => h m2 H2 J (e1.trans e2)
    | exc x S2 => simp only [q2] at h ⊢; exact fun m2 H2 c dx e2 => h m2 H2 c dx (e1.trans e2)
    | stuck => simp only [q2] at h
theorem sw_rg1 {tg : Expr} {p : Pos} (hpl : plain a = true) (hg : Gl X "range") (hm : X.mg "range" = none) (ha : PE X a (tR cA X.K W f)) : PI X tg (.Call (.Name "range" p) [a] [] pos) (tW cA X.K W (rg1F f)) := ⟨fun pins s σ H R I ⟨m, ρ, S, rn, rs, h⟩ => by
  refine (pi_range1 hg hm (pa_cons ha pa_nil (star_cons hpl)) (star_cons hpl)).run pins s σ H R I ⟨m, ρ, S, rn, rs, (wk_bind h).imp fun v H1 ⟨m1, d, S1, _, e1, rs1, rd1, h1⟩ => ?_⟩
  split at h1
  · rename_i wk S2 q2
    split at q2
    · rename_i n
      split at q2
      · rename_i hs
        cases q2
        cases rd1 with
        | p r =>
          cases r
          have hb := small_of hs
          exact ⟨_, rfl, hb.1, hb.2, h1 m1 H1 _ .refl rs1 itok_rg⟩
      · cases q2
    · cases q2
  · rename_i x S2 q2
    split at q2
    · split at q2 <;> cases q2
    · cases q2
  · exact h1.elim⟩
theorem sw_rg2 {tg : Expr} {p : Pos} (hpl : plain a = true) (hpl' : plain b = true) (hg : Gl X "range") (hm : X.mg "range" = none) (ha : PE X a (tR cA X.K W f)) (hb : PE X b (tR cA X.K W g)) : PI X tg (.Call (.Name "range" p) [a, b] [] pos) (tW cA X.K W (rg2F f g)) := ⟨fun pins s σ H R I ⟨m, ρ, S, rn, rs, h⟩ => by
  refine (pi_range2 hg hm (pa_cons ha (pa_cons hb pa_nil (star_cons hpl')) (star_cons hpl)) (by rw [star_cons hpl, star_cons hpl']; rfl) (star_cons hpl')).run pins s σ H R I ⟨m, ρ, S, rn, rs, (wk_bind h).imp fun v H1 ⟨m1, d, S1, _, e1, rs1, rd1, h1⟩ =>
    ⟨m1, ρ, S1, rn.ext e1, rs1, (wk_bind h1).imp fun w H2 ⟨m2, e, S2, _, e2, rs2, rd2, h2⟩ => ?_⟩⟩
  have rd1' := rd1.ext e2
  split at h2
  · rename_i wk S3 q2
    split at q2
    · rename_i i j
      split at q2
      · rename_i hs
        simp only [Bool.and_eq_true] at hs
        cases q2
        cases rd1' with
        | p r =>
          cases r
          cases rd2 with
          | p r =>
            cases r
            have b1 := small_of hs.1
            have b2 := small_of hs.2
            exact ⟨_, _, rfl, ⟨b1.1, b1.2, b2.1, b2.2⟩, h2 m2 H2 _ .refl rs2 itok_rg⟩
      · cases q2
    · cases q2
  · rename_i x S3 q2
    split at q2
    · split at q2 <;> cases q2
    · cases q2
  · exact h2.elim⟩
def rgLF (f : Nv → Sto → Res D) : Nv → Sto → Res Wk := fun ρ S => (f ρ S).bind fun x S => (bltI .len [x] S).bind fun n S => match n with
  | .p (.int n) => .ok ⟨rgS 0 1 n.toNat, none⟩ S
  | _ => .stuck
/-- len(e) of what lies in the heap is small -/
theorem len_small {pins : List (Addr × Obj)} {s : Shared} {d : D} {v : V} {S1 : Sto} {r : D} (I : Inv X pins σ H s) (rs : RelS X.K H m S) (rd : RelD X.K H m d v) (h : bltI .len [d] S = .ok r S1) : ∃ n : Nat, r = .p (.int n) ∧ n ≤ LINE ∧ S1 = S := by
  cases d with
  | p x =>
    cases x with
    | str z => cases h; cases rd with | p r => cases r with | str z hz => exact ⟨_, rfl, hz.1, rfl⟩
    | tup xs => cases h; cases rd with | p r => cases r with | tup hq r => exact ⟨_, rfl, by obtain ⟨_, _, _, hz⟩ := I.tuple hq; rw [r.length, ← line_eq]; exact hz, rfl⟩
    | non => cases h
    | bl _ => cases h
    | int _ => cases h
  | mt xs => cases h; cases rd with | mt hq r => exact ⟨_, rfl, by obtain ⟨_, _, _, hz⟩ := I.tuple hq; rw [r.length, ← line_eq]; exact hz, rfl⟩
  | xv _ _ _ _ => cases h
  | ref n =>
    simp only [bltI] at h
    split at h
    · rename_i xs hx
      cases h
      obtain ⟨a, vs, ea, hq, r⟩ := rs.lst hx
      exact ⟨_, rfl, by obtain ⟨_, _, _, hz⟩ := I.list hq; rw [r.length, ← line_eq]; exact hz, rfl⟩
    · cases h
def rLen (K : Fg) : List V → Hp → VK → Prop := fun vs H Q => ∃ m d S r S1, RelS K H m S ∧ RelDs K H m [d] vs ∧ bltI .len [d] S = .ok r S1 ∧ ∀ n : Nat, r = .p (.int n) → n ≤ LINE → ∀ m' H', Ext K H m H' m' → RelS K H' m' S1 → Q (.int n) H'
theorem cr_len (hc : X.calm = true) (hu : X.A.units + 100 < cLine) : CallR X (.builtin "len") (rLen X.K) := fun pins s σ H xs us Q I r ⟨m, d, S, q, S1, rs, rd, e, hq⟩ => by
  obtain ⟨v, rfl, r1⟩ := rd.one
  obtain ⟨n, rfl, hn, rfl⟩ := len_small I rs r1 e
  refine sv_blt (cA := fun _ => 0) (W := fun _ _ _ _ => False) .len hc hu I r rs rd ?_
  rw [e]
  intro m' H' v' e' rs' rd'
  cases rd' with
  | p r => cases r; exact hq n rfl hn m' H' e' rs'
theorem sw_rgL {tg : Expr} {p p' pos' : Pos} (hc : X.calm = true) (hu : X.A.units + 100 < cLine) (hpl : plain a = true) (hg : Gl X "range") (hm : X.mg "range" = none) (hg' : Gl X "len") (hm' : X.mg "len" = none) (ha : PE X a (tR cA X.K W f)) :
    PI X tg (.Call (.Name "range" p) [.Call (.Name "len" p') [a] [] pos'] [] pos) (tW cA X.K W (rgLF f)) := ⟨fun pins s σ H R I ⟨m, ρ, S, rn, rs, h⟩ => by
  refine (pi_range1 hg hm (pa_cons (pe_callB (cr_len hc hu) hg' hm' PySem.boot_len (pa_cons ha pa_nil (star_cons hpl)) (he := star_cons hpl) (hpl := rfl)) pa_nil rfl) rfl).run pins s σ H R I ⟨m, ρ, S, rn, rs, (wk_bind h).imp fun v H1 ⟨m1, d, S1, _, e1, rs1, rd1, h1⟩ => ?_⟩
  cases q : bltI .len [d] S1 with
  | ok r S2 =>
    refine ⟨m1, d, S1, r, S2, rs1, .cons rd1 .nil, q, fun n hn hz m2 H2 e2 rs2 => ?_⟩
    subst hn
    simp only [q, Res.bind] at h1
    refine ⟨_, rfl, by have := hz; omega, by have := hz; unfold LINE at this; omega, h1 m2 H2 _ e2 rs2 itok_rg⟩
  | exc x S2 => exact absurd q bltI_nx
  | stuck => simp only [q, Res.bind] at h1⟩

/-! ### comprehensions -/
/-- no exception is wished for -/
abbrev W0 : WX := fun _ _ _ _ => False
theorem takes_blk {s0 : Shared} {H0 : Hp} {scope : Scope} {cenv : Env} {fp : List Addr} : Takes (X.blk s0 H0 scope cenv fp) W0 := fun u s' ⟨_, _, _, _, _, _, _, _, _, _, _, _, _, _, _, _, z⟩ => z
def lcF (own : List Nat) (tg : Tg) (w : Nv → Sto → Res Wk) (c : Nv → Sto → Res Bool) (elt : Nv → Sto → Res D) : Nv → Sto → Res D := fun ρ S => (w ρ S).bind fun w S => if w.ds.length ≤ LINE then lcI w tg c elt (wipeN ρ own) S.length (.pl []) w.ds (S ++ [.pl []]) else .stuck
theorem push_len {o o' : O} {d : D} (h : o.push d = some o') : o'.ds.length = o.ds.length + 1 ∧ o.mut = true ∧ o'.mut = true := by
  cases o with
  | pl xs =>
    cases d <;> (simp only [O.push, Option.some.injEq] at h; subst h; simp [O.ds, O.mut])
  | ml xs => simp only [O.push, Option.some.injEq] at h; subst h; simp [O.ds, O.mut]
  | fz xs => simp [O.push] at h
  | dc xs => simp [O.push] at h
  | ob c fs => simp [O.push] at h
theorem lc_of {own : List Nat} {tg : Tg} {w : Nv → Sto → Res Wk} {c : Nv → Sto → Res Bool} {elt : Nv → Sto → Res D} {Q : VK} (ht : ∀ j ∈ tg.sl, j ∈ own) (rn : RelN X.K H m ρ σ) (rs : RelS X.K H m S) (hp : Post cA X.K m H σ W (lcF own tg w c elt ρ S) Q) :
    tLc (tW cA X.K W w) (tG X.K tg) (tB cA X.K W0 c) (tR cA X.K W0 elt) own σ H Q := by
  refine ⟨m, ρ, S, rn, rs, ?_⟩
  unfold lcF at hp
  cases q : w ρ S with
  | stuck => simp only [q, Res.bind] at hp; exact hp.elim
  | exc x S1 => simp only [q, Res.bind] at hp; exact hp
  | ok wk S1 =>
    simp only [q, Res.bind] at hp
    intro m1 H1 J e1 rs1 ok D0 hD0
    split at hp
    · rename_i hz
      have hn1 : (m1 ++ [D0])[S1.length]? = some D0 := by rw [← rs1.len]; simp
      have ex0 : Ext X.K H1 m1 (upd H1 D0 (.lst [])) (m1 ++ [D0]) := Ext.new hD0
      refine ⟨fun i mm H => ∃ m2 S2 o, Ext X.K H1 m1 H m2 ∧ RelS X.K H m2 S2 ∧ m2[S1.length]? = some D0 ∧ S2[S1.length]? = some o ∧ o.mut = true ∧ o.ds.length ≤ i ∧ mm = (wk.ds.drop i).length ∧
        Post cA X.K m2 H σ W (lcI wk tg c elt (wipeN ρ own) S1.length o (wk.ds.drop i) S2) Q, ⟨_, m1 ++ [D0], S1 ++ [.pl []], .pl [], ex0, rs1.new hD0 (.pl upd_same .nil) rfl, hn1, by simp, rfl, by simp [O.ds], rfl, ?_⟩, ?_⟩
      · rw [List.drop_zero]
        exact Post.mono (e1.trans ex0) hp
      · rintro i mm Hc ⟨m2, S2, o, e2, rs2, hm2, ho, mo, hlen, rfl, h2⟩
        have rn2 : RelN X.K Hc m2 (wipeN ρ own) (L2.wipe σ own) := ((rn.ext e1).ext e2).wipe own
        cases hd : wk.ds.drop i with
        | nil =>
          rw [hd] at h2
          unfold lcI at h2
          split at h2
          · rename_i hst
            have hi : wk.ds.length ≤ i := by simpa using hd
            exact .inl ⟨((ok m2 Hc S2 e2 rs2 hst) i).1 hi, h2 m2 Hc _ .refl rs2 (.ref hm2)⟩
          · exact h2.elim
        | cons d ds =>
          rw [hd] at h2
          have hi : i < wk.ds.length := by
            rcases Nat.lt_or_ge i wk.ds.length with z | z
            · exact z
            · rw [List.drop_eq_nil_of_le z] at hd; cases hd
          have hget : wk.ds[i]? = some d := by
            have := congrArg List.head? hd
            simpa [List.head?_drop] using this
          have hds : ds = wk.ds.drop (i + 1) := by
            have := congrArg List.tail hd
            simpa using this.symm
          unfold lcI at h2
          split at h2
          · rename_i hst
            obtain ⟨go, yl⟩ := ((ok m2 Hc S2 e2 rs2 hst) i).2 d hget
            refine .inr ⟨go, fun H' => ∃ m', m' < (d :: ds).length ∧ ∃ m2 S2 o, Ext X.K H1 m1 H' m2 ∧ RelS X.K H' m2 S2 ∧ m2[S1.length]? = some D0 ∧ S2[S1.length]? = some o ∧ o.mut = true ∧ o.ds.length ≤ i + 1 ∧ m' = (wk.ds.drop (i + 1)).length ∧
              Post cA X.K m2 H' σ W (lcI wk tg c elt (wipeN ρ own) S1.length o (wk.ds.drop (i + 1)) S2) Q, fun H' h => h, fun x H' hy => ?_⟩
            obtain ⟨rfl, rdx⟩ := yl x H' hy
            refine ⟨m2, wipeN ρ own, S2, d, rn2, rs2, rdx, ?_⟩
            cases qa : asgT tg d (wipeN ρ own) with
            | none => simp only [qa] at h2; exact h2.elim
            | some ρ1 =>
              simp only [qa] at h2 ⊢
              intro σ2 rn3 ag
              refine ⟨wipe_agr ht ag, m2, ρ1, S2, rn3, rs2, ?_⟩
              have again : ∀ m3 H3 S3 o3, Ext X.K H' m2 H3 m3 → RelS X.K H3 m3 S3 → S3[S1.length]? = some o3 → o3.mut = true → o3.ds.length ≤ i + 1 → Post cA X.K m3 H3 σ W (lcI wk tg c elt (wipeN ρ own) S1.length o3 ds S3) Q →
                  ∃ m', m' < (d :: ds).length ∧ ∃ m2 S2 o, Ext X.K H1 m1 H3 m2 ∧ RelS X.K H3 m2 S2 ∧ m2[S1.length]? = some D0 ∧ S2[S1.length]? = some o ∧ o.mut = true ∧ o.ds.length ≤ i + 1 ∧ m' = (wk.ds.drop (i + 1)).length ∧
                    Post cA X.K m2 H3 σ W (lcI wk tg c elt (wipeN ρ own) S1.length o (wk.ds.drop (i + 1)) S2) Q := fun m3 H3 S3 o3 e3 rs3 ho3 mo3 hl3 h3 => by
                obtain ⟨t, rfl⟩ := e3.pre
                exact ⟨_, by rw [← hds]; simp, _, S3, o3, e2.trans e3, rs3, pre_get hm2, ho3, mo3, hl3, rfl, by rw [← hds]; exact h3⟩
              cases qc : c ρ1 S2 with
              | stuck => simp only [qc] at h2; exact h2.elim
              | exc x S3 => simp only [qc] at h2; exact h2.elim
              | ok b S3 =>
                simp only [qc] at h2
                intro m3 H3 e3 rs3
                cases b with
                | false =>
                  simp only at h2
                  split at h2
                  · rename_i ho3
                    simpa using again m3 H3 S3 o e3 rs3 ho3 mo (by omega) (Post.mono e3 h2)
                  · exact h2.elim
                | true =>
                  simp only at h2
                  simp only [if_true]
                  refine ⟨m3, ρ1, S3, rn3.ext e3, rs3, ?_⟩
                  cases qe : elt ρ1 S3 with
                  | stuck => simp only [qe] at h2; exact h2.elim
                  | exc x S4 => simp only [qe] at h2; exact h2.elim
                  | ok y S4 =>
                    simp only [qe] at h2
                    intro m4 H4 v e4 rs4 rd4
                    split at h2
                    · rename_i ho4
                      split at h2
                      · rename_i o' hpu
                        obtain ⟨a, ea, ro⟩ := rs4.ob _ _ ho4
                        have ex := e3.trans e4
                        obtain ⟨t, rfl⟩ := ex.pre
                        rw [pre_get hm2] at ea; cases ea
                        obtain ⟨vs, h1, _, mo', hl, ro'⟩ := push_rel (X := X) ro hpu rd4
                        obtain ⟨pl1, _, _⟩ := push_len hpu
                        have hlt : S1.length < S4.length := (List.getElem?_eq_some_iff.mp ho4).1
                        refine ⟨vs, h1, by rw [hl, line_eq]; omega, ?_⟩
                        have ex2 : Ext X.K H4 (m2 ++ t) (upd H4 D0 (.lst (vs ++ [v]))) (m2 ++ t) := Ext.put h1
                        exact again (m2 ++ t) _ (S4.set S1.length o') o' (ex.trans ex2) (rs4.put ho4 mo (pre_get hm2) h1 ro' mo') (List.getElem?_set_self hlt) mo' (by omega) (Post.mono (ex.trans ex2) h2)
                      · exact h2.elim
                    · exact h2.elim
          · exact h2.elim
    · exact hp.elim
end
end PH

set_option maxHeartbeats 4000000
/-! PH, part J: calls of the text's own defs; statements. -/
namespace PH
open L2 PySem PySem.Spec PyProof.Rows
/-- a def's promise: called with such values it does what F says -/
def spI (cA : Ca) (K : Fg) (np : Nat) (F : List D → Sto → Res D) : Sp := fun vs H Q E => vs.length = np ∧ ∃ m S ds, RelS K H m S ∧ RelDs K H m ds vs ∧ Post cA K m H [] (fun c d _ H => E c d H) (F ds S) Q
section
variable (cA : Ca) (K : Fg)
def PostC (m : List Addr) (H : Hp) (W : WX) (r : Out) (T : Ends) : Prop := match r with
  | .nx ρ S => ∀ m' H' σ', Ext K H m H' m' → RelN K H' m' ρ σ' → RelS K H' m' S → T.nx σ' H'
  | .bk ρ S => ∀ m' H' σ', Ext K H m H' m' → RelN K H' m' ρ σ' → RelS K H' m' S → T.bk σ' H'
  | .ct ρ S => ∀ m' H' σ', Ext K H m H' m' → RelN K H' m' ρ σ' → RelS K H' m' S → T.ct σ' H'
  | .rt d S => ∀ m' H' v, Ext K H m H' m' → RelS K H' m' S → RelD K H' m' d v → T.rt v H'
  | .exc x ρ S => ∀ m' H' σ' c dx, Ext K H m H' m' → RelN K H' m' ρ σ' → RelS K H' m' S → RelX cA K H' m' x c dx → W c dx σ' H'
  | .stuck => False
/-- a statement's reading: it does f -/
def tC (W : WX) (f : Nv → Sto → Out) : TS := fun T σ H => ∃ m ρ S, RelN K H m ρ σ ∧ RelS K H m S ∧ PostC cA K m H W (f ρ S) T
end
section
variable {cA : Ca} {K : Fg} {H H' : Hp} {m m' : List Addr} {σ : L2.St} {W : WX} {T T' : Ends} {ρ : Nv} {S : Sto}
theorem PostC.mono {r : Out} (e : Ext K H m H' m') (h : PostC cA K m H W r T) : PostC cA K m' H' W r T := by
  cases r with
  | nx ρ S => exact fun m2 H2 s e2 => h m2 H2 s (e.trans e2)
  | bk ρ S => exact fun m2 H2 s e2 => h m2 H2 s (e.trans e2)
  | ct ρ S => exact fun m2 H2 s e2 => h m2 H2 s (e.trans e2)
  | rt ρ S => exact fun m2 H2 s e2 => h m2 H2 s (e.trans e2)
  | exc x ρ S => exact fun m2 H2 s c dx e2 => h m2 H2 s c dx (e.trans e2)
  | stuck => exact h
theorem PostC.out {r : Res D} {f : D → Sto → Out} (rn : RelN K H m ρ σ) (h : PostC cA K m H W (r.out ρ f) T) :
    Post cA K m H σ W r fun v H1 => ∃ m1 d S1, r = .ok d S1 ∧ Ext K H m H1 m1 ∧ RelS K H1 m1 S1 ∧ RelD K H1 m1 d v ∧ PostC cA K m1 H1 W (f d S1) T := by
  cases r with
  | ok d S => exact fun m1 H1 v e rs rd => ⟨m1, d, S, rfl, e, rs, rd, PostC.mono e h⟩
  | exc x S => exact fun m1 H1 c dx e rs rx => h m1 H1 σ c dx e (rn.ext e) rs rx
  | stuck => exact h
theorem PostC.outB {r : Res Bool} {f : Bool → Sto → Out} (rn : RelN K H m ρ σ) (h : PostC cA K m H W (r.out ρ f) T) :
    PostB cA K m H σ W r fun b H1 => ∃ m1 S1, r = .ok b S1 ∧ Ext K H m H1 m1 ∧ RelS K H1 m1 S1 ∧ PostC cA K m1 H1 W (f b S1) T := by
  cases r with
  | ok d S => exact fun m1 H1 e rs => ⟨m1, S, rfl, e, rs, PostC.mono e h⟩
  | exc x S => exact fun m1 H1 c dx e rs rx => h m1 H1 σ c dx e (rn.ext e) rs rx
  | stuck => exact h
end
theorem _root_.L2.PS.imp {X : Cx} {e : Stmt} {t t' : TS} (h : PS X e t) (f : ∀ T σ H, t' T σ H → t T σ H) : PS X e t' := ⟨fun pins s σ H T I q => h.run pins s σ H T I (f T σ H q)⟩
theorem _root_.L2.PSs.imp {X : Cx} {e : List Stmt} {t t' : TS} (h : PSs X e t) (f : ∀ T σ H, t' T σ H → t T σ H) : PSs X e t' := ⟨fun pins s σ H T I q => h.run pins s σ H T I (f T σ H q)⟩
section
variable {cA : Ca} {X : Cx} {σ : L2.St} {H : Hp} {m : List Addr} {S : Sto} {ρ : Nv} {W : WX} {Q : VK} {T : Ends} {pos : Pos} {a b c x : Expr} {f g h : Nv → Sto → Res D} {F G : Nv → Sto → Out} {k : Nat}

/-! ### f(..) -/
theorem se_call {fa : Addr} {fd : FuncData} {ps : List Str} {Fn : List D → Sto → Res D} {n : Str} {p : Pos} {e : Expr} {es : List Expr} {g : Nv → Sto → Res (List D)} (F : FnOk X.prog X.w X.K X.mg X.base (L2.CX X.prog X.w) k fa fd ps (spI cA X.K ps.length Fn)) (hr : Room k X.A) (hg : Gl X n)
    (hm : X.mg n = some (.ref fa)) (hk : PySem.W.keepIn X.K (.ref fa) = true) (hb : Binds X.K fd ps []) (tk : Takes X W) (hlen : ∀ ds S, ds.length ≠ ps.length → Fn ds S = .stuck) (hd : (n == ("__debug__" : Str)) = false) (hpl : (e :: es).all plain = true)
    (ha : PA X (e :: es) (tA cA X.K W g)) : PE X (.Call (.Name n p) (e :: es) [] pos) (tR cA X.K W fun ρ S => (g ρ S).bind fun ds S => Fn ds S) := by
  have hpl' := hpl
  simp only [List.all_cons, Bool.and_eq_true] at hpl'
  refine (pe_callSD F hr hg hm hk hb .nil (fun σ => passAt tk σ) ha hd (star_cons hpl'.1) (star_any hpl'.2)).imp fun σ H Q ⟨m, ρ, S, rn, rs, hp⟩ => ?_
  obtain ⟨m1, ρ1, S1, a1, a2, a3⟩ := seqA rn rs hp
  refine ⟨m1, ρ1, S1, a1, a2, a3.imp fun vs H1 ⟨m2, ds, S2, _, rs2, rd2, h2⟩ => ?_⟩
  rw [List.append_nil]
  refine ⟨?_, m2, S2, ds, rs2, rd2, ?_⟩
  · rw [← rd2.length]
    by_cases z : ds.length = ps.length
    · exact z
    · rw [hlen ds S2 z] at h2; exact h2.elim
  · cases q : Fn ds S2 with
    | ok d S3 => rw [q] at h2; exact h2
    | exc x S3 => rw [q] at h2; exact h2
    | stuck => rw [q] at h2; exact h2
theorem se_call0 {fa : Addr} {fd : FuncData} {ps : List Str} {Fn : List D → Sto → Res D} {n : Str} {p : Pos} (F : FnOk X.prog X.w X.K X.mg X.base (L2.CX X.prog X.w) k fa fd ps (spI cA X.K ps.length Fn)) (hr : Room k X.A) (hg : Gl X n)
    (hm : X.mg n = some (.ref fa)) (hk : PySem.W.keepIn X.K (.ref fa) = true) (hb : Binds X.K fd ps []) (tk : Takes X W) (hlen : ∀ ds S, ds.length ≠ ps.length → Fn ds S = .stuck) (hd : (n == ("__debug__" : Str)) = false) :
    PE X (.Call (.Name n p) [] [] pos) (tR cA X.K W fun ρ S => Fn [] S) := ⟨fun pins s σ H Q I ⟨m, ρ, S, rn, rs, hp⟩ => by
  dsimp only at hp
  refine wpAny_Call_Name_kw (ld_glob I hg hm ?_ hd)
  refine PySem.W.callWith_K0 I.kIn hk (run_fnSD (E := WE W) (us := []) (vs := []) F hr hb .nil (passAt tk σ) I .nil ⟨?_, m, S, [], rs, .nil, ?_⟩)
  · show 0 = ps.length
    by_cases z : ([] : List D).length = ps.length
    · exact z
    · rw [hlen [] S z] at hp; exact hp.elim
  · cases q : Fn [] S with
    | ok d S3 => rw [q] at hp; exact hp
    | exc x S3 => rw [q] at hp; exact hp
    | stuck => rw [q] at hp; exact hp⟩

/-! ### statements -/
theorem ss_nil : PSs X [] (tC cA X.K W fun ρ S => .nx ρ S) := pss_nil.imp fun T σ H ⟨m, ρ, S, rn, rs, h⟩ => h m H σ .refl rn rs
theorem ss_cons {st : Stmt} {sts : List Stmt} (h1 : PS X st (tC cA X.K W F)) (h2 : PSs X sts (tC cA X.K W G)) : PSs X (st :: sts) (tC cA X.K W fun ρ S => (F ρ S).seq G) :=
  (pss_cons h1 h2).imp fun T σ H ⟨m, ρ, S, rn, rs, h⟩ => ⟨m, ρ, S, rn, rs, by
    dsimp only at h
    cases q : F ρ S with
    | nx ρ1 S1 => rw [q] at h; exact fun m1 H1 s1 e1 rn1 rs1 => ⟨m1, ρ1, S1, rn1, rs1, PostC.mono e1 h⟩
    | bk ρ1 S1 => rw [q] at h; exact h
    | ct ρ1 S1 => rw [q] at h; exact h
    | rt ρ1 S1 => rw [q] at h; exact h
    | exc x ρ1 S1 => rw [q] at h; exact h
    | stuck => rw [q] at h; exact h⟩
theorem ss_ret (he : PE X a (tR cA X.K W f)) : PS X (.Return (some a) pos) (tC cA X.K W fun ρ S => (f ρ S).out ρ .rt) :=
  (ps_ret he).imp fun T σ H ⟨m, ρ, S, rn, rs, h⟩ => ⟨m, ρ, S, rn, rs, (PostC.out rn h).imp fun v H1 ⟨m1, d, S1, _, e1, rs1, rd1, h1⟩ => h1 m1 H1 v .refl rs1 rd1⟩
theorem ss_retN : PS X (.Return none pos) (tC cA X.K W fun ρ S => .rt (.p .non) S) :=
  ps_retN.imp fun T σ H ⟨m, ρ, S, rn, rs, h⟩ => h m H .non .refl rs (.p .non)
theorem ss_ex (he : PE X a (tR cA X.K W f)) (hs : swapsWith a none pos.line X.env = pure false) : PS X (.Expr a pos) (tC cA X.K W fun ρ S => (f ρ S).out ρ fun _ S => .nx ρ S) :=
  (ps_expr he hs).imp fun T σ H ⟨m, ρ, S, rn, rs, h⟩ => ⟨m, ρ, S, rn, rs, (PostC.out rn h).imp fun v H1 ⟨m1, d, S1, _, e1, rs1, rd1, h1⟩ => h1 m1 H1 σ .refl (rn.ext e1) rs1⟩
def asgF (tg : Tg) (f : Nv → Sto → Res D) : Nv → Sto → Out := fun ρ S => (f ρ S).out ρ fun d S => match asgT tg d ρ with
  | some ρ' => .nx ρ' S
  | none => .stuck
theorem asg_of {tg : Tg} {v : V} {d : D} (rn : RelN X.K H m ρ σ) (rs : RelS X.K H m S) (rd : RelD X.K H m d v) (h : PostC cA X.K m H W (match asgT tg d ρ with | some ρ' => .nx ρ' S | none => .stuck) T) : tG X.K tg v σ H T.nx := by
  refine ⟨m, ρ, S, d, rn, rs, rd, ?_⟩
  cases q : asgT tg d ρ with
  | none => rw [q] at h; exact h.elim
  | some ρ' =>
    rw [q] at h
    exact fun σ' rn' _ => h m H σ' .refl rn' rs
theorem ss_asg {tg : Tg} {t : Expr} (he : PE X a (tR cA X.K W f)) (ht : PG X t (tG X.K tg)) (hp : plain t = true) (hs : swapsWithSole [t] a pos.line X.env = pure false) (hw : swappedStores [t] a X.env = pure none) : PS X (.Assign [t] a pos) (tC cA X.K W (asgF tg f)) :=
  (ps_asg he ht hs hw (by rw [assign_cons hp]; rfl)).imp fun T σ H ⟨m, ρ, S, rn, rs, h⟩ => ⟨m, ρ, S, rn, rs, (PostC.out rn h).imp fun v H1 ⟨m1, d, S1, _, e1, rs1, rd1, h1⟩ => asg_of (rn.ext e1) rs1 rd1 h1⟩
theorem ss_sub {o i : Expr} {spos : Pos} (he : PE X a (tR cA X.K W f)) (ho : PE X o (tR cA X.K W g)) (hi : PE X i (tR cA X.K W h)) (hn : noSlice i = true) (hs : swapsWithSole [.Subscript o i spos] a pos.line X.env = pure false) (hw : swappedStores [.Subscript o i spos] a X.env = pure none) :
    PS X (.Assign [.Subscript o i spos] a pos) (tC cA X.K W fun ρ S => (f ρ S).out ρ fun y S => (g ρ S).out ρ fun x S => (h ρ S).out ρ fun k S => match subI x k y S with
      | some S' => .nx ρ S'
      | none => .stuck) :=
  (ps_asg he (pg_sub ho hi set_list (fun v => by cases i <;> first | rfl | cases hn)) hs hw rfl).imp fun T σ H ⟨m, ρ, S, rn, rs, h0⟩ => ⟨m, ρ, S, rn, rs, (PostC.out rn h0).imp fun v H1 ⟨m1, d, S1, _, e1, rs1, rd1, h1⟩ =>
    ⟨m1, ρ, S1, rn.ext e1, rs1, (PostC.out (rn.ext e1) h1).imp fun v2 H2 ⟨m2, d2, S2, _, e2, rs2, rd2, h2⟩ => ⟨m2, ρ, S2, (rn.ext e1).ext e2, rs2, (PostC.out ((rn.ext e1).ext e2) h2).imp fun v3 H3 ⟨m3, d3, S3, _, e3, rs3, rd3, h3⟩ => by
      cases q : subI d2 d3 d S3 with
      | none => rw [q] at h3; exact h3.elim
      | some S4 =>
        rw [q] at h3
        exact sv_sub rs3 (rd2.ext e3) rd3 ((rd1.ext e2).ext e3) q fun H4 e4 rs4 => h3 m3 H4 σ e4 ((((rn.ext e1).ext e2).ext e3).ext e4) rs4⟩⟩⟩
def iteF (f : Nv → Sto → Res D) (F G : Nv → Sto → Out) : Nv → Sto → Out := fun ρ S => (tK f ρ S).out ρ fun k S => if k then F ρ S else G ρ S
theorem ss_if {s1 s2 : List Stmt} (hc : PT X a (tB cA X.K W (tK f))) (h1 : PSs X s1 (tC cA X.K W F)) (h2 : PSs X s2 (tC cA X.K W G)) : PS X (.If a s1 s2 pos) (tC cA X.K W (iteF f F G)) :=
  (ps_if hc h1 h2).imp fun T σ H ⟨m, ρ, S, rn, rs, h⟩ => ⟨m, ρ, S, rn, rs, (PostC.outB rn h).imp fun b H1 ⟨m1, S1, _, e1, rs1, h1⟩ => by
    cases b with
    | true => simpa using (show tC cA X.K W F T σ H1 from ⟨m1, ρ, S1, rn.ext e1, rs1, h1⟩)
    | false => simpa using (show tC cA X.K W G T σ H1 from ⟨m1, ρ, S1, rn.ext e1, rs1, h1⟩)⟩
theorem ss_pas : PS X (.Pass pos) (tC cA X.K W fun ρ S => .nx ρ S) := ps_pass.imp fun T σ H ⟨m, ρ, S, rn, rs, h⟩ => h m H σ .refl rn rs
theorem ss_brk : PS X (.Break pos) (tC cA X.K W fun ρ S => .bk ρ S) := ps_break.imp fun T σ H ⟨m, ρ, S, rn, rs, h⟩ => h m H σ .refl rn rs
theorem ss_cnt : PS X (.Continue pos) (tC cA X.K W fun ρ S => .ct ρ S) := ps_continue.imp fun T σ H ⟨m, ρ, S, rn, rs, h⟩ => h m H σ .refl rn rs

/-! ### for, while -/
def forF (tg : Tg) (w : Nv → Sto → Res Wk) (F : Nv → Sto → Out) : Nv → Sto → Out := fun ρ S => (w ρ S).out ρ fun w S => forI w tg F w.ds ρ S
theorem ss_for {tg : Tg} {t it : Expr} {body : List Stmt} {w : Nv → Sto → Res Wk} (hp : PassesOwn (model X.prog X.w) X.A X.env X.xe) (hc : X.calm = true) (hi : PI X t it (tW cA X.K W w)) (hg : PG X t (tG X.K tg)) (hb : PSs X body (tC cA X.K W F))
    (hs : ∀ x, foldedSetIterable it X.env x = pure x) : PS X (.For t it body [] pos) (tC cA X.K W (forF tg w F)) :=
  (ps_for hp hc hi hg hb hs).imp fun T σ H ⟨m, ρ, S, rn, rs, h⟩ => ⟨m, ρ, S, rn, rs, by
    unfold forF at h
    cases q : w ρ S with
    | stuck => rw [q] at h; exact h
    | exc x S1 => rw [q] at h; exact fun m1 H1 c dx e rs1 rx => h m1 H1 σ c dx e (rn.ext e) rs1 rx
    | ok wk S1 =>
      rw [q] at h
      intro m1 H1 J e1 rs1 ok
      refine ⟨fun i mm σ2 H2 => ∃ m2 ρ2 S2, Ext X.K H1 m1 H2 m2 ∧ RelN X.K H2 m2 ρ2 σ2 ∧ RelS X.K H2 m2 S2 ∧ mm = (wk.ds.drop i).length ∧ PostC cA X.K m2 H2 W (forI wk tg F (wk.ds.drop i) ρ2 S2) T, ⟨_, m1, ρ, S1, .refl, rn.ext e1, rs1, rfl, ?_⟩, ?_⟩
      · rw [List.drop_zero]; exact PostC.mono e1 h
      · rintro i mm σ2 H2 ⟨m2, ρ2, S2, e2, rn2, rs2, rfl, h2⟩
        cases hd : wk.ds.drop i with
        | nil =>
          rw [hd] at h2
          unfold forI at h2
          split at h2
          · rename_i hst
            have hi : wk.ds.length ≤ i := by simpa using hd
            exact .inl ⟨((ok m2 H2 S2 e2 rs2 hst) i).1 hi, h2 m2 H2 σ2 .refl rn2 rs2⟩
          · exact h2.elim
        | cons d ds =>
          rw [hd] at h2
          have hget : wk.ds[i]? = some d := by
            have := congrArg List.head? hd
            simpa [List.head?_drop] using this
          have hds : ds = wk.ds.drop (i + 1) := by
            have := congrArg List.tail hd
            simpa using this.symm
          unfold forI at h2
          split at h2
          · rename_i hst
            obtain ⟨go, yl⟩ := ((ok m2 H2 S2 e2 rs2 hst) i).2 d hget
            refine .inr ⟨go, fun σ3 H3 => ∃ m', m' < (d :: ds).length ∧ ∃ m2 ρ2 S2, Ext X.K H1 m1 H3 m2 ∧ RelN X.K H3 m2 ρ2 σ3 ∧ RelS X.K H3 m2 S2 ∧ m' = (wk.ds.drop (i + 1)).length ∧ PostC cA X.K m2 H3 W (forI wk tg F (wk.ds.drop (i + 1)) ρ2 S2) T, fun σ' H' h => h, fun x H' hy => ?_⟩
            obtain ⟨rfl, rdx⟩ := yl x H' hy
            refine ⟨m2, ρ2, S2, d, rn2, rs2, rdx, ?_⟩
            cases qa : asgT tg d ρ2 with
            | none => simp only [qa] at h2; exact h2.elim
            | some ρ1 =>
              simp only [qa] at h2 ⊢
              intro σ3 rn3 _
              refine ⟨m2, ρ1, S2, rn3, rs2, ?_⟩
              have again : ∀ ρ4 S4 m4 H4 σ4, PostC cA X.K m2 H' W (forI wk tg F ds ρ4 S4) T → Ext X.K H' m2 H4 m4 → RelN X.K H4 m4 ρ4 σ4 → RelS X.K H4 m4 S4 →
                  ∃ m', m' < (d :: ds).length ∧ ∃ m2 ρ2 S2, Ext X.K H1 m1 H4 m2 ∧ RelN X.K H4 m2 ρ2 σ4 ∧ RelS X.K H4 m2 S2 ∧ m' = (wk.ds.drop (i + 1)).length ∧ PostC cA X.K m2 H4 W (forI wk tg F (wk.ds.drop (i + 1)) ρ2 S2) T :=
                fun ρ4 S4 m4 H4 σ4 h4 e4 rn4 rs4 => ⟨_, by rw [← hds]; simp, m4, ρ4, S4, e2.trans e4, rn4, rs4, rfl, by rw [← hds]; exact PostC.mono e4 h4⟩
              cases qb : F ρ1 S2 with
              | nx ρ4 S4 => simp only [qb] at h2; exact fun m4 H4 σ4 e4 rn4 rs4 => again ρ4 S4 m4 H4 σ4 h2 e4 rn4 rs4
              | ct ρ4 S4 => simp only [qb] at h2; exact fun m4 H4 σ4 e4 rn4 rs4 => again ρ4 S4 m4 H4 σ4 h2 e4 rn4 rs4
              | bk ρ4 S4 => simp only [qb] at h2; exact h2
              | rt d4 S4 => simp only [qb] at h2; exact h2
              | exc x4 ρ4 S4 => simp only [qb] at h2; exact h2
              | stuck => simp only [qb] at h2; exact h2
          · exact h2.elim⟩
theorem whlI_ex {c : Nv → Sto → Res Bool} {body : Nv → Sto → Out} (h : whlI c body ρ S ≠ .stuck) : ∃ n, whlN c body n ρ S = some (whlI c body ρ S) := by
  unfold whlI at h ⊢
  split
  · rename_i q; exact q.choose_spec
  · rename_i q; rw [dif_neg q] at h; exact absurd rfl h
theorem ss_whl {body : List Stmt} (hp : PassesOwn (model X.prog X.w) X.A X.env X.xe) (hc : PT X a (tB cA X.K W (tK f))) (hb : PSs X body (tC cA X.K W F)) : PS X (.While a body [] pos) (tC cA X.K W (whlI (tK f) F)) :=
  (ps_while hp hc hb).imp fun T σ H ⟨m, ρ, S, rn, rs, h⟩ => by
    have hns : whlI (tK f) F ρ S ≠ .stuck := fun z => by rw [z] at h; exact h
    obtain ⟨n, hn⟩ := whlI_ex hns
    revert h hn
    generalize whlI (tK f) F ρ S = r
    intro h hn
    refine ⟨fun k σ1 H1 => ∃ m1 ρ1 S1, RelN X.K H1 m1 ρ1 σ1 ∧ RelS X.K H1 m1 S1 ∧ whlN (tK f) F k ρ1 S1 = some r ∧ PostC cA X.K m1 H1 W r T, ⟨n, m, ρ, S, rn, rs, hn, h⟩, ?_⟩
    rintro k σ1 H1 ⟨m1, ρ1, S1, rn1, rs1, h1, hr⟩
    cases k with
    | zero => cases h1
    | succ k =>
      unfold whlN at h1
      refine ⟨m1, ρ1, S1, rn1, rs1, ?_⟩
      cases q : tK f ρ1 S1 with
      | stuck =>
        simp only [q, Option.some.injEq] at h1
        subst h1; exact hr
      | exc x S2 =>
        simp only [q, Option.some.injEq] at h1
        subst h1; exact fun m2 H2 c dx e2 rs2 rx => hr m2 H2 σ1 c dx e2 (rn1.ext e2) rs2 rx
      | ok b S2 =>
        simp only [q] at h1
        intro m2 H2 e2 rs2
        cases b with
        | false =>
          simp only [Option.some.injEq] at h1
          subst h1
          simpa using (show T.nx σ1 H2 from hr m2 H2 σ1 e2 (rn1.ext e2) rs2)
        | true =>
          simp only at h1
          simp only [if_true]
          refine ⟨fun σ3 H3 => ∃ m1 ρ1 S1, RelN X.K H3 m1 ρ1 σ3 ∧ RelS X.K H3 m1 S1 ∧ whlN (tK f) F k ρ1 S1 = some r ∧ PostC cA X.K m1 H3 W r T, fun σ3 H3 q3 => ⟨k, Nat.lt_succ_self _, q3⟩, m2, ρ1, S2, rn1.ext e2, rs2, ?_⟩
          cases qb : F ρ1 S2 with
          | nx ρ4 S4 => simp only [qb] at h1; exact fun m4 H4 σ4 e4 rn4 rs4 => ⟨m4, ρ4, S4, rn4, rs4, h1, PostC.mono (e2.trans e4) hr⟩
          | ct ρ4 S4 => simp only [qb] at h1; exact fun m4 H4 σ4 e4 rn4 rs4 => ⟨m4, ρ4, S4, rn4, rs4, h1, PostC.mono (e2.trans e4) hr⟩
          | bk ρ4 S4 => simp only [qb, Option.some.injEq] at h1; subst h1; exact fun m4 H4 σ4 e4 => hr m4 H4 σ4 (e2.trans e4)
          | rt d4 S4 => simp only [qb, Option.some.injEq] at h1; subst h1; exact fun m4 H4 v e4 => hr m4 H4 v (e2.trans e4)
          | exc x4 ρ4 S4 => simp only [qb, Option.some.injEq] at h1; subst h1; exact fun m4 H4 σ4 c dx e4 => hr m4 H4 σ4 c dx (e2.trans e4)
          | stuck => simp only [qb, Option.some.injEq] at h1; subst h1; exact hr
end
end PH

set_option maxHeartbeats 8000000
/-! PH, part X: the program's own exception classes. -/
namespace PH
open L2 PySem PySem.Spec PyProof.Rows NdefX
section
variable {X : Cx} {pins : List (Addr × Obj)} {σ : L2.St} {H : Hp} {s : Shared} {a C f L cc : Addr} {F : NF}
/-- what is known of a class over ValueError (perhaps with others between) whose __init__ asks super() -/
structure SupK (K : Fg) (C : Addr) : Prop where
  oex : OexC K C
  sup : PySem.W.ks_superIn K C C "__init__" = some (some (.builtin "ValueError.__init__"))
  ve : PySem.W.subIn K (.ref C) (.type "ValueError") = some true
  me : PySem.W.mroIn K C (.ref C) = some true
  nos : PySem.W.nsIn K mainGlobals "super" = some none
  thi : PySem.W.nsIn K cStatics "thirdparty.any" = some none
/-- .. of its __init__ -/
structure SupF (K : Fg) (P : Program) (C f cc : Addr) (F : NF) (slf : Str) : Prop where
  cl : F.cl = [(("__class__" : Str), cc)]
  fn : ∃ oc od sl doc pm ctv, K.lookup f = some ⟨oc, od, .func (F.fd doc pm ctv), sl⟩
  hd : (F.params.posonlyargs ++ F.params.args).head?.map (·.arg) = some slf
  code : ∃ cl cd vs cs file tf, K.lookup F.c = some ⟨cl, cd, .fields vs, cs⟩ ∧ vs[2]? = some (.str file tf) ∧ ((P.main.file : Str) == file) = true
  cell : ∃ cl cd cs, K.lookup cc = some ⟨cl, cd, .cell (some (.ref C)), cs⟩
  kind : F.scope.kind = .function
  ks : F.scope.names.lookup ("super" : Str) = some .globalImplicit
  kc : F.scope.names.lookup ("__class__" : Str) = some .free
  ka : F.scope.names.lookup slf = some .local
  top : (P.main.scope.names.lookup ("super" : Str)).isSome = false
def plO (o : Expr) (env : Env) : Sem Bool := importBound o env >>= fun r => pure (r.getD true)
theorem one_line {o : Expr} {m : Str} {p q : Pos} {env : Env} {ov : Value} {n : Nat} {as : List (Bool × Sem Value)} {ks : List (Option Str × Sem Value)} (hf : methodCallForm n as ks = true) (hl : (p.endLine == q.line) = true) :
    methodCall o m p q env ov n as ks = (holding [ov] (getMethod ov m (plO o env)) >>= fun fx => callWith q fx.1 fx.2 as ks) := by
  have e2 : methodCallPos true o env p q = pure q := by
    unfold methodCallPos
    rw [hl, Bool.or_true, if_pos rfl]
  unfold methodCall calleeOf
  rw [hf, if_pos rfl, e2]
  rfl
theorem super_init {self : Str} {i : Nat} {body : List Stmt} {p0 p1 p2 p3 pos pos' : Pos} {t : Cs} {kd : Nat} (T : SupK X.K C) (G : SupF X.K X.prog C f cc F self) (hE : X.env = envF F f L) (I : Inv X pins σ H s) (hN : X.N[i]? = some self) (hσ : σ[i]? = some (some (.ref a)))
    (e : H a = some (exo a C none)) (hline : (p2.endLine == pos.line) = true) : _root_.PySem.wpAt (model X.prog X.w) X.A (.func body X.env) (exec (.Expr (.Call (.Attribute (.Call (.Name "super" p0) [] [] p1) "__init__" p2) [.Constant (.str (mkS t)) kd p3] [] pos) pos') X.env)
      (fun fl s' => fl = .next ∧ Inv X pins σ H s') X.xe s := by
  obtain ⟨nm, q, N0, bs, bm, sn, sub, ab, col, dd, k0, k1, k2, k3, k5, hC, hbm⟩ := T.oex.cls
  obtain ⟨oc, od, sl, doc, pm, ctv, hfn⟩ := G.fn
  obtain ⟨c1, c2, vs, c3, file, tf, hcode, hvs, hfile⟩ := G.code
  obtain ⟨l1, l2, l3, hcell⟩ := G.cell
  have KX : X.K.In s.heap := I.kIn
  have hcd : PySem.W.clsIn X.K C = some { name := nm, bases := bs, mro := .ref C :: bm, ns := N0, qualname := q, hasDict := true, slotNames := sn, subclasses := sub, abstract := ab, collection := col, hasDel := false } := by unfold PySem.W.clsIn; rw [hC] <;> rfl
  have hCd : s.heap.get? C = some (excClassObj nm q C N0 bs bm true sn sub ab col dd k0 k1 k2 k3 k5 "ValueError.__new__") := KX _ _ hC
  obtain ⟨arg, harg, hself⟩ : ∃ ar : Arg, (F.params.posonlyargs ++ F.params.args).head? = some ar ∧ ar.arg = self := by
    have := G.hd
    cases hh : (F.params.posonlyargs ++ F.params.args).head? with
    | none => rw [hh] at this; cases this
    | some ar => rw [hh] at this; exact ⟨ar, rfl, Option.some.inj this⟩
  obtain ⟨t0, ho⟩ := exo_at I.hok e
  have hks : X.env.scope.names.lookup ("super" : Str) = some .globalImplicit := by rw [hE]; exact G.ks
  have hkc : X.env.scope.names.lookup ("__class__" : Str) = some .free := by rw [hE]; exact G.kc
  have hka : X.env.scope.names.lookup self = some .local := by rw [hE]; exact G.ka
  have hcl : X.env.cells.lookup ("__class__" : Str) = some cc := by
    rw [hE]
    show F.cl.lookup _ = _
    rw [G.cl]; rfl
  have mgs : X.mg "super" = none := PySem.W.mg_none_of I.ok.mod.kin I.mod.glob T.nos
  refine PySem.ks_wpAt_Expr_any ?_ I.quiet (by rfl)
  have he : eval (.Call (.Attribute (.Call (.Name "super" p0) [] [] p1) "__init__" p2) [.Constant (.str (mkS t)) kd p3] [] pos) X.env = (do
      let ov ← attributeBase (.Call (.Name "super" p0) [] [] p1) "__init__" X.env (eval (.Call (.Name "super" p0) [] [] p1) X.env)
      standAt p2.atName
      let (f, first) ← holding [ov] (getMethod ov "__init__" (plO (.Call (.Name "super" p0) [] [] p1) X.env))
      callWith pos f first (backTo pos (starEach [.Constant (.str (mkS t)) kd p3] X.env)) []) := by
    show (do
      let ov ← attributeBase (.Call (.Name "super" p0) [] [] p1) "__init__" X.env (eval (.Call (.Name "super" p0) [] [] p1) X.env)
      standAt p2.atName
      methodCall (.Call (.Name "super" p0) [] [] p1) "__init__" p2 pos X.env ov 1 (backTo pos (starEach [.Constant (.str (mkS t)) kd p3] X.env)) (backToKw pos (keywordEach [] X.env))) = _
    refine congrArg _ (funext fun ov => congrArg _ (funext fun _ => ?_))
    exact one_line rfl hline
  refine PySem.ks_wpAt_MethodCall ?_ he
  refine PySem.ks_wpAt_super_base (env := X.env) hks hkc (by decide) (by rw [hE]) (KX _ _ hfn) rfl harg (by rw [hE]) (KX _ _ hcode) rfl hvs hfile G.top ?_
  obtain ⟨mb, hb1, hb2⟩ := I.mod.blt
  refine PySem.W.ks_loadName_global I.ok.kind hks (Calls.loadGlobal_builtin (by rw [I.ok.glob]; exact I.mod.glob.keeps I.bk) mgs (by rw [I.ok.blt]; exact hb1.keeps I.bk) ((hb2 _ (by decide)).trans (by first | rfl | kernel_rfl)) ⟨rfl, ?_⟩)
  refine wpAny_loadName_free I.ok.kind hkc hcl ⟨_, KX _ _ hcell, rfl⟩ ?_
  obtain ⟨ml, hns, hloc⟩ := I.loc
  obtain ⟨u, ru, lk⟩ := hloc i self (.ref a) hN hσ (.inl hka)
  obtain rfl : u = Value.ref a := ru
  have hml : ml self = some (.ref a) := by
    rcases lk with ⟨_, z⟩ | ⟨z, _⟩
    · exact z
    · have : X.env.scope.names.lookup self = some .cell ∨ X.env.scope.names.lookup self = some .free := z
      rw [hka] at this
      rcases this with z | z <;> cases z
  rw [hself]
  refine wpAny_loadName_local I.ok.kind hka hns hml ?_
  refine PySem.ks_wpAny_isType_cls hCd rfl ⟨rfl, ?_⟩
  obtain ⟨hp, g, d, tk, os⟩ := s
  refine PySem.ks_wpAny_call_super hCd rfl ho rfl (fun c z => by cases z) (PySem.W.looks_mroIn KX T.me) (fun h1 e1 k1 => ?_)
  have I1 : Inv X pins σ H ⟨h1, g, d, tk, os⟩ := I.kept (t' := tk) k1
  have J1 : PySem.W.InstAt h1 a { cls := .ref C, dict := none, data := .fields #[.ref t0, .none, .none, .none, .bool false, .none] } C none := ⟨k1 _ _ ho, rfl, rfl, trivial⟩
  have K1 : X.K.In h1 := I1.kIn
  have hne : a ≠ C := PySem.W.ks_ne K1 J1 hcd
  have hal : PySem.W.alongIn X.K "__init__" (((Value.ref C :: bm).dropWhile (· != .ref C)).drop 1) = some (some (.builtin "ValueError.__init__")) := by
    have := T.sup
    unfold PySem.W.ks_superIn at this
    rw [hcd] at this
    exact this
  refine PySem.W.kxs_getMethod PySem.W.kxs_ValueError e1 (PySem.W.looks_opaque K1 T.thi) (PySem.W.looks_clsIn K1 hcd |>.andThen .now) rfl K1 hal (J1.type.andThen (PySem.W.looks_subIn K1 T.ve)) hne (by decide) ?_
  have k2 : ∀ b o, h1.get? b = some o → (h1.push (PySem.W.kxs_mw "ValueError.__init__" a)).get? b = some o := fun b o z => Heap.get?_push_of_some _ z
  have hu : (h1.push (PySem.W.kxs_mw "ValueError.__init__" a)).get? h1.objs.size = some (PySem.W.kxs_mw "ValueError.__init__" a) := Heap.get?_push_size _ rfl
  have I2 : Inv X pins σ H ⟨h1.push (PySem.W.kxs_mw "ValueError.__init__" a), g, d, tk + 1 + 1, os⟩ := I1.kept (t' := tk + 1 + 1) k2
  obtain ⟨t1, ho2⟩ := exo_at I2.hok e
  have hC2 := I2.kIn _ _ hC
  generalize h1.push (PySem.W.kxs_mw "ValueError.__init__" a) = h2 at hu I2 ho2 hC2
  refine PySem.W.kxs_callWith (i := "ValueError.__init__") (x := a) rfl (Calls.evalArgs_plain (Calls.spliced_cons (wpAny_Constant_str (k := kd) (pos := p3) (Calls.spliced_nil ⟨hu, ?_⟩))))
  refine wpAny_call (codeAny_of_tree ?_)
  show wpAny _ X.A.in1 (callAny (.ref h1.objs.size) ⟨[.str (mkS t) (tk + 1)], []⟩) _ _ _
  simp only [callAny]
  refine wpAny_bind (wpAny_load hu ?_)
  simp only [PySem.W.kxs_mw, show (Value.type "method-wrapper" == Value.type "method" || Value.type "method-wrapper" == Value.type "builtin_function_or_method" || Value.type "method-wrapper" == Value.type "method-wrapper") = true by decide, if_true]
  refine PySem.W.KFB.if_so (by decide) ?_
  show wpAny _ _ (checkBoundCall "ValueError.__init__" ⟨.ref a :: [.str (mkS t) (tk + 1)], []⟩ >>= fun _ => again (.builtin "ValueError.__init__" ⟨.ref a :: [.str (mkS t) (tk + 1)], []⟩)) _ _ _
  refine wpAny_bind (PySem.W.check_bound_init PySem.F.excBase_ValueError.toExcCallFacts hC2 ho2 rfl ?_)
  refine wpAny_pure ?_
  refine ⟨plainId_quiet PySem.F.excBase_ValueError.init.plain _, codeAny_builtin PySem.F.excBase_ValueError.initEntry ?_⟩
  refine PySem.W.exc_init_tree (cls := .ref C) (t0 := t1) (dv := none) (c2 := .none) (c3 := .none) (b4 := .bool false) ho2 (by show 1 ≤ sizeLine; decide) fun h3 k3 x3 _ => ?_
  have J := I2.write (t' := tk + 1 + 1) (x := a) (e := a) (o := exo a C none) (by rw [e]; exact True.intro) (.inl rfl) k3 ⟨_, x3⟩ (exo_ok x3)
  have eu : upd H a (exo a C none) = H := by
    funext b
    by_cases hb : b = a
    · rw [hb, upd_same, e]
    · rw [upd_ne hb]
  rw [eu] at J
  exact ⟨trivial, J⟩

/-- self.f = f, field by field -/
def setB (slf : Str) : List Str → List Stmt → Bool
  | [], [] => true
  | f :: fs, s :: ss => (match s with
    | .Assign [.Attribute (.Name o _) g _] (.Name x _) _ => decide (o = slf) && decide (g = f) && decide (x = f)
    | _ => false) && setB slf fs ss
  | _, _ => false
theorem setB_of {slf fld : Str} {fs : List Str} {ss : List Stmt} (h : setB slf (fld :: fs) ss = true) : ∃ p1 p2 p3 p4 ss', ss = .Assign [.Attribute (.Name slf p1) fld p2] (.Name fld p3) p4 :: ss' ∧ setB slf fs ss' = true := by
  cases ss with
  | nil => cases h
  | cons s ss =>
    simp only [setB, Bool.and_eq_true] at h
    obtain ⟨h1, h2⟩ := h
    split at h1
    · simp only [Bool.and_eq_true, decide_eq_true_eq] at h1
      obtain ⟨⟨rfl, rfl⟩, rfl⟩ := h1
      exact ⟨_, _, _, _, _, rfl, h2⟩
    · cases h1
structure SetH (X : Cx) (C : Addr) (j : Nat) (fs : List Str) : Prop where
  nm : ∀ i fl, fs[i]? = some fl → X.N[j + i]? = some fl ∧ Vis X.env.scope fl ∧ (fl == ("__debug__" : Str)) = false ∧ (fl == ("__classdict__" : Str)) = false ∧ PySem.W.findIn X.K (.ref C) fl = some none
theorem SetH.tl {j : Nat} {fl : Str} {fs : List Str} (h : SetH X C j (fl :: fs)) : SetH X C (j + 1) fs := ⟨fun i g hg => by
  have := h.nm (i + 1) g (by simpa using hg)
  rw [show j + (i + 1) = j + 1 + i by omega] at this
  exact this⟩
theorem upd_keep {H : Hp} {b : Addr} {o : HO} (h : H b = some o) : upd H b o = H := by
  funext c
  by_cases hc : c = b
  · rw [hc, upd_same, h]
  · rw [upd_ne hc]
theorem upd_upd {H : Hp} {b : Addr} {o u : HO} : upd (upd H b o) b u = upd H b u := by
  funext c
  by_cases hc : c = b
  · rw [hc, upd_same, upd_same]
  · rw [upd_ne hc, upd_ne hc, upd_ne hc]
theorem sets_run {slf : Str} {i0 : Nat} {d : Addr} (T : OexC X.K C) (hs0 : X.N[i0]? = some slf) (hv0 : Vis X.env.scope slf) (hd0 : (slf == ("__debug__" : Str)) = false) (hd1 : (slf == ("__classdict__" : Str)) = false) :
    ∀ (fs : List Str) (ss : List Stmt) (ys : List V) (j : Nat) (done : List (Str × V)) (H : Hp) (s : Shared), setB slf fs ss = true → fs.length = ys.length → SetH X C j fs → (∀ i y, ys[i]? = some y → σ[j + i]? = some (some y)) → σ[i0]? = some (some (.ref a)) → done.length + fs.length ≤ 900 →
      Inv X pins σ H s → H a = some (exo a C (some d)) → H d = some (exd d done) → d ≠ a → wpAny (model X.prog X.w) X.A (execs ss X.env) (fun fl s' => fl = .next ∧ Inv X pins σ (upd H d (exd d ((fs.zip ys).reverse ++ done))) s') X.xe s
  | [], ss, ys, j, done, H, s, hb, hl, hn, hy, h0, hz, I, ea, ed, da => by
    cases ss with
    | nil => exact wpAny_execs_nil ⟨rfl, by rw [show ([] : List Str).zip ys = [] from rfl]; rw [show ([] : List (Str × V)).reverse ++ done = done from rfl, upd_keep ed]; exact I⟩
    | cons _ _ => cases hb
  | fl :: fs, ss, [], j, done, H, s, hb, hl, hn, hy, h0, hz, I, ea, ed, da => by simp at hl
  | fl :: fs, ss, y :: ys, j, done, H, s, hb, hl, hn, hy, h0, hz, I, ea, ed, da => by
    obtain ⟨p1, p2, p3, p4, ss', rfl, hb'⟩ := setB_of hb
    obtain ⟨n1, n2, n3, n4, n5⟩ := hn.nm 0 fl rfl
    have st := ps_ost (X := X) (o := .Name slf p1) (e := .Name fl p3) (f := fl) (p' := p2) (pos := p4) (pe_var hs0 hv0 hd0 hd1) (pe_var n1 n2 n3 n4)
    refine wpAny_execs_cons (wpAny_mono (st.run pins s σ H { nx := fun σ' H' => σ' = σ ∧ H' = upd H d (exd d ((fl, y) :: done)), rt := fun _ _ => False } I ?_) (fun f0 s1 h1 => ?_) fun _ _ z => z)
    · exact ⟨y, hy 0 y rfl, .ref a, h0, a, C, rfl, T, n5, .inr ⟨d, done, ea, ed, by simp at hz; omega, rfl, rfl⟩⟩
    · cases f0 with
      | next =>
        obtain ⟨σ', H', I1, e1, e2⟩ := h1
        rw [e1, e2] at I1
        have r := sets_run T hs0 hv0 hd0 hd1 fs ss' ys (j + 1) ((fl, y) :: done) (upd H d (exd d ((fl, y) :: done))) s1 hb' (by simpa using hl) hn.tl (fun i z hz' => by
          have := hy (i + 1) z (by simpa using hz')
          rw [show j + (i + 1) = j + 1 + i by omega] at this
          exact this) h0 (by simp at hz ⊢; omega) I1 (by rw [upd_ne (Ne.symm da)]; exact ea) upd_same da
        rw [upd_upd] at r
        simpa using r
      | ret _ => obtain ⟨_, _, _, _, _, z⟩ := h1; exact z.elim
      | brk => obtain ⟨_, _, _, z⟩ := h1; exact z.elim
      | cont => obtain ⟨_, _, _, z⟩ := h1; exact z.elim
/-- .. from the first on -/
theorem sets_all {slf fl : Str} {i0 : Nat} {fs : List Str} {ss : List Stmt} {y : V} {ys : List V} {j : Nat} (T : OexC X.K C) (hs0 : X.N[i0]? = some slf) (hv0 : Vis X.env.scope slf) (hd0 : (slf == ("__debug__" : Str)) = false) (hd1 : (slf == ("__classdict__" : Str)) = false)
    (hb : setB slf (fl :: fs) ss = true) (hl : fs.length = ys.length) (hn : SetH X C j (fl :: fs)) (hy : ∀ i z, (y :: ys)[i]? = some z → σ[j + i]? = some (some z)) (h0 : σ[i0]? = some (some (.ref a))) (hz : fs.length ≤ 800) (I : Inv X pins σ H s) (ea : H a = some (exo a C none)) :
    wpAny (model X.prog X.w) X.A (execs ss X.env) (fun f0 s' => f0 = .next ∧ ∃ d, H d = none ∧ d ≠ a ∧ Inv X pins σ (upd (upd H d (exd d (((fl :: fs).zip (y :: ys)).reverse))) a (exo a C (some d))) s') X.xe s := by
  obtain ⟨p1, p2, p3, p4, ss', rfl, hb'⟩ := setB_of hb
  obtain ⟨n1, n2, n3, n4, n5⟩ := hn.nm 0 fl rfl
  have st := ps_ost (X := X) (o := .Name slf p1) (e := .Name fl p3) (f := fl) (p' := p2) (pos := p4) (pe_var hs0 hv0 hd0 hd1) (pe_var n1 n2 n3 n4)
  refine wpAny_execs_cons (wpAny_mono (st.run pins s σ H { nx := fun σ' H' => σ' = σ ∧ ∃ d, H d = none ∧ d ≠ a ∧ H' = upd (upd H d (exd d [(fl, y)])) a (exo a C (some d)), rt := fun _ _ => False } I ?_) (fun f0 s1 h1 => ?_) fun _ _ z => z)
  · exact ⟨y, hy 0 y rfl, .ref a, h0, a, C, rfl, T, n5, .inl ⟨ea, fun d hd da => ⟨rfl, d, hd, da, rfl⟩⟩⟩
  · cases f0 with
    | next =>
      obtain ⟨σ', H', I1, e1, d, hd, da, e3⟩ := h1
      rw [e1, e3] at I1
      refine wpAny_mono (sets_run T hs0 hv0 hd0 hd1 fs ss' ys (j + 1) [(fl, y)] (upd (upd H d (exd d [(fl, y)])) a (exo a C (some d))) s1 hb' hl hn.tl (fun i z hz' => by
          have := hy (i + 1) z (by simpa using hz')
          rw [show j + (i + 1) = j + 1 + i by omega] at this
          exact this) h0 (by simp; omega) I1 upd_same (by rw [upd_ne da]; exact upd_same) da) (fun f1 s2 ⟨h2, J⟩ => ⟨h2, d, hd, da, ?_⟩) fun _ _ z => z
      have e2 : upd (upd (upd H d (exd d [(fl, y)])) a (exo a C (some d))) d (exd d ((fs.zip ys).reverse ++ [(fl, y)])) = upd (upd H d (exd d (((fl :: fs).zip (y :: ys)).reverse))) a (exo a C (some d)) := by
        funext c
        by_cases hc : c = d
        · rw [hc, upd_same, upd_ne da, upd_same]; simp
        · by_cases hca : c = a
          · rw [hca, upd_ne (Ne.symm da), upd_same, upd_same]
          · rw [upd_ne hc, upd_ne hca, upd_ne hc, upd_ne hca, upd_ne hc]
      rw [e2] at J
      exact J
    | ret _ => obtain ⟨_, _, _, _, _, z⟩ := h1; exact z.elim
    | brk => obtain ⟨_, _, _, z⟩ := h1; exact z.elim
    | cont => obtain ⟨_, _, _, z⟩ := h1; exact z.elim

/-- what the __init__ of such a class does with the object and the fields' values -/
def spInit (C : Addr) (fs : List Str) : Sp := fun vs H Q _ => ∃ a ys, vs = .ref a :: ys ∧ ys.length = fs.length ∧ H a = some (exo a C none) ∧ ∀ d, H d = none → d ≠ a → Q .non (upd (upd H d (exd d ((fs.zip ys).reverse))) a (exo a C (some d)))
/-- the text of it -/
def initB (slf : Str) (fs : List Str) : List Stmt → Bool
  | .Expr (.Call (.Attribute (.Call (.Name n _) [] [] _) m p2) [.Constant (.str t) _ _] [] pos) _ :: ss => decide (n = ("super" : Str)) && decide (m = ("__init__" : Str)) && (p2.endLine == pos.line) && decide (t = mkS t.cps.toList) && setB slf fs ss
  | _ => false
theorem initB_of {slf : Str} {fs : List Str} {body : List Stmt} (h : initB slf fs body = true) : ∃ p0 p1 p2 p3 pos pos' kd t ss, body = .Expr (.Call (.Attribute (.Call (.Name "super" p0) [] [] p1) "__init__" p2) [.Constant (.str (mkS t)) kd p3] [] pos) pos' :: ss ∧ (p2.endLine == pos.line) = true ∧ setB slf fs ss = true := by
  unfold initB at h
  split at h
  · rename_i n p0 p1 m p2 u kd p3 pos pos' ss
    simp only [Bool.and_eq_true, decide_eq_true_eq] at h
    obtain ⟨⟨⟨⟨rfl, rfl⟩, h1⟩, h2⟩, h3⟩ := h
    exact ⟨p0, p1, p2, p3, pos, pos', kd, u.cps.toList, ss, by rw [← h2], h1, h3⟩
  · cases h
theorem look1 {n x : Str} {cc c : Addr} (h : [(n, cc)].lookup x = some c) : x = n ∧ c = cc := by
  rw [List.lookup_cons] at h
  cases hx : x == n with
  | true => rw [hx] at h; exact ⟨beq_iff_eq.mp hx, (Option.some.inj h).symm⟩
  | false => rw [hx] at h; cases h
theorem init_fn {CX : CXT} {P : Program} {w : World} {K : Fg} {mg : Str → Option Value} {base : Heap} {k : Nat} {C f cc : Addr} {Fn : NF} {slf fl : Str} {fs N : List Str} {oc : Value} {od : Option Addr} {sl : Array (Option Value)} {doc pm ctv : Value} (T : SupK K C) (G : SupF K P C f cc Fn slf)
    (lk : K.lookup f = some ⟨oc, od, .func (Fn.fd doc pm ctv), sl⟩) (hcd : PySem.W.codeIn K (.ref Fn.c) Fn.qual = true) (S : NScope N (slf :: fl :: fs) [("__class__" : Str)] Fn.scope) (hb : initB slf (fl :: fs) Fn.body = true)
    (hno : ∀ g ∈ fl :: fs, PySem.W.findIn K (.ref C) g = some none) (hdb : ∀ g ∈ slf :: fl :: fs, (g == ("__debug__" : Str)) = false ∧ (g == ("__classdict__" : Str)) = false) (hz : fs.length ≤ 800) :
    FnOk P w K mg base CX (k + 1) f (Fn.fd doc pm ctv) (slf :: fl :: fs) (spInit C (fl :: fs)) := by
  refine ⟨fun vs H Q E ⟨a, ys, e, hl, _⟩ => by rw [e]; simp [hl], fun A outer s H args us vs Q E hr e0 hbd r hsp => ?_⟩
  obtain ⟨a, ys0, rfl, hl, ea, hq⟩ := hsp
  cases ys0 with
  | nil => simp at hl
  | cons y ys =>
  have KX : K.In s.heap := e0.mod.kin.keeps fun b o e => (e0.bs b o e).1
  have lim : s.heap.NoLimit := e0.mod.nolimit.keeps fun b o e => (e0.bs b o e).1
  obtain ⟨l1, l2, l3, hcell⟩ := G.cell
  have hcb := e0.bs cc _ (e0.mod.kin _ _ hcell)
  have ndP : (slf :: fl :: fs).Nodup := by
    have q := S.nd.sublist (List.take_sublist ((slf :: fl :: fs).length + [("__class__" : Str)].length) N)
    rw [S.pre] at q
    exact (List.nodup_append.mp q).1
  have CA : CellsAt Fn.cl [("__class__" : Str)] [some (V.ref C)] s.heap H := by
    rw [G.cl]
    refine ⟨rfl, fun x c h => ?_, fun x z c h1 h2 => ?_, fun i x h => ?_⟩
    · obtain ⟨_, rfl⟩ := look1 h
      exact ⟨hcb.2, _, _, hcb.1, rfl⟩
    · rw [(look1 h1).1, (look1 h2).1]
    · cases i with
      | zero =>
        simp at h; subst h
        refine ⟨cc, rfl, fun v hv => ?_⟩
        simp at hv; subst hv
        exact ⟨.ref C, rfl, _, hcb.1, rfl⟩
      | succ i => simp at h
  have hNi : ∀ i g, (slf :: fl :: fs)[i]? = some g → N[i]? = some g := fun i g hg => by
    have hlt : i < (slf :: fl :: fs).length := (List.getElem?_eq_some_iff.mp hg).1
    have : (N.take ((slf :: fl :: fs).length + [("__class__" : Str)].length))[i]? = some g := by
      rw [S.pre, List.getElem?_append_left hlt]; exact hg
    rw [List.getElem?_take] at this
    split at this
    · exact this
    · cases this
  have hloc : ∀ g ∈ slf :: fl :: fs, Fn.scope.names.lookup g = some .local := S.par
  obtain ⟨p0, p1, p2, p3, pos, pos', kd, t, ss, hbody, hline, hset⟩ := initB_of hb
  refine PySem.ks_codeAny_call_defAt (fd := Fn.fd doc pm ctv) (body := Fn.body) (binds := (slf :: fl :: fs).zip us) hr.depth (KX _ _ lk) rfl lim (PySem.W.codeRec_of KX hcd) rfl hbd S.nocell (fun x hx => hloc _ (List.of_mem_zip hx).1) (fun h0 hns kp => ?_) S.co S.gen S.kind
  have I := inv_startN (CX := CX) (E := E) (tk := s.toks + ((slf :: fl :: fs).zip us).length) (F := Fn) (f := f) S hr.hd e0 (vs := .ref a :: y :: ys) (by simpa using hl) r CA hns kp
  have sv : ∀ i z, (V.ref a :: y :: ys)[i]? = some z → (startF N (.ref a :: y :: ys) [some (V.ref C)])[i]? = some (some z) := fun i z hz => by
    unfold startF
    rw [List.getElem?_append_left (by rw [List.length_map]; exact (List.getElem?_eq_some_iff.mp hz).1), List.getElem?_map, hz]
    rfl
  have s0 := sv 0 _ rfl
  show _root_.PySem.wpAt (model P w) (A.deeper (envF Fn f s.heap.objs.size)) (.func Fn.body (envF Fn f s.heap.objs.size)) (execs Fn.body (envF Fn f s.heap.objs.size)) _ _ _
  rw [show execs Fn.body (envF Fn f s.heap.objs.size) = execs (.Expr (.Call (.Attribute (.Call (.Name "super" p0) [] [] p1) "__init__" p2) [.Constant (.str (mkS t)) kd p3] [] pos) pos' :: ss) (envF Fn f s.heap.objs.size) by rw [hbody]]
  have d0 := hdb slf List.mem_cons_self
  refine PySem.ks_wpAt_execs_cons (PySem.ks_wpAt_mono (super_init (X := ncx CX P w K mg base N Fn f A outer s H E) (body := Fn.body) T G rfl I (hNi 0 _ rfl) s0 ea hline) (fun f0 s' ⟨e1, J⟩ => ?_) fun _ _ z => z)
  subst e1
  refine PySem.wpAt_of_wpAny (wpAny_mono (sets_all (X := ncx CX P w K mg base N Fn f A outer s H E) (j := 1) (y := y) (ys := ys) T.oex (hNi 0 _ rfl) (.inl (hloc _ List.mem_cons_self)) d0.1 d0.2 hset (by simpa using hl.symm) ⟨fun i g hg => ?_⟩ (fun i z hz => ?_) s0 hz J ea) (fun f1 s2 ⟨e2, d, hd, da, J2⟩ => ?_) fun _ _ z => z)
  · have hm : g ∈ fl :: fs := List.mem_of_getElem? hg
    have dd := hdb g (List.mem_cons_of_mem _ hm)
    exact ⟨hNi (1 + i) g (by rw [Nat.add_comm]; exact hg), .inl (hloc _ (List.mem_cons_of_mem _ hm)), dd.1, dd.2, hno g hm⟩
  · exact sv (1 + i) z (by rw [Nat.add_comm]; exact hz)
  · subst e2
    exact ⟨.non, _, J2.os, J2.bare, J2.base, J2.hok, rfl, hq d hd da⟩
end

/-- what must be known of a class that is raised -/
structure ClsOk (cA : Ca) (P : Program) (w : World) (K : Fg) (mgl : Str → Option Value) (base : Heap) (n : Str) (c : Nat) (fs : List String) : Prop where
  mg : mgl n = some (.ref (cA c))
  oex : OexC K (cA c)
  ini : ∃ slf fI fd, PySem.W.findIn K (.ref (cA c)) "__init__" = some (some (.ref fI)) ∧ PySem.W.typeIn K (.ref fI) = some (.type "function") ∧ FnOk P w K mgl base (L2.CX P w) 1 fI fd (slf :: fs.map Str.ofString) (spInit (cA c) (fs.map Str.ofString)) ∧ Binds K fd (slf :: fs.map Str.ofString) []
  nd : (fs.map Str.ofString).Nodup
  few : fs.length ≤ 800
  xf : XfC K (cA c)
  no : ∀ f ∈ fs, PySem.W.findIn K (.ref (cA c)) (Str.ofString f) = some none
section
variable {cA : Ca} {X : Cx} {σ : L2.St} {H : Hp} {m : List Addr} {S : Sto} {ρ : Nv} {W : WX} {T : Ends} {K : Fg}
theorem PostC.outA {r : Res (List D)} {f : List D → Sto → Out} (rn : RelN K H m ρ σ) (h : PostC cA K m H W (r.out ρ f) T) :
    PostA cA K m H σ W r fun vs H1 => ∃ m1 ds S1, r = .ok ds S1 ∧ Ext K H m H1 m1 ∧ RelS K H1 m1 S1 ∧ RelDs K H1 m1 ds vs ∧ PostC cA K m1 H1 W (f ds S1) T := by
  cases r with
  | ok d S => exact fun m1 H1 v e rs rd => ⟨m1, d, S, rfl, e, rs, rd, PostC.mono e h⟩
  | exc x S => exact fun m1 H1 c dx e rs rx => h m1 H1 σ c dx e (rn.ext e) rs rx
  | stuck => exact h
/-- looking up from behind, the names all unlike -/
theorem look_rev : ∀ {fs : List String} {ds : List D} {vs : List V}, RelDs K H m ds vs → (fs.map Str.ofString).Nodup → ∀ {f : String} {y : D}, (fs.zip ds).lookup f = some y → ∃ v, (((fs.map Str.ofString).zip vs).reverse).lookup (Str.ofString f) = some v ∧ RelD K H m y v
  | [], _, _, _, _, _, _, h => by simp at h
  | _ :: _, [], _, _, _, _, _, h => by simp at h
  | g :: fs, d :: ds, _, .cons (v := v) (vs := vs) hd hr, nd, f, y, h => by
    rw [List.map_cons, List.nodup_cons] at nd
    rw [List.zip_cons_cons, List.lookup_cons] at h
    rw [List.map_cons, List.zip_cons_cons, List.reverse_cons]
    have app : ∀ (l : List (Str × V)) (p : Str × V) (x : Str), (l ++ [p]).lookup x = match l.lookup x with | some z => some z | none => [p].lookup x := fun l p x => by
      rw [List.lookup_append]
      cases l.lookup x <;> rfl
    rw [app]
    cases hf : f == g with
    | true =>
      rw [hf] at h
      cases h
      obtain rfl := beq_iff_eq.mp hf
      have hn : (((fs.map Str.ofString).zip vs).reverse).lookup (Str.ofString f) = none := by
        cases e : (((fs.map Str.ofString).zip vs).reverse).lookup (Str.ofString f) with
        | none => rfl
        | some z => exact absurd (List.of_mem_zip (List.mem_reverse.mp (PySem.mem_of_lookup e))).1 nd.1
      rw [hn]
      exact ⟨v, by simp [List.lookup], hd⟩
    | false =>
      rw [hf] at h
      obtain ⟨z, hz, rz⟩ := look_rev hr nd.2 h
      rw [hz]
      exact ⟨z, rfl, rz⟩
theorem ss_rse {c : Nat} {fs : List String} {n : Str} {p pos pos' : Pos} {e : Expr} {es : List Expr} {g : Nv → Sto → Res (List D)} (hc : X.calm = true) (tk : Takes X W) (hr : Room 2 X.A) (O : ClsOk cA X.prog X.w X.K X.mg X.base n c fs) (hg : Gl X n) (hd : (n == ("__debug__" : Str)) = false) (hpl : (e :: es).all plain = true)
    (ha : PA X (e :: es) (tA cA X.K W g)) : PS X (.Raise (some (.Call (.Name n p) (e :: es) [] pos')) none pos) (tC cA X.K W fun ρ S => (g ρ S).out ρ fun ds S => if ds.length = fs.length then .exc ⟨c, fs.zip ds⟩ ρ S else .stuck) := by
  obtain ⟨slf, fI, fd, i1, i2, i3, i4⟩ := O.ini
  have hpl' := hpl
  simp only [List.all_cons, Bool.and_eq_true] at hpl'
  have pm := pmk_oex (X := X) (CX := L2.CX X.prog X.w) (x := n) (C := cA c) (ds := []) (dvs := []) O.oex i1 i2 i3 hr i4 .nil (fun _ _ _ _ _ _ _ z => by obtain ⟨_, _, _, _, _, _, _, _, _, _, _, _, z⟩ := z; exact z.elim) hg O.mg ha hd (p := p) (pos := pos') (star_cons hpl'.1) (star_any hpl'.2)
  refine (ps_raise hc tk pm).imp fun T σ H ⟨m, ρ, S, rn, rs, h⟩ => ?_
  refine ⟨m, ρ, S, rn, rs, (PostC.outA rn h).imp fun vs H1 ⟨m1, ds, S1, _, e1, rs1, rd1, h1⟩ => ?_⟩
  split at h1
  · rename_i hl
    have hvl : vs.length = fs.length := by rw [← rd1.length, hl]
    refine ⟨by have := O.few; omega, fun a hna => ?_⟩
    refine ⟨a, vs, by rw [List.append_nil], by simpa using hvl, upd_same, fun d hdn da => ?_⟩
    have hd1 : H1 d = none := by rw [upd_ne da] at hdn; exact hdn
    refine ⟨rfl, d, _, upd_same, by rw [upd_ne da]; exact upd_same, hd1, ?_⟩
    have eH : upd (del (upd (upd (upd H1 a (exo a (cA c) none)) d (exd d (((fs.map Str.ofString).zip vs).reverse))) a (exo a (cA c) (some d))) a) d (.xd (((fs.map Str.ofString).zip vs).reverse)) = upd H1 d (.xd (((fs.map Str.ofString).zip vs).reverse)) := by
      funext b
      by_cases hb : b = d
      · rw [hb, upd_same, upd_same]
      · rw [upd_ne hb, upd_ne hb]
        by_cases hba : b = a
        · rw [hba, del_same, hna]
        · rw [del_ne hba, upd_ne hba, upd_ne hb, upd_ne hba]
    rw [eH]
    have ex : Ext X.K H1 m1 (upd H1 d (.xd (((fs.map Str.ofString).zip vs).reverse))) m1 := Ext.more hd1
    exact h1 m1 _ σ _ _ ex ((rn.ext e1).ext ex) (rs1.more hd1) ⟨rfl, d, _, rfl, upd_same, fun f y hy => by
      obtain ⟨v, hv, rv⟩ := look_rev rd1 O.nd hy
      exact ⟨v, hv, rv.ext ex⟩⟩
  · exact h1.elim
end
end PH

set_option maxHeartbeats 8000000
/-! PH, part Y: in an except suite; try. -/
namespace PH
open L2 PySem PySem.Spec PyProof.Rows NdefX
/-- what must be known of a class that is caught: its own facts, its place among the others -/
structure CatOk (cA : Ca) (K : Fg) (fl : List String) (ids : List Nat) (c : Nat) : Prop where
  xf : XfC K (cA c)
  no : ∀ f ∈ fl, PySem.W.findIn K (.ref (cA c)) (Str.ofString f) = some none
  ex : ExcC K (cA c)
  cl : (PySem.W.clsIn K (cA c)).isSome = true
  ke : ∀ c' ∈ ids, PySem.W.exmOne K (.ref (cA c)) (.ref (cA c')) = some (subX c c')
  ki : ∀ c' ∈ ids, PySem.W.kitOne K (.ref (cA c)) (.ref (cA c')) = some (subX c c')
  kv : PySem.W.kitOne K (.ref (cA c)) (.type "ValueError") = some true
/-- within the suite of an exception at a, of the class c, its dict at d -/
structure Hot (cA : Ca) (X : Cx) (a d c : Nat) : Prop where
  ex : ∃ (X0 : Cx) (oe : Obj) (pn : List (Addr × Obj)), X = X0.suite a ((a, oe) :: pn) ∧ Zc (.ref (cA c)) (some d) oe ∧ ∃ vs, oe.data = .fields vs
section
variable {cA : Ca} {X : Cx} {σ : L2.St} {H : Hp} {m : List Addr} {S : Sto} {ρ : Nv} {W : WX} {T : Ends} {a d c i : Nat} {fl : List String} {ids : List Nat} {pos p : Pos}
theorem mo_at (M : Mo) (a d c : Nat) : (M.at a d c).glob XC = some (.tup [.int a, .int d, .int c]) := by unfold Mo.at; simp
theorem se_fld {M : Mo} {nm : Str} {f : String} (h : Hot cA X a d c) (C : CatOk cA X.K fl ids c) (hf : f ∈ fl) (hN : X.N[i]? = some nm) (hv : Vis X.env.scope nm) (h1 : (nm == ("__debug__" : Str)) = false) (h2 : (nm == ("__classdict__" : Str)) = false) (hM : M.glob XC = some (.tup [.int a, .int d, .int c])) :
    PE X (.Attribute (.Name nm p) (Str.ofString f) pos) (tR cA X.K W (evE M (.fld i f))) := by
  obtain ⟨X0, oe, pn, rfl, hz, hd⟩ := h.ex
  refine (pe_xf (X := X0) (pn := pn) C.xf (C.no f hf) hz hd (pe_var (i := i) hN hv h1 h2)).imp fun σ H Q ⟨m, ρ, S, rn, rs, hp⟩ => ?_
  rw [evE] at hp
  cases q : ρ[i]? with
  | none => rw [q] at hp; exact hp.elim
  | some o =>
    cases o with
    | none => rw [q] at hp; exact hp.elim
    | some y =>
      rw [q] at hp
      cases y with
      | xv a' d' c' fs =>
        rw [hM] at hp
        simp only at hp
        split at hp
        · rename_i he
          obtain ⟨e1, e2, e3⟩ := he
          have e1 : a = a' := by omega
          have e2 : d = d' := by omega
          have e3 : c = c' := by omega
          subst e1 e2 e3
          obtain ⟨v, ev, rv⟩ := rn.nv i _ q
          cases rv with
          | xv hH hr =>
            cases hl : fs.lookup f with
            | none => rw [hl] at hp; exact hp.elim
            | some y =>
              rw [hl] at hp
              obtain ⟨z, hz2, rz⟩ := hr f y hl
              exact ⟨_, ev, rfl, rfl, d, _, z, rfl, hH, hz2, hp m H z .refl rs (.p rz)⟩
        · exact hp.elim
      | p _ => exact hp.elim
      | ref _ => exact hp.elim
      | mt _ => exact hp.elim
/-- isinstance(e, c) of the exception at hand -/
def rIsX (K : Fg) (D a d : Addr) : List V → Hp → VK → Prop := fun xs H Q => ∃ (vs : List (Str × V)) (c : V) (cv : Value) (b : Bool), H d = some (.xd vs) ∧ xs = [.ref a, c] ∧ (∀ u, RelV c u → u = cv) ∧ PySem.W.kitOne K (.ref D) cv = some b ∧ Q (.bl b) H
theorem inst_at {X0 : Cx} {oe : Obj} {pn pins : List (Addr × Obj)} {D : Addr} {s : Shared} {vs : List (Str × V)} (I : Inv (X0.suite a ((a, oe) :: pn)) pins σ H s) (hz : Zc (.ref D) (some d) oe) (hf : ∃ vs, oe.data = .fields vs) (hH : H d = some (.xd vs)) : ∃ od, PySem.W.InstAt s.heap a oe D (some od) := by
  obtain ⟨hget, _⟩ := I.pin (a, oe) (List.mem_append.mpr (.inl List.mem_cons_self))
  have hx : ObjOk X0.prog X0.w H s.heap d (.xd vs) := I.hok d _ hH
  obtain ⟨mA, hns, _⟩ := hx
  obtain ⟨od, ho, _⟩ := lookIn_ns hns
  obtain ⟨us, hv⟩ := hf
  exact ⟨od, hget, hz.1, by unfold PySem.W.notCls; rw [hv], by rw [hz.2]; exact ho⟩
theorem call_isX {X0 : Cx} {oe : Obj} {pn : List (Addr × Obj)} {D : Addr} (C : ExcC X0.K D) (hcl : (PySem.W.clsIn X0.K D).isSome = true) (hz : Zc (.ref D) (some d) oe) (hf : ∃ vs, oe.data = .fields vs) : CallR (X0.suite a ((a, oe) :: pn)) (.builtin "isinstance") (rIsX X0.K D a d) := by
  intro pins s σ H xs us Q I r h
  obtain ⟨vs, k, cv, b, hH, rfl, hcv, e, q⟩ := h
  cases r with
  | cons rx rr =>
    cases rr with
    | cons rt rr =>
      cases rr
      cases rx
      have ec := hcv _ rt
      subst ec
      obtain ⟨od, J⟩ := inst_at I hz hf hH
      exact PySem.W.kia_one (PySem.W.kitx_exc hcl C.hg C.hk C.hs C.ha C.hn C.ht C.hm) I.kIn J e (fun z => nomatch z) fun tk => ⟨.bl b, H, I.kept (t' := tk) fun _ _ z => z, rfl, q⟩
/-- .. of a tuple of classes -/
def rIsXT (K : Fg) (D a d : Addr) : List V → Hp → VK → Prop := fun xs H Q => ∃ (vs : List (Str × V)) (t : Addr) (cs : List V) (cvs : List Value) (b : Bool), H d = some (.xd vs) ∧ xs = [.ref a, .ref t] ∧ SqT K H t cs ∧ (∀ us, Vals cs us → us = cvs) ∧ PySem.W.kitAny K (.ref D) cvs = some b ∧ Q (.bl b) H
theorem call_isXT {X0 : Cx} {oe : Obj} {pn : List (Addr × Obj)} {D : Addr} (C : ExcC X0.K D) (hcl : (PySem.W.clsIn X0.K D).isSome = true) (hz : Zc (.ref D) (some d) oe) (hf : ∃ vs, oe.data = .fields vs) : CallR (X0.suite a ((a, oe) :: pn)) (.builtin "isinstance") (rIsXT X0.K D a d) := by
  intro pins s σ H xs us Q I r h
  obtain ⟨vs, t, cs, cvs, b, hH, rfl, hq, hcv, e, q⟩ := h
  cases r with
  | cons rx rr =>
    cases rr with
    | cons rt rr =>
      cases rr
      cases rx
      cases rt
      obtain ⟨its, ri, ⟨o, ho, hc, n, hd⟩, _⟩ := I.tuple hq
      have ec := hcv _ ri
      subst ec
      obtain ⟨od, J⟩ := inst_at I hz hf hH
      obtain ⟨oc, odd, oda, osl⟩ := o
      dsimp only at hc hd
      subst hc hd
      exact PySem.W.kia_tup (PySem.W.kitx_exc hcl C.hg C.hk C.hs C.ha C.hn C.ht C.hm) I.kIn J ho e (fun z => nomatch z) fun tk => ⟨.bl b, H, I.kept (t' := tk) fun _ _ z => z, rfl, q⟩

/-- a class's name in the text: the class's number; 1001 is ValueError -/
def NameOk (cA : Ca) (X : Cx) (n : Str) (c : Nat) : Prop := Gl X n ∧ (n == ("__debug__" : Str)) = false ∧ ((c ≠ 1001 ∧ X.mg n = some (.ref (cA c))) ∨ (c = 1001 ∧ n = ("ValueError" : Str) ∧ X.mg n = none))
def clsV (cA : Ca) (c : Nat) : V := if c = 1001 then .ty "ValueError" else .ref (cA c)
def clsU (cA : Ca) (c : Nat) : Value := if c = 1001 then .type "ValueError" else .ref (cA c)
theorem cls_rel {cA : Ca} {c : Nat} {u : Value} (h : RelV (clsV cA c) u) : u = clsU cA c := by
  unfold clsV at h
  unfold clsU
  split at h <;> rename_i hc
  · rw [if_pos hc]; exact h
  · rw [if_neg hc]; exact h
theorem cls_vals {cA : Ca} : ∀ {cs : List Nat} {us : List Value}, Vals (cs.map (clsV cA)) us → us = cs.map (clsU cA)
  | [], _, .nil => rfl
  | c :: cs, _, .cons h r => by rw [List.map_cons, cls_rel h, cls_vals r]
theorem pe_cls {n : Str} {c : Nat} (h : NameOk cA X n c) : PE X (.Name n p) (L2.tC (clsV cA c)) := by
  obtain ⟨h1, h2, h3⟩ := h
  unfold clsV
  rcases h3 with ⟨hc, hm⟩ | ⟨hc, hn, hm⟩
  · rw [if_neg hc]; exact pe_glob h1 hm rfl h2
  · subst hn
    rw [if_pos hc]
    exact pe_bltn h1 hm (by decide +kernel) rfl (by decide +kernel) h2
theorem pa_cls : ∀ (l : List (Nat × Str × Pos)), (∀ q ∈ l, NameOk cA X q.2.1 q.1) → PA X (l.map fun q => Expr.Name q.2.1 q.2.2) (fun σ H Q => Q (l.map fun q => clsV cA q.1) H)
  | [], _ => pa_nil
  | q :: l, h => by
    have h1 := pe_cls (p := q.2.2) (h q List.mem_cons_self)
    have h2 := pa_cls l fun z hz => h z (List.mem_cons_of_mem _ hz)
    exact pa_cons h1 h2
theorem kit_cs {K : Fg} {t : Value} {f : Nat → Bool} : ∀ {cs : List Nat}, (∀ c ∈ cs, PySem.W.kitOne K t (clsU cA c) = some (f c)) → PySem.W.kitAny K t (cs.map (clsU cA)) = some (cs.any f)
  | [], _ => rfl
  | c :: cs, h => by
    have h1 := h c List.mem_cons_self
    have h2 := kit_cs (cs := cs) fun z hz => h z (List.mem_cons_of_mem _ hz)
    rw [List.map_cons, List.any_cons]
    unfold PySem.W.kitAny
    rw [h1]
    cases f c with
    | true => rfl
    | false => exact h2
theorem CatOk.kit {K : Fg} (C : CatOk cA K fl ids c) {c' : Nat} (h : c' ∈ ids ∨ c' = 1001) : PySem.W.kitOne K (.ref (cA c)) (clsU cA c') = some (subX c c') := by
  unfold clsU
  split
  · rename_i hc
    subst hc
    rw [C.kv]
    simp [subX]
  · rename_i hc
    rcases h with h | h
    · exact C.ki _ h
    · exact absurd h hc
/-- what the caught exception's slot tells -/
theorem isx_val {M : Mo} {cs : List Nat} {Q : VK} {K : Fg} (hM : M.glob XC = some (.tup [.int a, .int d, .int c])) (rn : RelN K H m ρ σ) (rs : RelS K H m S) (hp : Post cA K m H σ W (evE M (.isx i cs) ρ S) Q) :
    σ[i]? = some (some (.ref a)) ∧ (∃ vs, H d = some (.xd vs)) ∧ ∀ m' H', Ext K H m H' m' → RelS K H' m' S → Q (.bl (cs.any (subX c))) H' := by
  rw [evE] at hp
  cases q : ρ[i]? with
  | none => rw [q] at hp; exact hp.elim
  | some o =>
    cases o with
    | none => rw [q] at hp; exact hp.elim
    | some y =>
      rw [q] at hp
      cases y with
      | xv a' d' c' fs =>
        rw [hM] at hp
        simp only at hp
        split at hp
        · rename_i he
          obtain ⟨e1, e2, e3⟩ := he
          have e1 : a = a' := by omega
          have e2 : d = d' := by omega
          have e3 : c = c' := by omega
          subst e1 e2 e3
          obtain ⟨v, ev, rv⟩ := rn.nv i _ q
          cases rv with
          | xv hH hr => exact ⟨ev, ⟨_, hH⟩, fun m' H' e rs' => hp m' H' _ e rs' (.p (.bl _))⟩
        · exact hp.elim
      | p _ => exact hp.elim
      | ref _ => exact hp.elim
      | mt _ => exact hp.elim
theorem se_isx1 {M : Mo} {nm cn : Str} {c' : Nat} {p1 p2 p3 : Pos} (h : Hot cA X a d c) (C : CatOk cA X.K fl ids c) (hi : c' ∈ ids ∨ c' = 1001) (hn : NameOk cA X cn c') (hg : Gl X "isinstance") (hm : X.mg "isinstance" = none) (hN : X.N[i]? = some nm) (hv : Vis X.env.scope nm)
    (h1 : (nm == ("__debug__" : Str)) = false) (h2 : (nm == ("__classdict__" : Str)) = false) (hM : M.glob XC = some (.tup [.int a, .int d, .int c])) :
    PE X (.Call (.Name "isinstance" p1) [.Name nm p2, .Name cn p3] [] pos) (tR cA X.K W (evE M (.isx i [c']))) := by
  obtain ⟨X0, oe, pn, rfl, hz, hd⟩ := h.ex
  refine (pe_callB (call_isX (pn := pn) C.ex C.cl hz hd) hg hm (by decide +kernel) (pa_cons (pe_var (i := i) hN hv h1 h2) (pa_cons (pe_cls hn) pa_nil))).imp fun σ H Q ⟨m, ρ, S, rn, rs, hp⟩ => ?_
  obtain ⟨e1, ⟨vs, e2⟩, e3⟩ := isx_val hM rn rs hp
  refine ⟨_, e1, vs, clsV cA c', clsU cA c', subX c c', e2, rfl, fun u hu => cls_rel hu, C.kit hi, ?_⟩
  have := e3 m H .refl rs
  simpa using this
theorem se_isxT {M : Mo} {nm : Str} {l : List (Nat × Str × Pos)} {p1 p2 p3 : Pos} {kt} (h : Hot cA X a d c) (C : CatOk cA X.K fl ids c) (hi : ∀ q ∈ l, q.1 ∈ ids ∨ q.1 = 1001) (hn : ∀ q ∈ l, NameOk cA X q.2.1 q.1) (hl : l.length ≤ 1000) (hg : Gl X "isinstance") (hm : X.mg "isinstance" = none) (hN : X.N[i]? = some nm) (hv : Vis X.env.scope nm)
    (h1 : (nm == ("__debug__" : Str)) = false) (h2 : (nm == ("__classdict__" : Str)) = false) (hM : M.glob XC = some (.tup [.int a, .int d, .int c])) :
    PE X (.Call (.Name "isinstance" p1) [.Name nm p2, .Tuple (l.map fun q => Expr.Name q.2.1 q.2.2) kt p3] [] pos) (tR cA X.K W (evE M (.isx i (l.map (·.1))))) := by
  obtain ⟨X0, oe, pn, rfl, hz, hd⟩ := h.ex
  refine (pe_callB (call_isXT (pn := pn) C.ex C.cl hz hd) hg hm (by decide +kernel) (pa_cons (pe_var (i := i) hN hv h1 h2) (pa_cons (pe_tup (pa_cls l hn)) pa_nil))).imp fun σ H Q ⟨m, ρ, S, rn, rs, hp⟩ => ?_
  obtain ⟨e1, ⟨vs, e2⟩, e3⟩ := isx_val hM rn rs hp
  refine ⟨_, e1, by rw [List.length_map, sizeLine_eq]; omega, fun t ht => ?_⟩
  have hmap : (l.map fun q => clsV cA q.1) = (l.map (·.1)).map (clsV cA) := by rw [List.map_map]; rfl
  refine ⟨vs, t, _, (l.map (·.1)).map (clsU cA), (l.map (·.1)).any (subX c), ?_, rfl, SqT.of upd_same, fun us hu => by rw [hmap] at hu; exact cls_vals hu, kit_cs fun c' hc' => ?_, e3 m _ (Ext.more ht) (rs.more ht)⟩
  · rw [upd_ne]
    · exact e2
    · rintro rfl; rw [ht] at e2; cases e2
  · obtain ⟨q, hq, rfl⟩ := List.mem_map.mp hc'
    exact C.kit (hi q hq)

theorem any_at {F : Nat → Nat → Out} (h : anyAt F ≠ .stuck) (a d : Nat) : F a d = anyAt F := by
  unfold anyAt at h ⊢
  split
  · rename_i hx; exact hx.choose_spec a d
  · rename_i hx; rw [dif_neg hx] at h; exact absurd rfl h
theorem post_ne {K : Fg} {r : Out} (h : PostC cA K m H W r T) : r ≠ .stuck := by
  rintro rfl
  exact h
theorem rel_gone {K : Fg} {σ' : L2.St} (h : RelN K H m ρ σ') (i : Nat) : RelN K H m (ρ.set i none) (σ'.set i none) := by
  refine ⟨by simp [h.len], fun j d e => ?_⟩
  by_cases hj : i = j
  · subst hj
    by_cases hl : i < ρ.length
    · rw [List.getElem?_set_self hl] at e; cases e
    · rw [List.getElem?_eq_none (by simpa using hl)] at e; cases e
  · rw [List.getElem?_set_ne hj] at e
    obtain ⟨v, e1, r⟩ := h.nv j d e
    exact ⟨v, by rw [List.getElem?_set_ne hj]; exact e1, r⟩
theorem gone_post {K : Fg} {r : Out} {i : Nat} (h : PostC cA K m H W (r.gone i) T) : PostC cA K m H W0 r { nx := fun σ' H' => T.nx (σ'.set i none) H', rt := T.rt, bk := fun σ' H' => T.bk (σ'.set i none) H', ct := fun σ' H' => T.ct (σ'.set i none) H' } := by
  cases r with
  | nx ρ S => exact fun m' H' σ' e rn rs => h m' H' _ e (rel_gone rn i) rs
  | bk ρ S => exact fun m' H' σ' e rn rs => h m' H' _ e (rel_gone rn i) rs
  | ct ρ S => exact fun m' H' σ' e rn rs => h m' H' _ e (rel_gone rn i) rs
  | rt d S => exact h
  | exc x ρ S => exact h.elim
  | stuck => exact h.elim
theorem nox_post {K : Fg} {r : Out} (h : PostC cA K m H W r.noX T) : PostC cA K m H W0 r T := by
  cases r with
  | nx ρ S => exact h
  | bk ρ S => exact h
  | ct ρ S => exact h
  | rt d S => exact h
  | exc x ρ S => exact h.elim
  | stuck => exact h.elim
theorem all_xs : ∀ {l : List (String × D)} {fs : List (String × PD)}, allX l = some fs → ∀ {f : String} {y : PD}, fs.lookup f = some y → l.lookup f = some (.p y)
  | [], _, h, _, _, e => by cases h; cases e
  | (g, .p x) :: r, _, h, f, y, e => by
    simp only [allX] at h
    obtain ⟨fs, h1, rfl⟩ := Option.map_eq_some_iff.mp h
    rw [List.lookup_cons] at e ⊢
    cases hf : f == g with
    | true => rw [hf] at e; cases e; rfl
    | false => rw [hf] at e; exact all_xs h1 e
  | (_, .ref _) :: _, _, h, _, _, _ => by cases h
  | (_, .mt _) :: _, _, h, _, _, _ => by cases h
  | (_, .xv _ _ _ _) :: _, _, h, _, _, _ => by cases h
variable {x nm : Str} {c' : Nat} {kn : List Nat} {body suite : List Stmt} {b0 : Stmt} {np pos' : Pos} {F : Nv → Sto → Out} {G : Nat → Nat → Nat → Nv → Sto → Out}
theorem ss_trx (hs : X.stack = X.env :: X.outer) (hf : X.env.frame = some X.env.locals) (hN : X.N.Nodup) (hi : X.N[i]? = some nm) (hln : X.env.kindOf nm = some .local) (hx : Names X x (.ref (cA c'))) (tk : Takes X W) (hc : ∀ c ∈ kn, CatOk cA X.K fl ids c) (hid : c' ∈ ids)
    (hb : ∀ (W' : WX) (pn : List (Addr × Obj)) (xe : Value → Shared → Prop), Takes (X.tr pn xe) W' → PassesOwn (model X.prog X.w) X.A X.env xe → PSs (X.tr pn xe) body (tC cA X.K W' F))
    (hsu : ∀ (a d c : Nat) (oe : Obj) (pn : List (Addr × Obj)), c ∈ kn → Zc (.ref (cA c)) (some d) oe → (∃ vs, oe.data = .fields vs) → PSs (X.suite a ((a, oe) :: pn)) (b0 :: suite) (tC cA X.K W0 (G a d c))) :
    PS X (.Try body [.ExceptHandler (some (.Name x np)) (some nm) (b0 :: suite) pos'] [] [] pos) (tC cA X.K W (trxF kn c' i F G)) := by
  refine (ps_try_as (X := X) (tb := fun W' => tC cA X.K W' F) (ts := fun a cls dx T σ H => ∃ c d, cls = .ref (cA c) ∧ dx = some d ∧ c ∈ kn ∧ tC cA X.K W0 (G a d c) T σ H) hs hf hN hi hln hx tk hb fun a oe cls dx pn hz hv => ⟨fun pins s σ H T I ⟨c, d, e1, e2, e3, e4⟩ => ?_⟩).imp fun T σ H ⟨m, ρ, S, rn, rs, h⟩ => ⟨m, ρ, S, rn, rs, ?_⟩
  · subst e1 e2
    exact (hsu a d c oe pn e3 hz hv).run pins s σ H T I e4
  · unfold trxF at h
    cases q : F ρ S with
    | nx ρ1 S1 => rw [q] at h; exact h
    | bk ρ1 S1 => rw [q] at h; exact h
    | ct ρ1 S1 => rw [q] at h; exact h
    | rt d1 S1 => rw [q] at h; exact h
    | stuck => rw [q] at h; exact h
    | exc z ρ1 S1 =>
      rw [q] at h
      simp only at h
      split at h
      · rename_i hk
        intro m' H' σ' cl dx e rn' rs' ⟨h1, d, fs', h2, h3, h4⟩
        subst h1 h2
        have C := hc _ hk
        refine ⟨subX z.c c', C.ke _ hid, fun hb1 a hna => ?_, fun hb1 => ?_⟩
        · rw [if_pos hb1] at h
          refine ⟨z.c, d, rfl, rfl, hk, ?_⟩
          cases qa : allX z.fs with
          | none => rw [qa] at h; exact h.elim
          | some fs =>
            rw [qa] at h
            have hany := any_at (post_ne h) a d
            have h := PostC.mono e h
            simp only at h
            rw [← hany] at h
            have hp := gone_post h
            exact ⟨m', _, S1, rn'.set (d := .xv a d z.c fs) (v := .ref a) (.xv h3 fun f y hy => by
              obtain ⟨v, v1, v2⟩ := h4 f _ (all_xs qa hy)
              cases v2 with | p v2 => exact ⟨v, v1, v2⟩) i, rs', hp⟩
        · rw [if_neg (by rw [hb1]; decide)] at h
          exact h m' H' σ' _ _ e rn' rs' ⟨rfl, d, fs', rfl, h3, h4⟩
      · exact h.elim
theorem ss_try0 (hs : X.stack = X.env :: X.outer) (hf : X.env.frame = some X.env.locals) (hx : Names X x (.ref (cA c'))) (tk : Takes X W) (hc : ∀ c ∈ kn, CatOk cA X.K fl ids c) (hid : c' ∈ ids)
    (hb : ∀ (W' : WX) (pn : List (Addr × Obj)) (xe : Value → Shared → Prop), Takes (X.tr pn xe) W' → PassesOwn (model X.prog X.w) X.A X.env xe → PSs (X.tr pn xe) body (tC cA X.K W' F))
    (hsu : ∀ (a d c : Nat) (oe : Obj) (pn : List (Addr × Obj)), c ∈ kn → Zc (.ref (cA c)) (some d) oe → (∃ vs, oe.data = .fields vs) → PSs (X.suite a ((a, oe) :: pn)) (b0 :: suite) (tC cA X.K W0 (G a d c))) :
    PS X (.Try body [.ExceptHandler (some (.Name x np)) none (b0 :: suite) pos'] [] [] pos) (tC cA X.K W (try0F kn c' F G)) := by
  refine (ps_try_only (X := X) (tb := fun W' => tC cA X.K W' F) (ts := fun a cls dx T σ H => ∃ c d, cls = .ref (cA c) ∧ dx = some d ∧ c ∈ kn ∧ tC cA X.K W0 (G a d c) T σ H) hs hf hx tk hb fun a oe cls dx pn hz hv => ⟨fun pins s σ H T I ⟨c, d, e1, e2, e3, e4⟩ => ?_⟩).imp fun T σ H ⟨m, ρ, S, rn, rs, h⟩ => ⟨m, ρ, S, rn, rs, ?_⟩
  · subst e1 e2
    exact (hsu a d c oe pn e3 hz hv).run pins s σ H T I e4
  · unfold try0F at h
    cases q : F ρ S with
    | nx ρ1 S1 => rw [q] at h; exact h
    | bk ρ1 S1 => rw [q] at h; exact h
    | ct ρ1 S1 => rw [q] at h; exact h
    | rt d1 S1 => rw [q] at h; exact h
    | stuck => rw [q] at h; exact h
    | exc z ρ1 S1 =>
      rw [q] at h
      simp only at h
      split at h
      · rename_i hk
        intro m' H' σ' cl dx e rn' rs' ⟨h1, d, fs', h2, h3, h4⟩
        subst h1 h2
        have C := hc _ hk
        refine ⟨subX z.c c', C.ke _ hid, fun hb1 a hna => ?_, fun hb1 => ?_⟩
        · rw [if_pos hb1] at h
          refine ⟨z.c, d, rfl, rfl, hk, ?_⟩
          have hany := any_at (post_ne h) a d
          have h := PostC.mono e h
          rw [← hany] at h
          exact ⟨m', _, S1, rn', rs', nox_post h⟩
        · rw [if_neg (by rw [hb1]; decide)] at h
          exact h m' H' σ' _ _ e rn' rs' ⟨rfl, d, fs', rfl, h3, h4⟩
      · exact h.elim
end
section
variable {cA : Ca} {X : Cx} {W : WX} {a : Expr} {f : Nv → Sto → Res D} {pos : Pos}
def unlF (ts : List Tg) (f : Nv → Sto → Res D) : Nv → Sto → Out := fun ρ S => (f ρ S).out ρ fun d S => match lsts d S with
  | some xs => (match asgTs ts xs ρ with
    | some ρ' => .nx ρ' S
    | none => .stuck)
  | none => .stuck
theorem asgTs_len : ∀ (ts : List Tg) (ds : List D) (ρ ρ' : Nv), asgTs ts ds ρ = some ρ' → ts.length = ds.length
  | [], ds, ρ, ρ', e => by cases ds <;> simp_all [asgTs]
  | t :: ts, ds, ρ, ρ', e => by
    cases ds with
    | nil => simp [asgTs] at e
    | cons d ds =>
      simp only [asgTs] at e
      obtain ⟨ρ1, _, e2⟩ := Option.bind_eq_some_iff.mp e
      simp [asgTs_len ts ds ρ1 ρ' e2]
/-- names out of a list -/
theorem ss_unl {es : List Expr} {kk : Nat} {q : Pos} {ts : List Tg} (hc : X.calm = true) (he : PE X a (tR cA X.K W f)) (h : PGs X es (tGs X.K ts)) (hp : es.all plain = true) (hl : es.length = ts.length) (hs : swapsWithSole [.Tuple es kk q] a pos.line X.env = pure false) (hw : swappedStores [.Tuple es kk q] a X.env = pure none) :
    PS X (.Assign [.Tuple es kk q] a pos) (tC cA X.K W (unlF ts f)) :=
  (ps_asg he (pg_unl hc h (assign_len hp).1 (assign_len hp).2) hs hw (by rw [assign_cons rfl]; rfl)).imp fun T σ H ⟨m, ρ, S, rn, rs, h⟩ => ⟨m, ρ, S, rn, rs, (PostC.out rn h).imp fun v H1 ⟨m1, d, S1, _, e1, rs1, rd1, h1⟩ => by
    cases hx : lsts d S1 with
    | none => rw [hx] at h1; exact h1.elim
    | some xs =>
      rw [hx] at h1
      cases d with
      | ref n =>
        obtain ⟨b, vs, eb, hq, r⟩ := rs1.lst hx
        cases rd1 with
        | ref ha =>
          rw [ha] at eb; cases eb
          cases qa : asgTs ts xs ρ with
          | none => simp only [qa] at h1; exact h1.elim
          | some ρ' =>
            simp only [qa] at h1
            refine ⟨_, vs, rfl, hq, by rw [hl, asgTs_len _ _ _ _ qa, r.length], m1, ρ, S1, xs, rn.ext e1, rs1, r, ?_⟩
            simp only [qa]
            exact fun σ' rn' ag => h1 m1 H1 σ' .refl rn' rs1
      | p _ => cases hx
      | mt _ => cases hx
      | xv _ _ _ _ => cases hx⟩
end
end PH

set_option maxHeartbeats 4000000
/-! PH, part W: instances of the text's own classes: fields, methods, the making. -/
namespace PH
open L2 PySem PySem.Spec PyProof.Rows
theorem meth_any {o : Expr} {m : Str} {apos pos : Pos} {args : List Expr} {env : Env} (hbase : attributeBase o m env (eval o env) = eval o env) (hline : (apos.endLine == pos.line) = true)
    (hfew : methodCallForm (args.length + 0) (backTo pos (starEach args env)) (backToKw pos (keywordEach [] env)) = true) :
    eval (.Call (.Attribute o m apos) args [] pos) env = (do
      let ov ← eval o env
      standAt apos.atName
      let (f, first) ← holding [ov] (getMethod ov m (plO o env))
      callWith pos f first (backTo pos (starEach args env)) (backToKw pos (keywordEach [] env))) := by
  show (do
      let ov ← attributeBase o m env (eval o env)
      standAt apos.atName
      methodCall o m apos pos env ov (args.length + 0) (backTo pos (starEach args env)) (backToKw pos (keywordEach [] env))) = _
  rw [hbase]
  refine congrArg _ (funext fun ov => congrArg _ (funext fun _ => ?_))
  exact one_line hfew hline
section
variable {X : Cx} {CX : CXT} {k : Nat} {f C : Addr} {fd : FuncData} {ps : List Str} {sp : Sp} {E : L2.St → XK} {x m : Str} {p pos apos : Pos} {e o : Expr} {es : List Expr} {ta : TE} {t : TA}
def tMethS (C : Addr) (m : Str) (sp : Sp) (E : L2.St → XK) (ta : TE) (t : TA) : TE := fun σ H Q => ta σ H fun x H1 => ∃ a dx fs, x = .ref a ∧ H1 a = some (.ins C dx fs) ∧ fs.lookup m = none ∧ t σ H1 fun vs H2 => sp (x :: vs) H2 Q (E σ)
def tMakeS (C : Addr) (sp : Sp) (E : L2.St → XK) (t : TA) : TE := fun σ H Q => t σ H fun vs H1 => ∀ x dx, H1 x = none → H1 dx = none → dx ≠ x →
  sp (.ref x :: vs) (upd (upd H1 dx (.own x)) x (.ins C dx [])) (fun v H2 => v = .non ∧ Q (.ref x) H2) (E σ)
theorem pe_methS {pl : Sem Bool} (he : PE X o ta) (c : Cls X.K C) (hm : Meth X.K C m f) (F : FnOk X.prog X.w X.K X.mg X.base CX k f fd ps sp) (hr : Room k X.A) (hb : Binds X.K fd ps []) (hx : ∀ σ, PassesAt CX X σ (E σ)) (ha : PA X (e :: es) t)
    (hst : starEach (e :: es) X.env = (false, eval e X.env) :: starEach es X.env) (hpl : (backTo pos (starEach es X.env)).any (·.1) = false)
    (ht : eval (.Call (.Attribute o m apos) (e :: es) [] pos) X.env = (do
      let ov ← eval o X.env
      standAt apos.atName
      let (f, first) ← holding [ov] (getMethod ov m pl)
      callWith pos f first (backTo pos (starEach (e :: es) X.env)) (backToKw pos (keywordEach [] X.env)))) :
    PE X (.Call (.Attribute o m apos) (e :: es) [] pos) (tMethS C m sp E ta t) := by
  refine ⟨fun pins s σ H Q I h => ?_⟩
  refine PySem.W.methodCall_KW (pl := pl) (thn (he.run pins s σ H _ I h) fun u s1 ⟨x, H1, I1, rx, a, dx, fs, ex, ea, l, q⟩ => ?_) ht
  subst ex
  obtain rfl : u = Value.ref a := rx
  refine getmeth_ok I1 ea c hm l ?_
  refine PySem.W.callWith_K (first := [.ref a]) (h₀ := X.base) I.ok.mod.kin hm.kp (thn (ha.run pos pins s1 σ H1 _ I1 q) fun us s2 ⟨vs, H2, I2, r, q2⟩ => ⟨I2.kIn, ?_⟩) hst hpl
  exact run_fnS (us := .ref a :: us) (vs := .ref a :: vs) F hr hb (hx σ) I2 (.cons rfl r) q2
theorem pe_methS0 {pl : Sem Bool} (he : PE X o ta) (c : Cls X.K C) (hm : Meth X.K C m f) (F : FnOk X.prog X.w X.K X.mg X.base CX k f fd ps sp) (hr : Room k X.A) (hb : Binds X.K fd ps []) (hx : ∀ σ, PassesAt CX X σ (E σ))
    (ht : eval (.Call (.Attribute o m apos) [] [] pos) X.env = (do
      let ov ← eval o X.env
      standAt apos.atName
      let (f, first) ← holding [ov] (getMethod ov m pl)
      callWith pos f first (backTo pos (starEach [] X.env)) (backToKw pos (keywordEach [] X.env)))) :
    PE X (.Call (.Attribute o m apos) [] [] pos) (tMethS C m sp E ta tNil) := by
  refine ⟨fun pins s σ H Q I h => ?_⟩
  refine PySem.W.methodCall_KW (pl := pl) (thn (he.run pins s σ H _ I h) fun u s1 ⟨x, H1, I1, rx, a, dx, fs, ex, ea, l, q⟩ => ?_) ht
  subst ex
  obtain rfl : u = Value.ref a := rx
  refine getmeth_ok I1 ea c hm l ?_
  exact PySem.W.callWith_K0 (first := [.ref a]) I1.kIn hm.kp (run_fnS (us := [.ref a]) (vs := [.ref a]) F hr hb (hx σ) I1 (.cons rfl .nil) q)
theorem run_makeS {pins : List (Addr × Obj)} {σ : L2.St} {H : Hp} {s : Shared} {Q : VK} {us : List Value} {vs : List V} (M : Mk X.K C f) (F : FnOk X.prog X.w X.K X.mg X.base CX k f fd ps sp) (hr : Room (k + 1) X.A) (hb : Binds X.K fd ps [])
    (hx : PassesAt CX X σ (E σ)) (I : Inv X pins σ H s) (r : Vals vs us)
    (h : ∀ x dx, H x = none → H dx = none → dx ≠ x → sp (.ref x :: vs) (upd (upd H dx (.own x)) x (.ins C dx [])) (fun v H2 => v = .non ∧ Q (.ref x) H2) (E σ)) :
    wpAny (model X.prog X.w) X.A (call (.ref C) us) (EP X pins σ Q) X.xe s := by
  have hq := h (s.heap.objs.size + 1) s.heap.objs.size (I.hok.fresh (Nat.le_succ _)) (I.hok.fresh (Nat.le_refl _)) (Nat.ne_of_lt (Nat.lt_succ_self _))
  have I2 := Inv.made (C := C) I
  have r2 : Vals (V.ref (s.heap.objs.size + 1) :: vs) (Value.ref (s.heap.objs.size + 1) :: us) := .cons rfl r
  have hl : (Value.ref (s.heap.objs.size + 1) :: us).length = ps.length := by
    have e := r2.length
    rw [F.len _ _ _ _ hq] at e
    exact e.symm
  have b := hb _ (Value.ref (s.heap.objs.size + 1) :: us) I2.kIn (by rw [List.append_nil]; exact hl)
  rw [List.append_nil] at b
  refine wpAny_call (make_map (f := f) I.kIn M.makes M.init (beq_iff_eq.mp M.fn) (codeAny_mono (F.run _ X.stack _ _ ⟨Value.ref (s.heap.objs.size + 1) :: us, []⟩ (Value.ref (s.heap.objs.size + 1) :: us) _ _ (E σ) (hr.make C us [])
    (I2.env0.make C us []) b r2 hq) fun r s' hq' => ?_))
  cases r with
  | error e => exact hx pins _ _ e s' I2 hq'
  | ok fl =>
    cases fl with
    | ret u =>
      obtain ⟨v, H', I3, rv, ev, q3⟩ := I2.after hq'
      subst ev
      exact ⟨rv, ⟨V.ref (s.heap.objs.size + 1), H', I3, rfl, q3⟩⟩
    | next => exact False.elim hq'
    | brk => exact False.elim hq'
    | cont => exact False.elim hq'
theorem pe_makeS (M : Mk X.K C f) (F : FnOk X.prog X.w X.K X.mg X.base CX k f fd ps sp) (hr : Room (k + 1) X.A) (hg : Gl X x) (hm : X.mg x = some (.ref C)) (hb : Binds X.K fd ps []) (hx : ∀ σ, PassesAt CX X σ (E σ))
    (ha : PA X (e :: es) t) (hdb : (x == ("__debug__" : Str)) = false) (he : starEach (e :: es) X.env = (false, eval e X.env) :: starEach es X.env) (hpl : (backTo pos (starEach es X.env)).any (·.1) = false) :
    PE X (.Call (.Name x p) (e :: es) [] pos) (tMakeS C sp E t) := by
  refine ⟨fun pins s σ H Q I h => ?_⟩
  refine wpAny_Call_Name_kw (ld_glob I hg hm ?_ hdb)
  refine PySem.W.callWith_K (h₀ := X.base) I.ok.mod.kin M.kp (thn (ha.run pos pins s σ H _ I h) fun us s1 ⟨vs, H1, I1, r, q⟩ => ⟨I1.kIn, ?_⟩) he hpl
  exact run_makeS M F hr hb (hx σ) I1 r q
theorem pe_makeS0 (M : Mk X.K C f) (F : FnOk X.prog X.w X.K X.mg X.base CX k f fd ps sp) (hr : Room (k + 1) X.A) (hg : Gl X x) (hm : X.mg x = some (.ref C)) (hb : Binds X.K fd ps []) (hx : ∀ σ, PassesAt CX X σ (E σ))
    (hdb : (x == ("__debug__" : Str)) = false) : PE X (.Call (.Name x p) [] [] pos) (tMakeS C sp E tNil) := by
  refine ⟨fun pins s σ H Q I h => ?_⟩
  refine wpAny_Call_Name_kw (ld_glob I hg hm ?_ hdb)
  exact PySem.W.callWith_K0 I.kIn M.kp (run_makeS (us := []) M F hr hb (hx σ) I .nil h)
end
/-- what of the text a class must have -/
structure OcOk (X : Cx) (c : String) (C : Addr) (fl : List String) : Prop where
  at_ : ClsAt X.K C c
  mg : X.mg (Str.ofString c) = some (.ref C)
  cl : Cls X.K C
  no : ∀ f ∈ fl, NoAttr X.K C (Str.ofString f)
section
variable {cA : Ca} {X : Cx} {σ : L2.St} {H : Hp} {m : List Addr} {S : Sto} {ρ : Nv} {W : WX} {Q : VK} {T : Ends} {pos p apos : Pos} {a b e : Expr} {es : List Expr} {f g : Nv → Sto → Res D} {ga : Nv → Sto → Res (List D)} {k : Nat} {c fn : String} {C : Addr} {fl : List String} {d : D} {v : V}
theorem ob_of {n : Nat} {fs : List (String × D)} (o : OcOk X c C fl) (rs : RelS X.K H m S) (rd : RelD X.K H m (.ref n) v) (ho : S[n]? = some (.ob c fs)) : ∃ a dx vs, v = .ref a ∧ m[n]? = some a ∧ H a = some (.ins C dx vs) ∧ RelFs X.K H m fs vs := by
  cases rd with
  | ref ha =>
  obtain ⟨a, ea, ro⟩ := rs.ob _ _ ho
  rw [ha] at ea; cases ea
  cases ro with
  | ob hH cl r =>
  cases cl.one o.at_
  exact ⟨_, _, _, rfl, ha, hH, r⟩
theorem se_at (o : OcOk X c C fl) (hf : fn ∈ fl) (hb : attributeBase a (Str.ofString fn) X.env (eval a X.env) = eval a X.env) (ha : PE X a (tR cA X.K W g)) :
    PE X (.Attribute a (Str.ofString fn) pos) (tR cA X.K W fun ρ S => (g ρ S).bind fun x S => fldO c fn x S) :=
  (pe_fld ha hb).imp fun σ H Q ⟨m, ρ, S, rn, rs, hp⟩ => ⟨m, ρ, S, rn, rs, (Post.bind hp).imp fun v H1 ⟨m1, d, S1, _, e1, rs1, rd1, h1⟩ => by
    unfold fldO at h1
    split at h1
    · split at h1
      · rename_i c' fs ho
        split at h1
        · rename_i hc; subst hc
          split at h1
          · rename_i y hy
            obtain ⟨a, dx, vs, rfl, _, hH, r⟩ := ob_of o rs1 rd1 ho
            obtain ⟨u, hu, ru⟩ := r.hit hy
            exact ⟨a, C, dx, vs, u, rfl, hH, o.cl, o.no fn hf, hu, h1 m1 H1 u .refl rs1 ru⟩
          · exact h1.elim
        · exact h1.elim
      · exact h1.elim
    · exact h1.elim⟩
theorem ss_sat {apos : Pos} (o : OcOk X c C fl) (hf : fn ∈ fl) (ho : PE X b (tR cA X.K W g)) (he : PE X a (tR cA X.K W f)) (hs : swapsWith a (some (.Attribute b (Str.ofString fn) apos)) pos.line X.env = pure false) :
    PS X (.Assign [.Attribute b (Str.ofString fn) apos] a pos) (tC cA X.K W fun ρ S => (f ρ S).out ρ fun y S => (g ρ S).out ρ fun x S => match setO c fn x y S with
      | some S' => .nx ρ S'
      | none => .stuck) :=
  (ps_fld ho he hs).imp fun T σ H ⟨m, ρ, S, rn, rs, h0⟩ => ⟨m, ρ, S, rn, rs, (PostC.out rn h0).imp fun v H1 ⟨m1, d, S1, _, e1, rs1, rd1, h1⟩ =>
    ⟨m1, ρ, S1, rn.ext e1, rs1, (PostC.out (rn.ext e1) h1).imp fun v2 H2 ⟨m2, d2, S2, _, e2, rs2, rd2, h2⟩ => by
      unfold setO at h2
      split at h2
      · rename_i S3 h3
        split at h3
        · split at h3
          · rename_i c' fs hob
            split at h3
            · rename_i hc
              obtain ⟨rfl, hl⟩ := hc
              cases h3
              obtain ⟨p, dx, vs, rfl, hm, hH, r⟩ := ob_of o rs2 rd2 hob
              have kp : Kp X.K H2 (upd H2 p (.ins C dx (putF (Str.ofString fn) v vs))) := kp_updW (.inr (.inr ⟨_, _, _, hH⟩))
              refine ⟨p, C, dx, vs, rfl, hH, o.cl, o.no fn hf, by rw [← r.length]; exact hl, h2 m2 _ σ (.putW (.inr (.inr ⟨_, _, _, hH⟩))) (((rn.ext e1).ext e2).ext (.putW (.inr (.inr ⟨_, _, _, hH⟩)))) ?_⟩
              refine rs2.putW hob rfl hm (.inr (.inr ⟨_, _, _, hH⟩)) (.ob upd_same o.at_ ?_) rfl
              have := (r.put (f := fn) (rd1.ext e2)).mono kp []
              simpa using this
            · cases h3
          · cases h3
        · cases h3
      · exact h2.elim⟩⟩
theorem post_call {ps : List Str} {Fn : List D → Sto → Res D} {ds : List D} {vs : List V} (hlen : ∀ ds S, ds.length ≠ ps.length → Fn ds S = .stuck) (rs : RelS X.K H m S) (rd : RelDs X.K H m ds vs) (h : Post cA X.K m H σ W (Fn ds S) Q) : spI cA X.K ps.length Fn vs H Q (WE W σ) := by
  refine ⟨?_, m, S, ds, rs, rd, ?_⟩
  · rw [← rd.length]
    by_cases z : ds.length = ps.length
    · exact z
    · rw [hlen ds S z] at h; exact h.elim
  · cases q : Fn ds S with
    | ok d S3 => rw [q] at h; exact h
    | exc x S3 => rw [q] at h; exact h
    | stuck => rw [q] at h; exact h
def mclF (c m : String) (Fn : List D → Sto → Res D) (f : Nv → Sto → Res D) (g : Nv → Sto → Res (List D)) : Nv → Sto → Res D := fun ρ S => (f ρ S).bind fun x S => if isOb c m x S then (g ρ S).bind fun ds S => Fn (x :: ds) S else .stuck
theorem isOb_of {mn : String} (h : isOb c mn d S = true) : ∃ n fs, d = .ref n ∧ S[n]? = some (.ob c fs) ∧ fs.lookup mn = none := by
  unfold isOb at h
  split at h
  · split at h
    · rename_i c' fs ho
      simp only [Bool.and_eq_true, decide_eq_true_eq, Option.isNone_iff_eq_none] at h
      obtain ⟨rfl, h2⟩ := h
      exact ⟨_, fs, rfl, ho, h2⟩
    · cases h
  · cases h
theorem mcl_of {fa : Addr} {fd : FuncData} {ps : List Str} {Fn : List D → Sto → Res D} {mn : String} (o : OcOk X c C fl) (hlen : ∀ ds S, ds.length ≠ ps.length → Fn ds S = .stuck) (h : tR cA X.K W (mclF c mn Fn f ga) σ H Q) :
    tMethS C (Str.ofString mn) (spI cA X.K ps.length Fn) (WE W) (tR cA X.K W f) (tA cA X.K W ga) σ H Q := by
  obtain ⟨m, ρ, S, rn, rs, hp⟩ := h
  unfold mclF at hp
  refine ⟨m, ρ, S, rn, rs, (Post.bind hp).imp fun v H1 ⟨m1, d, S1, _, e1, rs1, rd1, h1⟩ => ?_⟩
  split at h1
  · rename_i hob
    obtain ⟨n, fs, rfl, ho, hl⟩ := isOb_of hob
    obtain ⟨a, dx, vs, rfl, _, hH, r⟩ := ob_of o rs1 rd1 ho
    refine ⟨a, dx, vs, rfl, hH, r.mis hl, m1, ρ, S1, rn.ext e1, rs1, (Post.bindA h1).imp fun us H2 ⟨m2, ds, S2, _, e2, rs2, rd2, h2⟩ => ?_⟩
    exact post_call hlen rs2 (.cons (rd1.ext e2) rd2) h2
  · exact h1.elim
theorem se_mcl {fa : Addr} {fd : FuncData} {ps : List Str} {Fn : List D → Sto → Res D} {mn : String} (o : OcOk X c C fl) (hm : Meth X.K C (Str.ofString mn) fa) (F : FnOk X.prog X.w X.K X.mg X.base (L2.CX X.prog X.w) k fa fd ps (spI cA X.K ps.length Fn)) (hr : Room k X.A) (hb : Binds X.K fd ps []) (tk : Takes X W)
    (hlen : ∀ ds S, ds.length ≠ ps.length → Fn ds S = .stuck) (hbase : attributeBase a (Str.ofString mn) X.env (eval a X.env) = eval a X.env) (hline : (apos.endLine == pos.line) = true) (hpl : (e :: es).all plain = true) (hfew : (e :: es).length < 30)
    (ho : PE X a (tR cA X.K W f)) (ha : PA X (e :: es) (tA cA X.K W ga)) : PE X (.Call (.Attribute a (Str.ofString mn) apos) (e :: es) [] pos) (tR cA X.K W (mclF c mn Fn f ga)) := by
  have hpl' := hpl
  simp only [List.all_cons, Bool.and_eq_true] at hpl'
  exact (pe_methS ho o.cl hm F hr hb (fun σ => passAt tk σ) ha (star_cons hpl'.1) (star_any hpl'.2) (meth_any hbase hline (by unfold methodCallForm; rw [star_all hpl]; simp [keywordEach, backToKw]; simpa using hfew))).imp fun σ H Q h => mcl_of (fa := fa) (fd := fd) o hlen h
theorem se_mcl0 {fa : Addr} {fd : FuncData} {ps : List Str} {Fn : List D → Sto → Res D} {mn : String} (o : OcOk X c C fl) (hm : Meth X.K C (Str.ofString mn) fa) (F : FnOk X.prog X.w X.K X.mg X.base (L2.CX X.prog X.w) k fa fd ps (spI cA X.K ps.length Fn)) (hr : Room k X.A) (hb : Binds X.K fd ps []) (tk : Takes X W)
    (hlen : ∀ ds S, ds.length ≠ ps.length → Fn ds S = .stuck) (hbase : attributeBase a (Str.ofString mn) X.env (eval a X.env) = eval a X.env) (hline : (apos.endLine == pos.line) = true)
    (ho : PE X a (tR cA X.K W f)) : PE X (.Call (.Attribute a (Str.ofString mn) apos) [] [] pos) (tR cA X.K W (mclF c mn Fn f fun _ S => .ok [] S)) :=
  (pe_methS0 ho o.cl hm F hr hb (fun σ => passAt tk σ) (meth_any hbase hline (by rfl))).imp fun σ H Q h => by
    obtain ⟨m1, ρ1, S1, a1, a2, a3⟩ := mcl_of (fa := fa) (fd := fd) o hlen h
    refine ⟨m1, ρ1, S1, a1, a2, a3.imp fun x H1 ⟨t, dx, fs, b1, b2, b3, m2, ρ2, S2, b4, b5, b6⟩ => ⟨t, dx, fs, b1, b2, b3, b6 m2 H1 [] .refl b5 .nil⟩⟩
def mkF (c : String) (Fn : List D → Sto → Res D) (g : Nv → Sto → Res (List D)) : Nv → Sto → Res D := fun ρ S => (g ρ S).bind fun ds S => mkO c Fn ds S
theorem mk_of {ps : List Str} {Fn : List D → Sto → Res D} (o : OcOk X c C fl) (hlen : ∀ ds S, ds.length ≠ ps.length → Fn ds S = .stuck) {ds : List D} {vs : List V} (rs : RelS X.K H m S) (rd : RelDs X.K H m ds vs) (h : Post cA X.K m H σ W (mkO c Fn ds S) Q) :
    ∀ x dx, H x = none → H dx = none → dx ≠ x → spI cA X.K ps.length Fn (.ref x :: vs) (upd (upd H dx (.own x)) x (.ins C dx [])) (fun v H2 => v = .non ∧ Q (.ref x) H2) (WE W σ) := by
  intro x dx hx hdx hne
  have e1 : Ext X.K H m (upd H dx (.own x)) m := .more hdx
  have rs1 := rs.more hdx (u := .own x)
  have hx1 : upd H dx (.own x) x = none := by rw [upd_ne (Ne.symm hne)]; exact hx
  have e2 : Ext X.K (upd H dx (.own x)) m (upd (upd H dx (.own x)) x (.ins C dx [])) (m ++ [x]) := .new hx1
  have rs2 : RelS X.K (upd (upd H dx (.own x)) x (.ins C dx [])) (m ++ [x]) (S ++ [.ob c []]) := rs1.new hx1 (.ob upd_same o.at_ .nil) rfl
  have hg : (m ++ [x])[S.length]? = some x := by rw [← rs.len]; simp
  refine post_call (m := m ++ [x]) (S := S ++ [.ob c []]) (ds := .ref S.length :: ds) (σ := σ) hlen rs2 (.cons (.ref hg) (rd.ext (e1.trans e2))) ?_
  unfold mkO at h
  cases q : Fn (.ref S.length :: ds) (S ++ [.ob c []]) with
  | stuck => rw [q] at h; exact h
  | exc y S3 => rw [q] at h; exact fun m' H' c d e3 => h m' H' c d ((e1.trans e2).trans e3)
  | ok d S3 =>
    rw [q] at h
    simp only [Res.bind] at h
    split at h
    · intro m' H' v e3 rs3 rd3
      refine ⟨?_, h m' H' (.ref x) ((e1.trans e2).trans e3) rs3 (.ref ?_)⟩
      · cases rd3 with | p r => cases r; rfl
      · obtain ⟨t, rfl⟩ := e3.pre
        exact pre_get hg
    · exact h.elim
theorem se_mk {fa : Addr} {fd : FuncData} {ps : List Str} {Fn : List D → Sto → Res D} (o : OcOk X c C fl) (M : Mk X.K C fa) (F : FnOk X.prog X.w X.K X.mg X.base (L2.CX X.prog X.w) k fa fd ps (spI cA X.K ps.length Fn)) (hr : Room (k + 1) X.A) (hg : Gl X (Str.ofString c)) (hb : Binds X.K fd ps []) (tk : Takes X W)
    (hlen : ∀ ds S, ds.length ≠ ps.length → Fn ds S = .stuck) (hd : (Str.ofString c == ("__debug__" : Str)) = false) (hpl : (e :: es).all plain = true) (ha : PA X (e :: es) (tA cA X.K W ga)) :
    PE X (.Call (.Name (Str.ofString c) p) (e :: es) [] pos) (tR cA X.K W (mkF c Fn ga)) := by
  have hpl' := hpl
  simp only [List.all_cons, Bool.and_eq_true] at hpl'
  exact (pe_makeS M F hr hg o.mg hb (fun σ => passAt tk σ) ha hd (star_cons hpl'.1) (star_any hpl'.2)).imp fun σ H Q ⟨m, ρ, S, rn, rs, hp⟩ => by
    unfold mkF at hp
    exact ⟨m, ρ, S, rn, rs, (Post.bindA hp).imp fun vs H1 ⟨m1, ds, S1, _, e1, rs1, rd1, h1⟩ => mk_of o hlen rs1 rd1 h1⟩
theorem se_mk0 {fa : Addr} {fd : FuncData} {ps : List Str} {Fn : List D → Sto → Res D} (o : OcOk X c C fl) (M : Mk X.K C fa) (F : FnOk X.prog X.w X.K X.mg X.base (L2.CX X.prog X.w) k fa fd ps (spI cA X.K ps.length Fn)) (hr : Room (k + 1) X.A) (hg : Gl X (Str.ofString c)) (hb : Binds X.K fd ps []) (tk : Takes X W)
    (hlen : ∀ ds S, ds.length ≠ ps.length → Fn ds S = .stuck) (hd : (Str.ofString c == ("__debug__" : Str)) = false) :
    PE X (.Call (.Name (Str.ofString c) p) [] [] pos) (tR cA X.K W (mkF c Fn fun _ S => .ok [] S)) :=
  (pe_makeS0 M F hr hg o.mg hb (fun σ => passAt tk σ) hd).imp fun σ H Q ⟨m, ρ, S, rn, rs, hp⟩ => by
    unfold mkF at hp
    exact mk_of o hlen rs .nil hp
end
end PH

set_option maxHeartbeats 4000000
/-! PH, part K: when a term fits a text (a Bool), and that then the text does what the term says. -/
namespace PH
open L2 PySem PySem.Spec PyProof.Rows
/-- what is known of the text's names: the defs, the constants by number -/
structure Tab where
  fn : List Str
  gl : List Str
  /-- the exception classes: name, number, fields -/
  cl : List (Str × Nat × List String)
  /-- the dicts of the top: name, values by text -/
  gd : List (Str × List (Cs × PD))
  /-- the classes with instances: name, fields, methods by number -/
  oc : List (String × List String × List (String × Nat))
  /-- within an except suite -/
  hot : Bool
def Tab.ids (T : Tab) : List Nat := T.cl.map (·.2.1)
def Tab.fl (T : Tab) : List String := T.cl.flatMap (·.2.2)
def Tab.in (T : Tab) : Tab := { T with hot := true }
def ocB (T : Tab) (c : String) (p : List String → List (String × Nat) → Bool) : Bool := T.oc.any fun q => decide (q.1 = c) && p q.2.1 q.2.2
theorem ocB_of {T : Tab} {c : String} {p : List String → List (String × Nat) → Bool} (h : ocB T c p = true) : ∃ fl ms, (c, fl, ms) ∈ T.oc ∧ p fl ms = true := by
  unfold ocB at h
  obtain ⟨⟨c', fl, ms⟩, hq, h2⟩ := List.any_eq_true.mp h
  simp only [Bool.and_eq_true, decide_eq_true_eq] at h2
  obtain ⟨rfl, h3⟩ := h2
  exact ⟨fl, ms, hq, h3⟩
def visB (sc : Scope) (n : Str) : Bool := match sc.names.lookup n with
  | some .local => true | some .cell => true | some .free => true | _ => false
def locB (sc : Scope) (n : Str) : Bool := match sc.names.lookup n with
  | some .local => true | some .cell => true | _ => false
def glbB (sc : Scope) (n : Str) : Bool := match sc.names.lookup n with
  | some .globalImplicit => true | _ => false
def noDbg (n : Str) : Bool := !(n == ("__debug__" : Str)) && !(n == ("__classdict__" : Str))
def notSet : Expr → Bool
  | .Set .. => false | _ => true
def notComp : Expr → Bool
  | .ListComp .. => false | .SetComp .. => false | .DictComp .. => false | _ => true
def notTup : Expr → Bool
  | .Tuple .. => false | .List .. => false | _ => true
def notCall0 : Expr → Bool
  | .Call _ [] _ _ => false | _ => true
def okAsg (sc : Scope) (t x : Expr) : Bool := match x with
  | .ListComp _ _ scope p => (match t with
    | .Name n q => (match sc.names.lookup n with
      | some .local => (match sc.kind with | .function => true | _ => false) && (q.line == p.line) && !(scope.names.any fun (m, k) => m == n && (k == .local || k == .cell))
      | _ => true)
    | _ => false)
  | .SetComp .. => false
  | .DictComp .. => false
  | .Tuple .. => (match t with | .Name .. => true | _ => false)
  | _ => (match t with | .Name .. => true | .Tuple .. => true | _ => false)
/-- the built-in names that are asked for -/
def bltNames : List Str := ["isinstance", "range", "len", "int", "ord", "str", "tuple", "list", "sorted", "all", "any", "sum", "max", "min", "abs", "bool", "dict", "ValueError"]
def ownOf (N : List Str) (own : List Nat) : List (Str × Nat) := own.map fun j => (N.getD j ⟨#[]⟩, j)
section
variable (T : Tab) (N : List Str)
mutual
def chkT (sc : Scope) : Tg → Expr → Bool
  | .nm i, e => match e with
    | .Name n _ => decide (N[i]? = some n) && locB sc n
    | _ => false
  | .tp ts, e => match e with
    | .Tuple es _ _ => chkTs sc ts es
    | _ => false
def chkTs (sc : Scope) : List Tg → List Expr → Bool
  | [], es => es.isEmpty
  | t :: ts, es => match es with
    | e :: es => plain e && chkT sc t e && chkTs sc ts es
    | [] => false
end
def chkK (v : PD) (e : Expr) : Bool := match v with
  | .non => (match e with | .Constant .none _ _ => true | _ => false)
  | .bl b => (match e with | .Constant (.bool c) _ _ => decide (b = c) | _ => false)
  | .int b => (match e with | .Constant (.int c) _ _ => decide (b = c) | _ => false)
  | .str s => (match e with | .Constant (.str t) _ _ => decide (mkS s = t) && decide (s.length ≤ LINE) && s.all fun c => decide (c < 1114112) | _ => false)
  | _ => false
def chkTy (sc : Scope) : List Ty → List Expr → Bool
  | [], es => es.isEmpty
  | t :: ts, es => match es with
    | .Name n _ :: es => decide (n = t.nm) && decide (n ∈ bltNames) && glbB sc n && chkTy sc ts es
    | _ => false
/-- a class's name -/
def clsB (sc : Scope) (n : Str) (c : Nat) : Bool := glbB sc n && !(n == ("__debug__" : Str)) && ((decide (c ≠ 1001) && T.cl.any fun q => decide (q.1 = n) && decide (q.2.1 = c)) || (decide (c = 1001) && decide (n = ("ValueError" : Str))))
def clssB (sc : Scope) : List Nat → List Expr → Bool
  | [], [] => true
  | c :: cs, y :: ys => (match y with
    | .Name n _ => clsB T sc n c
    | _ => false) && clssB sc cs ys
  | _, _ => false
mutual
def chkE : E → Scope → Expr → Bool
  | .k v, _, w0 => chkK v w0
  | .v i, sc, w0 => match w0 with
    | .Name n _ => decide (N[i]? = some n) && visB sc n && noDbg n
    | _ => false
  | .g i, sc, w0 => match w0 with
    | .Name n _ => decide (T.gl[i]? = some n) && glbB sc n && noDbg n
    | _ => false
  | .gd t n e, sc, w0 => match w0 with
    | .Subscript (.Name m _) y _ => noSlice y && decide (T.gd[n]? = some (m, t)) && glbB sc m && noDbg m && chkE e sc y
    | _ => false
  | .fld i f, sc, w0 => match w0 with
    | .Attribute (.Name n _) a _ => decide (N[i]? = some n) && visB sc n && noDbg n && decide (a = Str.ofString f) && decide (f ∈ T.fl) && T.hot
    | _ => false
  | .isx i cs, sc, w0 => match w0 with
    | .Call (.Name g _) [.Name n _, y] [] _ => decide (g = "isinstance") && glbB sc g && decide (N[i]? = some n) && visB sc n && noDbg n && T.hot && (match y with
      | .Name x _ => (match cs with | [c] => clsB T sc x c | _ => false)
      | .Tuple ys _ _ => decide (ys.length ≤ 1000) && clssB T sc cs ys
      | _ => false)
    | _ => false
  | .tp es, sc, w0 => match w0 with
    | .Tuple xs _ _ => decide (xs.length ≤ 1000) && chkEs es sc xs
    | _ => false
  | .ls es, sc, w0 => match w0 with
    | .List xs _ => decide (xs.length ≤ 1000) && chkEs es sc xs
    | _ => false
  | .dead, _, _ => true
  | .d0, sc, w0 => match w0 with
    | .Dict [] [] _ => true
    | _ => false
  | .bin op a b, sc, w0 => match w0 with
    | .BinOp x op' y _ => decide (op = op') && chkE a sc x && chkE b sc y
    | _ => false
  | .neg a, sc, w0 => match w0 with
    | .UnaryOp .USub x _ => chkE a sc x
    | _ => false
  | .no a, sc, w0 => match w0 with
    | .UnaryOp .Not x _ => chkE a sc x
    | _ => false
  | .cmp op a b, sc, w0 => match w0 with
    | .Compare x [op'] [y] _ => decide (op = op') && notSet y && chkE a sc x && chkE b sc y
    | _ => false
  | .chn o1 o2 a b c, sc, w0 => match w0 with
    | .Compare x [p1, p2] [y, z] _ => decide (o1 = p1) && decide (o2 = p2) && notSet y && notSet z && chkE a sc x && chkE b sc y && chkE c sc z
    | _ => false
  | .bo o es, sc, w0 => match w0 with
    | .BoolOp o' (x :: xs) _ => decide (o = o') && chkEs es sc (x :: xs)
    | _ => false
  | .ife c a b, sc, w0 => match w0 with
    | .IfExp z x y _ => chkE c sc z && chkE a sc x && chkE b sc y
    | _ => false
  | .ix a i, sc, w0 => match w0 with
    | .Subscript x y _ => noSlice y && chkE a sc x && chkE i sc y
    | _ => false
  | .slN a, sc, w0 => match w0 with
    | .Subscript x (.Slice none none none _) _ => chkE a sc x
    | _ => false
  | .slL a lo, sc, w0 => match w0 with
    | .Subscript x (.Slice (some y) none none _) _ => chkE a sc x && chkE lo sc y
    | _ => false
  | .slH a hi, sc, w0 => match w0 with
    | .Subscript x (.Slice none (some y) none _) _ => chkE a sc x && chkE hi sc y
    | _ => false
  | .sl a lo hi, sc, w0 => match w0 with
    | .Subscript x (.Slice (some y) (some z) none _) _ => chkE a sc x && chkE lo sc y && chkE hi sc z
    | _ => false
  | .at c e f, sc, w0 => match w0 with
    | .Attribute x a _ => decide (a = Str.ofString f) && ocB T c (fun fl _ => decide (f ∈ fl)) && notCall0 x && chkE e sc x
    | _ => false
  | .mk c fi es, sc, w0 => match w0 with
    | .Call (.Name n _) xs [] _ => decide (n = Str.ofString c) && glbB sc n && noDbg n && ocB T c (fun _ ms => decide (("__init__", fi) ∈ ms)) && chkEs es sc xs && !T.hot
    | _ => false
  | .mcl c m fi e es, sc, w0 => match w0 with
    | .Call (.Attribute x a apos) xs [] pos => decide (a = Str.ofString m) && notCall0 x && (apos.endLine == pos.line) && decide (xs.length < 30) && ocB T c (fun _ ms => decide ((m, fi) ∈ ms)) && chkE e sc x && chkEs es sc xs && !T.hot
    | _ => false
  | .call f es, sc, w0 => match w0 with
    | .Call (.Name n _) xs [] _ => decide (T.fn[f]? = some n) && glbB sc n && noDbg n && chkEs es sc xs && !T.hot
    | _ => false
  | .blt b es, sc, w0 => match w0 with
    | .Call (.Name n _) (x :: xs) [] _ => decide (n = b.nm) && decide (n ∈ bltNames) && glbB sc n && chkEs es sc (x :: xs) && !T.hot
    | _ => false
  | .isi a t, sc, w0 => match w0 with
    | .Call (.Name n _) [x, .Name tn _] [] _ => decide (n = "isinstance") && decide (tn = t.nm) && decide (tn ∈ bltNames) && glbB sc n && glbB sc tn && plain x && chkE a sc x
    | _ => false
  | .isT a ts, sc, w0 => match w0 with
    | .Call (.Name n _) [x, .Tuple ys _ _] [] _ => decide (n = "isinstance") && glbB sc n && plain x && decide (ts.length ≤ 1000) && chkTy sc ts ys && chkE a sc x
    | _ => false
  | .mth m a es, sc, w0 => match w0 with
    | .Call (.Attribute o nm apos) xs [] pos => decide (nm = m.nm) && notCall0 o && (apos.endLine == pos.line) && decide (xs.length < 30) && chkE a sc o && chkEs es sc xs
    | _ => false
  | .lc own tg it elt, sc, w0 => match w0 with
    | .ListComp x [⟨t, i, [], ia⟩] scope _ => decide (ia = 0) && notSet i && blkC N sc scope (ownOf N own) && decide (∀ j ∈ tg.sl, j ∈ own) && chkT N scope tg t && chkW it sc i && chkE elt scope x && !T.hot
    | _ => false
  | .lcI own tg it c elt, sc, w0 => match w0 with
    | .ListComp x [⟨t, i, [q], ia⟩] scope _ => decide (ia = 0) && notSet i && blkC N sc scope (ownOf N own) && decide (∀ j ∈ tg.sl, j ∈ own) && chkT N scope tg t && chkW it sc i && chkE c scope q && chkE elt scope x && !T.hot
    | _ => false
def chkEs : Es → Scope → List Expr → Bool
  | .nil, _, es => es.isEmpty
  | .cons e es, sc, w0 => match w0 with
    | x :: xs => plain x && chkE e sc x && chkEs es sc xs
    | [] => false
def chkW : W → Scope → Expr → Bool
  | .of e, sc, x => chkE e sc x
  | .rg1 a, sc, w0 => match w0 with
    | .Call (.Name n _) [x] [] _ => decide (n = "range") && glbB sc n && plain x && chkE a sc x
    | _ => false
  | .rgL a, sc, w0 => match w0 with
    | .Call (.Name n _) [.Call (.Name l _) [x] [] _] [] _ => decide (n = "range") && decide (l = "len") && glbB sc n && glbB sc l && plain x && chkE a sc x && !T.hot
    | _ => false
  | .rg2 a b, sc, w0 => match w0 with
    | .Call (.Name n _) [x, y] [] _ => decide (n = "range") && glbB sc n && plain x && plain y && chkE a sc x && chkE b sc y
    | _ => false
end
end
/-- a plain name as a target -/
def nmB : Tg → Bool
  | .nm _ => true
  | _ => false
/-- the classes that can come, by number: all in the table, all with a line of their own -/
def knB (T : Tab) (kn : List Nat) : Bool := decide (T.gl.length ≤ XC) && kn.all fun c => decide (c < 1000) && decide (c ∈ T.ids)
section
variable (N : List Str)
mutual
def chkC (T : Tab) (sc : Scope) : C → Stmt → Bool
  | .ret e, w0 => match w0 with
    | .Return (some x) _ => chkE T N e sc x
    | _ => false
  | .retN, w0 => match w0 with
    | .Return none _ => true
    | _ => false
  | .asg tg e, w0 => match w0 with
    | .Assign [t] x _ => plain t && okAsg sc t x && chkT N sc tg t && chkE T N e sc x && (!T.hot || nmB tg)
    | _ => false
  | .sub a i e, w0 => match w0 with
    | .Assign [.Subscript o k _] x _ => noSlice k && chkE T N a sc o && chkE T N i sc k && chkE T N e sc x
    | _ => false
  | .sat c a f e, w0 => match w0 with
    | .Assign [.Attribute b n _] x _ => decide (n = Str.ofString f) && ocB T c (fun fl _ => decide (f ∈ fl)) && notComp x && chkE T N a sc b && chkE T N e sc x
    | _ => false
  | .ex e, w0 => match w0 with
    | .Expr x _ => notComp x && chkE T N e sc x
    | _ => false
  | .ite c t f, w0 => match w0 with
    | .If x a b _ => chkE T N c sc x && chkCz T sc t a && chkCz T sc f b
    | _ => false
  | .forr tg it body, w0 => match w0 with
    | .For t i b [] _ => notSet i && chkT N sc tg t && chkW T N it sc i && chkCz T sc body b && !T.hot
    | _ => false
  | .whl c body, w0 => match w0 with
    | .While x b [] _ => chkE T N c sc x && chkCz T sc body b
    | _ => false
  | .dead, _ => true
  | .unl ts e, w0 => match w0 with
    | .Assign [.Tuple es kk q] x _ => chkTs N sc ts es && okAsg sc (.Tuple es kk q) x && chkE T N e sc x && !T.hot
    | _ => false
  | .rse c fs es, w0 => match w0 with
    | .Raise (some (.Call (.Name n _) (x :: xs) [] _)) none _ => glbB sc n && !(n == ("__debug__" : Str)) && decide ((n, c, fs) ∈ T.cl) && decide (c < 1000) && chkEs T N es sc (x :: xs) && !T.hot
    | _ => false
  | .trx body kn c i suite, w0 => match w0 with
    | .Try b [.ExceptHandler (some (.Name x _)) (some n) (s :: ss) _] [] [] _ => decide (N[i]? = some n) && decide (sc.names.lookup n = some .local) && clsB T sc x c && decide (c ≠ 1001) && knB T kn && chkCz T sc body b && chkCz T.in sc suite (s :: ss) && !T.hot
    | _ => false
  | .try0 body kn c suite, w0 => match w0 with
    | .Try b [.ExceptHandler (some (.Name x _)) none (s :: ss) _] [] [] _ => clsB T sc x c && decide (c ≠ 1001) && knB T kn && chkCz T sc body b && chkCz T.in sc suite (s :: ss) && !T.hot
    | _ => false
  | .pas, w0 => match w0 with
    | .Pass _ => true
    | _ => false
  | .brk, w0 => match w0 with
    | .Break _ => true
    | _ => false
  | .cnt, w0 => match w0 with
    | .Continue _ => true
    | _ => false
def chkCz (T : Tab) (sc : Scope) : Cz → List Stmt → Bool
  | .nil, ss => ss.isEmpty
  | .cons c cs, w0 => match w0 with
    | s :: ss => chkC T sc c s && chkCz T sc cs ss
    | [] => false
end
end

/-! ### the context -/
structure Cok (cA : Ca) (T : Tab) (N : List Str) (sc : Scope) (X : Cx) (k : Nat) (M : Mo) (W : WX) : Prop where
  calm : T.hot = false → X.calm = true
  room : T.hot = false → Room k X.A
  room1 : T.hot = false → Room (k + 1) X.A
  two : 2 ≤ k
  un : X.A.units + 200 < cLine
  tk : Takes X W
  po : PassesOwn (model X.prog X.w) X.A X.env X.xe
  hN : X.N = N
  nd : N.Nodup
  vis : ∀ n, visB sc n = true → Vis X.env.scope n
  loc : ∀ n, locB sc n = true → Loc X.env.scope n ∧ (X.fn n = true ∨ X.env.scope.names.lookup n = some .local)
  glb : ∀ n, glbB sc n = true → Gl X n
  cap : ∀ n, sc.names.lookup n = some .cell ∨ sc.names.lookup n = some .free → X.env.scope.names.lookup n = some .cell ∨ X.env.scope.names.lookup n = some .free
  blt : ∀ n ∈ bltNames, X.mg n = none
  fns : ∀ (f : Nat) n, T.fn[f]? = some n → noDbg n = true → ∃ fa fd ps, FnOk X.prog X.w X.K X.mg X.base (L2.CX X.prog X.w) k fa fd ps (spI cA X.K ps.length (M.call f)) ∧ X.mg n = some (.ref fa) ∧ PySem.W.keepIn X.K (.ref fa) = true ∧ Binds X.K fd ps [] ∧ ∀ ds S, ds.length ≠ ps.length → M.call f ds S = .stuck
  ocs : ∀ c fl ms, (c, fl, ms) ∈ T.oc → ∃ C, OcOk X c C fl ∧ ∀ mn fi, (mn, fi) ∈ ms → ∃ fa fd ps, Meth X.K C (Str.ofString mn) fa ∧ FnOk X.prog X.w X.K X.mg X.base (L2.CX X.prog X.w) k fa fd ps (spI cA X.K ps.length (M.call fi)) ∧ Binds X.K fd ps [] ∧ (∀ ds S, ds.length ≠ ps.length → M.call fi ds S = .stuck) ∧ (mn = "__init__" → Mk X.K C fa)
  gls : ∀ (i : Nat) n, T.gl[i]? = some n → ∃ x u v, M.glob i = some x ∧ X.mg n = some u ∧ RelV v u ∧ ∀ H, RelP X.K H x v
  gds : ∀ n t, (n, t) ∈ T.gd → ∃ p : Addr, X.mg n = some (.ref p) ∧ ∀ z x, t.lookup z = some x → ∃ v, KDct X.K X.w p (mkS z) v ∧ ∀ H, RelP X.K H x v
  cls : ∀ n c fs, (n, c, fs) ∈ T.cl → X.mg n = some (.ref (cA c)) ∧ (c < 1000 → ClsOk cA X.prog X.w X.K X.mg X.base n c fs ∧ CatOk cA X.K T.fl T.ids c)
  hotX : T.hot = true → ∃ a d c, Hot cA X a d c ∧ CatOk cA X.K T.fl T.ids c ∧ M.glob XC = some (.tup [.int a, .int d, .int c])
theorem lookup_map {sc : Scope} : ∀ {names : List (Str × NameKind)} {x : Str} {k : NameKind}, names.lookup x = some k →
    ∃ k', (names.map fun (n, k) => if (k == NameKind.free && sc.kind == .function && sc.names.lookup n == some .cell) then (n, NameKind.cell) else (n, k)).lookup x = some k' ∧ (k' = k ∨ (k = .free ∧ k' = .cell))
  | [], _, _, h => by simp at h
  | (n, k0) :: r, x, k, h => by
    have ih := @lookup_map sc r x k
    show ∃ k', List.lookup x ((if (k0 == NameKind.free && sc.kind == .function && sc.names.lookup n == some .cell) = true then (n, NameKind.cell) else (n, k0)) :: (r.map _)) = some k' ∧ _
    cases hx : x == n with
    | true =>
      simp only [List.lookup_cons, hx, Option.some.injEq] at h
      subst h
      by_cases hc : (k0 == NameKind.free && sc.kind == .function && sc.names.lookup n == some .cell) = true
      · rw [if_pos hc]
        simp only [List.lookup_cons, hx]
        simp only [Bool.and_eq_true, beq_iff_eq] at hc
        exact ⟨_, rfl, .inr ⟨hc.1.1, rfl⟩⟩
      · rw [if_neg hc]
        simp only [List.lookup_cons, hx]
        exact ⟨_, rfl, .inl rfl⟩
    | false =>
      simp only [List.lookup_cons, hx] at h
      by_cases hc : (k0 == NameKind.free && sc.kind == .function && sc.names.lookup n == some .cell) = true
      · rw [if_pos hc]; simp only [List.lookup_cons, hx]; exact ih h
      · rw [if_neg hc]; simp only [List.lookup_cons, hx]; exact ih h
section
variable {cA : Ca} {T : Tab} {N : List Str} {sc : Scope} {X : Cx} {k : Nat} {M : Mo} {W : WX} {pos : Pos}
theorem visB_of {n : Str} (h : visB sc n = true) : ∃ k, sc.names.lookup n = some k ∧ (k = .local ∨ k = .cell ∨ k = .free) := by
  unfold visB at h
  split at h <;> first | exact ⟨_, by assumption, by simp⟩ | cases h
theorem locB_of {n : Str} (h : locB sc n = true) : ∃ k, sc.names.lookup n = some k ∧ (k = .local ∨ k = .cell) := by
  unfold locB at h
  split at h <;> first | exact ⟨_, by assumption, by simp⟩ | cases h
theorem glbB_of {n : Str} (h : glbB sc n = true) : sc.names.lookup n = some .globalImplicit := by
  unfold glbB at h
  split at h <;> first | assumption | cases h
theorem noDbg_of {n : Str} (h : noDbg n = true) : (n == ("__debug__" : Str)) = false ∧ (n == ("__classdict__" : Str)) = false := by
  unfold noDbg at h
  simpa using h
/-- within a comprehension -/
theorem Cok.blk (c : Cok cA T N sc X k M W) (hh : T.hot = false) {scope : Scope} (s0 : Shared) (H0 : Hp) (C : Addr) (cl : List (Str × Addr)) (fp : List Addr) : Cok cA T N scope (X.blk s0 H0 scope (compEnvC scope cl C X.env) fp) k M W0 where
  calm := c.calm
  room := c.room
  room1 := c.room1
  ocs := fun cn fl ms h => let ⟨C, o, r⟩ := c.ocs cn fl ms h; ⟨C, ⟨o.at_, o.mg, o.cl, o.no⟩, r⟩
  two := c.two
  un := c.un
  gds := c.gds
  cls := c.cls
  hotX := fun z => by rw [hh] at z; cases z
  tk := takes_blk
  po := PassesOwn.never
  hN := c.hN
  nd := c.nd
  vis := fun n h => by
    obtain ⟨q, h1, h2⟩ := visB_of h
    obtain ⟨q', h3, h4⟩ := lookup_map (sc := X.env.scope) h1
    have h5 : (compEnvC scope cl C X.env).scope.names.lookup n = some q' := h3
    show Vis (compEnvC scope cl C X.env).scope n
    rcases h2 with rfl | rfl | rfl <;> rcases h4 with rfl | ⟨h6, rfl⟩ <;> first | exact .inl h5 | exact .inr (.inl h5) | exact .inr (.inr h5)
  loc := fun n h => by
    obtain ⟨q, h1, h2⟩ := locB_of h
    have h3 : (compEnvC scope cl C X.env).scope.names.lookup n = some q := lookup_relS_keep (sc := X.env.scope) (by rcases h2 with rfl | rfl <;> decide) h1
    rcases h2 with rfl | rfl
    · exact ⟨.inl h3, .inr h3⟩
    · exact ⟨.inr h3, .inl (by show (scope.names.lookup n == some .cell) = true; rw [h1]; decide)⟩
  glb := fun n h => lookup_relS_keep (sc := X.env.scope) (by decide) (glbB_of h)
  cap := fun n h => by
    have go : ∀ q, scope.names.lookup n = some q → q = .cell ∨ q = .free → (compEnvC scope cl C X.env).scope.names.lookup n = some .cell ∨ (compEnvC scope cl C X.env).scope.names.lookup n = some .free := fun q h1 h2 => by
      obtain ⟨q', h3, h4⟩ := lookup_map (sc := X.env.scope) h1
      have h5 : (compEnvC scope cl C X.env).scope.names.lookup n = some q' := h3
      rcases h2 with rfl | rfl <;> rcases h4 with rfl | ⟨h6, rfl⟩ <;> first | exact .inl h5 | exact .inr h5
    rcases h with h | h
    · exact go _ h (.inl rfl)
    · exact go _ h (.inr rfl)
  blt := c.blt
  fns := c.fns
  gls := c.gls
theorem Cok.u65 (c : Cok cA T N sc X k M W) : X.A.units + 65 < cLine := by have := c.un; omega
theorem Cok.u100 (c : Cok cA T N sc X k M W) : X.A.units + 100 < cLine := by have := c.un; omega
theorem blkC_cap {scope : Scope} {own : List (Str × Nat)} (c : Cok cA T N sc X k M W) (h : blkC N sc scope own = true) : BlkOk X.N X.env.scope scope own := by
  have b := blkOk_by h
  exact ⟨b.kind, b.uniq, by rw [c.hN]; exact b.ix, fun y hy e => c.cap _ (b.free y hy e), by rw [c.hN]; exact b.own⟩
theorem ownOf_snd (own : List Nat) : (ownOf N own).map (·.2) = own := by simp [ownOf, Function.comp_def]
theorem behind_of {op : CmpOp} {b : Expr} (h : notSet b = true) : behindInMarks op b = false := by cases b <;> first | rfl | cases h
theorem last_of {o1 o2 : CmpOp} {b c : Expr} (h : notSet c = true) : lastMarks [o1, o2] [b, c] = false := behind_of h
theorem fold_of {b : Expr} {env : Env} (h : notSet b = true) : ∀ x, foldedSetIterable b env x = pure x := fun x => by cases b <;> first | rfl | cases h
theorem attr_base {o : Expr} {n : Str} {env : Env} (h : notCall0 o = true) : attributeBase o n env (eval o env) = eval o env := by
  cases o with
  | Call f as ks p =>
    cases as with
    | nil => cases h
    | cons a r => cases f <;> rfl
  | _ => rfl

/-! ### targets -/
mutual
theorem snd_T (c : Cok cA T N sc X k M W) : ∀ (tg : Tg) (e : Expr), chkT N sc tg e = true → (T.hot = false ∨ nmB tg = true) → PG X e (tG X.K tg)
  | .nm i, e, h, _ => by
    rw [chkT.eq_def] at h; dsimp only at h
    split at h
    · simp only [Bool.and_eq_true, decide_eq_true_eq] at h
      obtain ⟨h1, h2⟩ := c.loc _ h.2
      exact sg_nm (by rw [c.hN]; exact c.nd) (by rw [c.hN]; exact h.1) h1 h2
    · cases h
  | .tp ts, e, h, hh => by
    have hh : T.hot = false := hh.resolve_right (by simp [nmB])
    rw [chkT.eq_def] at h; dsimp only at h
    split at h
    · obtain ⟨h1, h2, h3⟩ := snd_Ts c hh ts _ h
      exact sg_tp (c.calm hh) h2 h3 h1
    · cases h
theorem snd_Ts (c : Cok cA T N sc X k M W) (hh : T.hot = false) : ∀ (ts : List Tg) (es : List Expr), chkTs N sc ts es = true → PGs X es (tGs X.K ts) ∧ es.all plain = true ∧ es.length = ts.length
  | [], es, h => by
    rw [chkTs.eq_def] at h; dsimp only at h
    cases es with
    | nil => exact ⟨sg_nil, rfl, rfl⟩
    | cons e es => cases h
  | t :: ts, es, h => by
    rw [chkTs.eq_def] at h; dsimp only at h
    split at h
    · rename_i e es
      simp only [Bool.and_eq_true] at h
      obtain ⟨h1, h2, h3⟩ := snd_Ts c hh ts es h.2
      exact ⟨sg_cons h.1.1 (snd_T c t e h.1.2 (.inl hh)) h1, by simp [h.1.1, h2], by simp [h3]⟩
    · cases h
end
end
end PH

set_option maxHeartbeats 8000000
/-! PH, part L: a text that fits a term does what the term says. -/
namespace PH
open L2 PySem PySem.Spec PyProof.Rows
section
variable {cA : Ca} {T : Tab} {N : List Str}
/-- an expression, as a value and as a test -/
def Snd (cA : Ca) (T : Tab) (N : List Str) (e : E) (sc : Scope) (x : Expr) : Prop := ∀ ⦃X : Cx⦄ ⦃k : Nat⦄ ⦃M : Mo⦄ ⦃W : WX⦄, Cok cA T N sc X k M W → PE X x (tR cA X.K W (evE M e)) ∧ PT X x (tB cA X.K W (tK (evE M e)))
def SndA (cA : Ca) (T : Tab) (N : List Str) (es : Es) (sc : Scope) (xs : List Expr) : Prop := xs.all plain = true ∧ ∀ ⦃X : Cx⦄ ⦃k : Nat⦄ ⦃M : Mo⦄ ⦃W : WX⦄, Cok cA T N sc X k M W → PA X xs (tA cA X.K W (evEs M es)) ∧
  (∀ o pos, xs ≠ [] → PE X (.BoolOp o xs pos) (tR cA X.K W (evB M o es)) ∧ PW X (.BoolOp o xs pos) (tB cA X.K W (tK (evB M o es)))) ∧ ∀ ρ S ds S', evEs M es ρ S = .ok ds S' → ds.length = xs.length
def SndW (cA : Ca) (T : Tab) (N : List Str) (it : W) (sc : Scope) (x : Expr) : Prop := ∀ ⦃X : Cx⦄ ⦃k : Nat⦄ ⦃M : Mo⦄ ⦃W : WX⦄, Cok cA T N sc X k M W → ∀ tg, PI X tg x (tW cA X.K W (evW M it))
/-- a value whose test is its truth -/
theorem snd_plain {e : E} {sc : Scope} {x : Expr} (h : ∀ {X : Cx} {k : Nat} {M : Mo} {W : WX}, Cok cA T N sc X k M W → PE X x (tR cA X.K W (evE M e))) (he : ∀ (env : Env) whole, isTrue x env whole = (do let v ← whole; standAt x.pos; holding [v] (truthy v))) : Snd cA T N e sc x :=
  fun _ _ _ _ c => ⟨h c, st_plain (h c) (he _)⟩
theorem tys_of {sc : Scope} : ∀ {ts : List Ty} {ys : List Expr}, chkTy sc ts ys = true → ∃ l : List (Ty × Pos), l.map (·.1) = ts ∧ ys = l.map (fun t => Expr.Name t.1.nm t.2) ∧ ∀ t ∈ l, t.1.nm ∈ bltNames ∧ glbB sc t.1.nm = true
  | [], ys, h => by
    rw [chkTy.eq_def] at h; dsimp only at h
    cases ys with
    | nil => exact ⟨[], rfl, rfl, fun _ z => nomatch z⟩
    | cons y ys => cases h
  | t :: ts, ys, h => by
    rw [chkTy.eq_def] at h; dsimp only at h
    split at h
    · rename_i n p es
      simp only [Bool.and_eq_true, decide_eq_true_eq] at h
      obtain ⟨⟨⟨rfl, h2⟩, h3⟩, h4⟩ := h
      obtain ⟨l, e1, e2, e3⟩ := tys_of h4
      exact ⟨(t, p) :: l, by simp [e1], by simp [e2], fun q hq => (List.mem_cons.mp hq).elim (fun z => by rw [z]; exact ⟨h2, h3⟩) (e3 q)⟩
    · cases h
theorem evE_lc (M : Mo) (own tg it elt) : evE M (.lc own tg it elt) = lcF own tg (evW M it) (fun _ S => .ok true S) (evE M elt) := by funext ρ S; simp only [evE, lcF]
theorem evE_lcI (M : Mo) (own tg it c elt) : evE M (.lcI own tg it c elt) = lcF own tg (evW M it) (tK (evE M c)) (evE M elt) := by funext ρ S; simp only [evE, lcF]; rfl
/-- a comprehension as a value, and what it wants of its parts -/
theorem hot_of {b : Bool} (h : (!b) = true) : b = false := by cases b <;> first | rfl | cases h
theorem lc_parts {X : Cx} {k : Nat} {M : Mo} {W : WX} {sc scope : Scope} {own : List Nat} {tg : Tg} {t i : Expr} {it : PH.W} {elt : E} {x : Expr} (c : Cok cA T N sc X k M W) (hh : T.hot = false) (hb : blkC N sc scope (ownOf N own) = true) (ho : ∀ j ∈ tg.sl, j ∈ own) (ht : chkT N scope tg t = true) (hi : SndW cA T N it sc i) (he : Snd cA T N elt scope x) :
    BlkOk X.N X.env.scope scope (ownOf N own) ∧ PI X t i (tW cA X.K W (evW M it)) ∧ (∀ (s : Shared) (H : Hp) (C : Addr) (cl : List (Str × Addr)) (fp : List Addr), PG (X.blk s H scope (compEnvC scope cl C X.env) fp) t (tG X.K tg)) ∧
      ∀ (s : Shared) (H : Hp) (C : Addr) (cl : List (Str × Addr)) (fp : List Addr), PE (X.blk s H scope (compEnvC scope cl C X.env) fp) x (tR cA X.K W0 (evE M elt)) :=
  ⟨blkC_cap c hb, hi c t, fun s H C cl fp => snd_T (c.blk hh s H C cl fp) tg t ht (.inl hh), fun s H C cl fp => (he (c.blk hh s H C cl fp)).1⟩
theorem yes_of {cA : Ca} {K : Fg} {σ : L2.St} {H : Hp} {Q : Bool → Hp → Prop} (h : tB cA K W0 (fun _ S => .ok true S) σ H Q) : tYes σ H Q := let ⟨m, ρ, S, rn, rs, hp⟩ := h; hp m H .refl rs
theorem clsB_of {sc : Scope} {X : Cx} {k : Nat} {M : Mo} {W : WX} {n : Str} {c : Nat} (co : Cok cA T N sc X k M W) (h : clsB T sc n c = true) : NameOk cA X n c ∧ (c ∈ T.ids ∨ c = 1001) := by
  unfold clsB at h
  simp only [Bool.and_eq_true, Bool.or_eq_true, decide_eq_true_eq, Bool.not_eq_true', List.any_eq_true] at h
  obtain ⟨⟨h1, h2⟩, h3⟩ := h
  rcases h3 with ⟨hc, q, hq, hn, hi⟩ | ⟨hc, hn⟩
  · obtain ⟨qn, qc, qf⟩ := q
    dsimp only at hn hi
    subst hn hi
    exact ⟨⟨co.glb _ h1, h2, .inl ⟨hc, (co.cls _ _ _ hq).1⟩⟩, .inl (List.mem_map.mpr ⟨_, hq, rfl⟩)⟩
  · subst hn
    exact ⟨⟨co.glb _ h1, h2, .inr ⟨hc, rfl, co.blt _ (by decide +kernel)⟩⟩, .inr hc⟩
theorem clssB_of {sc : Scope} {X : Cx} {k : Nat} {M : Mo} {W : WX} (co : Cok cA T N sc X k M W) : ∀ {cs : List Nat} {ys : List Expr}, clssB T sc cs ys = true → ∃ l : List (Nat × Str × Pos), l.map (·.1) = cs ∧ ys = l.map (fun q => Expr.Name q.2.1 q.2.2) ∧ ∀ q ∈ l, NameOk cA X q.2.1 q.1 ∧ (q.1 ∈ T.ids ∨ q.1 = 1001)
  | [], [], _ => ⟨[], rfl, rfl, fun _ z => nomatch z⟩
  | [], _ :: _, h => by cases h
  | _ :: _, [], h => by cases h
  | c :: cs, y :: ys, h => by
    simp only [clssB, Bool.and_eq_true] at h
    obtain ⟨h1, h2⟩ := h
    split at h1
    · rename_i n p
      obtain ⟨l, e1, e2, e3⟩ := clssB_of co h2
      exact ⟨(c, n, p) :: l, by simp [e1], by simp [e2], fun q hq => (List.mem_cons.mp hq).elim (fun z => by rw [z]; exact clsB_of co h1) (e3 q)⟩
    · cases h1
mutual
theorem sndE : ∀ (e : E) (sc : Scope) (x : Expr), chkE T N e sc x = true → Snd cA T N e sc x
  | .v i, sc, x, h => by
    rw [chkE.eq_def] at h; dsimp only at h
    split at h
    · simp only [Bool.and_eq_true, decide_eq_true_eq] at h
      obtain ⟨⟨h1, h2⟩, h3⟩ := h
      obtain ⟨h4, h5⟩ := noDbg_of h3
      refine snd_plain (fun c => ?_) fun _ _ => rfl
      have e : ∀ M : Mo, evE M (.v i) = fun ρ S => match ρ[i]? with | some (some d) => .ok d S | _ => .stuck := fun M => by funext ρ S; first | (rw [evE]; done) | (rw [evE]; cases ρ[i]? with | none => rfl | some o => cases o <;> rfl)
      rw [e]
      exact se_var (by rw [c.hN]; exact h1) (c.vis _ h2) h4 h5
    · cases h
  | .k v, sc, x, h => by
    rw [chkE.eq_def] at h; dsimp only at h
    unfold chkK at h
    have e : ∀ (M : Mo) v, evE M (.k v) = fun _ S => ret1 v S := fun M v => by funext ρ S; simp only [evE]
    split at h
    · split at h
      · exact snd_plain (fun c => by rw [e]; exact se_dat pe_non fun H => .non) fun _ _ => rfl
      · cases h
    · split at h
      · have := of_decide_eq_true h
        subst this
        exact snd_plain (fun c => by rw [e]; exact se_dat pe_bl fun H => .bl _) fun _ _ => rfl
      · cases h
    · split at h
      · have := of_decide_eq_true h
        subst this
        exact snd_plain (fun c => by rw [e]; exact se_dat pe_int fun H => .int _) fun _ _ => rfl
      · cases h
    · split at h
      · simp only [Bool.and_eq_true, decide_eq_true_eq, List.all_eq_true] at h
        obtain ⟨⟨rfl, h2⟩, h3⟩ := h
        exact snd_plain (fun c => by rw [e]; exact se_dat pe_str fun H => .str _ ⟨h2, h3⟩) fun _ _ => rfl
      · cases h
    · cases h
  | .g i, sc, x, h => by
    rw [chkE.eq_def] at h; dsimp only at h
    split at h
    · simp only [Bool.and_eq_true, decide_eq_true_eq] at h
      obtain ⟨⟨h1, h2⟩, h3⟩ := h
      refine snd_plain (fun {X k M W} c => ?_) fun _ _ => rfl
      obtain ⟨y, u, v, g1, g2, g3, g4⟩ := c.gls _ _ h1
      have e : evE M (.g i) = fun _ S => ret1 y S := by funext ρ S; simp only [evE, g1]
      rw [e]
      exact se_dat (pe_glob (c.glb _ h2) g2 g3 (noDbg_of h3).1) g4
    · cases h
  | .gd t n e, sc, x, h => by
    rw [chkE.eq_def] at h; dsimp only at h
    split at h
    · simp only [Bool.and_eq_true, decide_eq_true_eq] at h
      obtain ⟨⟨⟨⟨h1, h2⟩, h3⟩, h4⟩, h5⟩ := h
      have q := sndE e sc _ h5
      refine snd_plain (fun {X k M W} c => ?_) fun _ _ => rfl
      obtain ⟨p, g1, g2⟩ := c.gds _ _ (List.mem_of_getElem? h2)
      have e' : evE M (.gd t n e) = fun ρ S => (evE M e ρ S).bind fun d S => match d with
        | .p (.str z) => (match t.lookup z with
          | some x => ret1 x S
          | none => .stuck)
        | _ => .stuck := by funext ρ S; rw [evE] <;> rfl
      rw [e']
      exact se_gd h1 (pe_glob (c.glb _ h3) g1 (show RelV (.ref p) (.ref p) from rfl) (noDbg_of h4).1) g2 (q c).1
    · cases h
  | .tp es, sc, x, h => by
    rw [chkE.eq_def] at h; dsimp only at h
    split at h
    · simp only [Bool.and_eq_true, decide_eq_true_eq] at h
      obtain ⟨_, q⟩ := sndEs es sc _ h.2
      refine snd_plain (fun {X k M W} c => ?_) fun _ _ => rfl
      obtain ⟨q1, _, q3⟩ := q c
      have e : evE M (.tp es) = fun ρ S => (evEs M es ρ S).bind fun ds S => .ok (mkT ds) S := by funext ρ S; simp only [evE]
      rw [e]
      exact se_tup h.1 q1 q3
    · cases h
  | .ls es, sc, x, h => by
    rw [chkE.eq_def] at h; dsimp only at h
    split at h
    · simp only [Bool.and_eq_true, decide_eq_true_eq] at h
      obtain ⟨_, q⟩ := sndEs es sc _ h.2
      refine snd_plain (fun {X k M W} c => ?_) fun _ _ => rfl
      obtain ⟨q1, _, q3⟩ := q c
      have e : evE M (.ls es) = fun ρ S => (evEs M es ρ S).bind fun ds S => new (mkL ds) S := by funext ρ S; simp only [evE]
      rw [e]
      exact se_lst h.1 q1 q3
    · cases h
  | .dead, sc, x, h => by
    intro X k M W c
    have e : evE M .dead = fun _ _ => .stuck := by funext ρ S; simp only [evE]
    rw [e]
    exact ⟨⟨fun pins s σ H Q I ⟨m, ρ, S, rn, rs, h⟩ => h.elim⟩, ⟨fun pins s σ H Q I ⟨m, ρ, S, rn, rs, h⟩ => h.elim⟩⟩
  | .d0, sc, x, h => by
    rw [chkE.eq_def] at h; dsimp only at h
    split at h
    · refine snd_plain (fun {X k M W} c => ?_) fun _ _ => rfl
      have e : evE M .d0 = fun _ S => new (.dc []) S := by funext ρ S; simp only [evE]
      rw [e]
      exact pe_dnewK.imp fun σ H Q ⟨m, ρ, S, rn, rs, hp⟩ p hn => hp _ _ _ (.new hn) (rs.new hn (.dc upd_same .nil) rfl) (.ref (by rw [← rs.len]; simp))
    · cases h
  | .bin op a b, sc, x, h => by
    rw [chkE.eq_def] at h; dsimp only at h
    split at h
    · simp only [Bool.and_eq_true, decide_eq_true_eq] at h
      obtain ⟨⟨rfl, h1⟩, h2⟩ := h
      have qa := sndE a sc _ h1
      have qb := sndE b sc _ h2
      refine snd_plain (fun {X k M W} c => ?_) fun _ _ => rfl
      have e : evE M (.bin op a b) = fun ρ S => (evE M a ρ S).bind fun x S => (evE M b ρ S).bind fun y S => binI op x y S := by funext ρ S; simp only [evE]
      rw [e]
      exact se_bin (qa c).1 (qb c).1
    · cases h
  | .neg a, sc, x, h => by
    rw [chkE.eq_def] at h; dsimp only at h
    split at h
    · have qa := sndE a sc _ h
      refine snd_plain (fun {X k M W} c => ?_) fun _ _ => rfl
      have e : evE M (.neg a) = fun ρ S => (evE M a ρ S).bind negI := by funext ρ S; simp only [evE]
      rw [e]
      exact se_neg (qa c).1
    · cases h
  | .no a, sc, x, h => by
    rw [chkE.eq_def] at h; dsimp only at h
    split at h
    · have qa := sndE a sc _ h
      intro X k M W c
      have e : evE M (.no a) = fun ρ S => (evE M a ρ S).bind fun x S => (truI x S).bind fun k S => ret1 (.bl (!k)) S := by funext ρ S; simp only [evE]
      rw [e]
      exact ⟨se_not (qa c).1, st_not (qa c).2⟩
    · cases h
  | .cmp op a b, sc, x, h => by
    rw [chkE.eq_def] at h; dsimp only at h
    split at h
    · simp only [Bool.and_eq_true, decide_eq_true_eq] at h
      obtain ⟨⟨⟨rfl, h0⟩, h1⟩, h2⟩ := h
      have qa := sndE a sc _ h1
      have qb := sndE b sc _ h2
      intro X k M W c
      have e : evE M (.cmp op a b) = fun ρ S => (evE M a ρ S).bind fun x S => (evE M b ρ S).bind fun y S => cmpI op x y S := by funext ρ S; simp only [evE]
      rw [e]
      exact ⟨se_cmp c.u65 (behind_of h0) (qa c).1 (qb c).1, st_cmp c.u65 (behind_of h0) (qa c).1 (qb c).1⟩
    · cases h
  | .chn o1 o2 a b d, sc, x, h => by
    rw [chkE.eq_def] at h; dsimp only at h
    split at h
    · simp only [Bool.and_eq_true, decide_eq_true_eq] at h
      obtain ⟨⟨⟨⟨⟨⟨rfl, rfl⟩, _⟩, h0⟩, h1⟩, h2⟩, h3⟩ := h
      have qa := sndE a sc _ h1
      have qb := sndE b sc _ h2
      have qd := sndE d sc _ h3
      intro X k M W c
      have e : evE M (.chn o1 o2 a b d) = chnF o1 o2 (evE M a) (evE M b) (evE M d) := by funext ρ S; simp only [evE, chnF]
      rw [e]
      exact ⟨se_chn c.u65 (last_of h0) (qa c).1 (qb c).1 (qd c).1, st_chn c.u65 (last_of h0) (qa c).1 (qb c).1 (qd c).1⟩
    · cases h
  | .bo o es, sc, x, h => by
    rw [chkE.eq_def] at h; dsimp only at h
    split at h
    · simp only [Bool.and_eq_true, decide_eq_true_eq] at h
      obtain ⟨rfl, h1⟩ := h
      obtain ⟨_, q⟩ := sndEs es sc _ h1
      intro X k M W c
      have e : evE M (.bo o es) = evB M o es := by funext ρ S; simp only [evE]
      rw [e]
      obtain ⟨_, q2, _⟩ := q c
      obtain ⟨q3, q4⟩ := q2 o _ (by simp)
      exact ⟨q3, q4.pt⟩
    · cases h
  | .ife d a b, sc, x, h => by
    rw [chkE.eq_def] at h; dsimp only at h
    split at h
    · simp only [Bool.and_eq_true] at h
      have qd := sndE d sc _ h.1.1
      have qa := sndE a sc _ h.1.2
      have qb := sndE b sc _ h.2
      intro X k M W c
      have e : evE M (.ife d a b) = ifeF (evE M d) (evE M a) (evE M b) := by funext ρ S; simp only [evE, ifeF]
      rw [e]
      exact ⟨se_ife (qd c).2 (qa c).1 (qb c).1, st_ife (qd c).2 (qa c).2 (qb c).2⟩
    · cases h
  | .ix a i, sc, x, h => by
    rw [chkE.eq_def] at h; dsimp only at h
    split at h
    · simp only [Bool.and_eq_true] at h
      have qa := sndE a sc _ h.1.2
      have qb := sndE i sc _ h.2
      refine snd_plain (fun {X k M W} c => ?_) fun _ _ => rfl
      have e : evE M (.ix a i) = fun ρ S => (evE M a ρ S).bind fun x S => (evE M i ρ S).bind fun y S => ixI x y S := by funext ρ S; simp only [evE]
      rw [e]
      exact se_ix h.1.1 (qa c).1 (qb c).1
    · cases h
  | .slN a, sc, x, h => by
    rw [chkE.eq_def] at h; dsimp only at h
    split at h
    · have qa := sndE a sc _ h
      refine snd_plain (fun {X k M W} c => ?_) fun _ _ => rfl
      have e : evE M (.slN a) = fun ρ S => (evE M a ρ S).bind fun x S => slI x none none S := by funext ρ S; simp only [evE]
      rw [e]
      exact se_slN (qa c).1
    · cases h
  | .slL a b, sc, x, h => by
    rw [chkE.eq_def] at h; dsimp only at h
    split at h
    · simp only [Bool.and_eq_true] at h
      have qa := sndE a sc _ h.1
      have qb := sndE b sc _ h.2
      refine snd_plain (fun {X k M W} c => ?_) fun _ _ => rfl
      have e : evE M (.slL a b) = fun ρ S => (evE M a ρ S).bind fun x S => (evE M b ρ S).bind fun l S => asInt l S fun i => slI x (some i) none S := by funext ρ S; simp only [evE]
      rw [e]
      exact se_slL (qa c).1 (qb c).1
    · cases h
  | .slH a b, sc, x, h => by
    rw [chkE.eq_def] at h; dsimp only at h
    split at h
    · simp only [Bool.and_eq_true] at h
      have qa := sndE a sc _ h.1
      have qb := sndE b sc _ h.2
      refine snd_plain (fun {X k M W} c => ?_) fun _ _ => rfl
      have e : evE M (.slH a b) = fun ρ S => (evE M a ρ S).bind fun x S => (evE M b ρ S).bind fun l S => asInt l S fun i => slI x none (some i) S := by funext ρ S; simp only [evE]
      rw [e]
      exact se_slH (qa c).1 (qb c).1
    · cases h
  | .sl a b d, sc, x, h => by
    rw [chkE.eq_def] at h; dsimp only at h
    split at h
    · simp only [Bool.and_eq_true] at h
      have qa := sndE a sc _ h.1.1
      have qb := sndE b sc _ h.1.2
      have qd := sndE d sc _ h.2
      refine snd_plain (fun {X k M W} c => ?_) fun _ _ => rfl
      have e : evE M (.sl a b d) = fun ρ S => (evE M a ρ S).bind fun x S => (evE M b ρ S).bind fun l S => asInt l S fun i => (evE M d ρ S).bind fun l S => asInt l S fun j => slI x (some i) (some j) S := by funext ρ S; simp only [evE]
      rw [e]
      exact se_sl (qa c).1 (qb c).1 (qd c).1
    · cases h
  | .fld i f, sc, x, h => by
    rw [chkE.eq_def] at h; dsimp only at h
    split at h
    · simp only [Bool.and_eq_true, decide_eq_true_eq] at h
      obtain ⟨⟨⟨⟨⟨h1, h2⟩, h3⟩, rfl⟩, h4⟩, h5⟩ := h
      refine snd_plain (fun {X k M W} c => ?_) fun _ _ => rfl
      obtain ⟨a, d, cc, g1, g2, g3⟩ := c.hotX h5
      exact se_fld g1 g2 h4 (by rw [c.hN]; exact h1) (c.vis _ h2) (noDbg_of h3).1 (noDbg_of h3).2 g3
    · cases h
  | .isx i cs, sc, x, h => by
    rw [chkE.eq_def] at h; dsimp only at h
    split at h
    · simp only [Bool.and_eq_true, decide_eq_true_eq] at h
      obtain ⟨⟨⟨⟨⟨⟨rfl, h0⟩, h1⟩, h2⟩, h3⟩, h5⟩, h6⟩ := h
      refine snd_plain (fun {X k M W} c => ?_) fun _ _ => rfl
      obtain ⟨a, d, cc, g1, g2, g3⟩ := c.hotX h5
      split at h6
      · split at h6
        · obtain ⟨n1, n2⟩ := clsB_of c h6
          exact se_isx1 g1 g2 n2 n1 (c.glb _ h0) (c.blt _ (by decide +kernel)) (by rw [c.hN]; exact h1) (c.vis _ h2) (noDbg_of h3).1 (noDbg_of h3).2 g3
        · cases h6
      · simp only [Bool.and_eq_true, decide_eq_true_eq] at h6
        obtain ⟨l, e1, e2, e3⟩ := clssB_of c h6.2
        subst e1 e2
        exact se_isxT g1 g2 (fun q hq => (e3 q hq).2) (fun q hq => (e3 q hq).1) (by have := h6.1; rwa [List.length_map] at this) (c.glb _ h0) (c.blt _ (by decide +kernel)) (by rw [c.hN]; exact h1) (c.vis _ h2) (noDbg_of h3).1 (noDbg_of h3).2 g3
      · cases h6
    · cases h
  | .at cn a f, sc, x, h => by
    rw [chkE.eq_def] at h; dsimp only at h
    split at h
    · simp only [Bool.and_eq_true, decide_eq_true_eq] at h
      obtain ⟨⟨⟨rfl, h1⟩, h2⟩, h3⟩ := h
      obtain ⟨fl, ms, hq, hf⟩ := ocB_of h1
      have qa := sndE a sc _ h3
      refine snd_plain (fun {X k M W} c => ?_) fun _ _ => rfl
      obtain ⟨C, o, _⟩ := c.ocs _ _ _ hq
      have e : evE M (.at cn a f) = fun ρ S => (evE M a ρ S).bind fun x S => fldO cn f x S := by funext ρ S; simp only [evE]
      rw [e]
      exact se_at o (by simpa using hf) (attr_base h2) (qa c).1
    · cases h
  | .mk cn fi es, sc, x, h => by
    rw [chkE.eq_def] at h; dsimp only at h
    split at h
    · rename_i xs _
      simp only [Bool.and_eq_true, decide_eq_true_eq] at h
      obtain ⟨⟨⟨⟨⟨rfl, h1⟩, h2⟩, h3⟩, h4⟩, hh⟩ := h
      have hh := hot_of hh
      obtain ⟨fl, ms, hq, hf⟩ := ocB_of h3
      obtain ⟨p, q⟩ := sndEs es sc _ h4
      refine snd_plain (fun {X k M W} c => ?_) fun _ _ => rfl
      obtain ⟨C, o, r⟩ := c.ocs _ _ _ hq
      obtain ⟨fa, fd, ps, g0, F, g3, g4, g5⟩ := r _ _ (by simpa using hf)
      obtain ⟨q1, _, _⟩ := q c
      have e : evE M (.mk cn fi es) = mkF cn (M.call fi) (evEs M es) := by funext ρ S; simp only [evE, mkF]
      rw [e]
      cases xs with
      | nil =>
        cases es with
        | nil =>
          have e2 : evEs M .nil = fun _ S => .ok [] S := by funext ρ S; simp only [evEs]
          rw [e2]
          exact se_mk0 o (g5 rfl) F (c.room1 hh) (c.glb _ h1) g3 c.tk g4 (noDbg_of h2).1
        | cons e es => rw [chkEs.eq_def] at h4; cases h4
      | cons y ys => exact se_mk o (g5 rfl) F (c.room1 hh) (c.glb _ h1) g3 c.tk g4 (noDbg_of h2).1 p q1
    · cases h
  | .mcl cn mn fi a es, sc, x, h => by
    rw [chkE.eq_def] at h; dsimp only at h
    split at h
    · rename_i xs _
      simp only [Bool.and_eq_true, decide_eq_true_eq] at h
      obtain ⟨⟨⟨⟨⟨⟨⟨rfl, h1⟩, h2⟩, h3⟩, h4⟩, h5⟩, h6⟩, hh⟩ := h
      have hh := hot_of hh
      obtain ⟨fl, ms, hq, hf⟩ := ocB_of h4
      have qa := sndE a sc _ h5
      obtain ⟨p, q⟩ := sndEs es sc _ h6
      refine snd_plain (fun {X k M W} c => ?_) fun _ _ => rfl
      obtain ⟨C, o, r⟩ := c.ocs _ _ _ hq
      obtain ⟨fa, fd, ps, g0, F, g3, g4, g5⟩ := r _ _ (by simpa using hf)
      obtain ⟨q1, _, _⟩ := q c
      have e : evE M (.mcl cn mn fi a es) = mclF cn mn (M.call fi) (evE M a) (evEs M es) := by funext ρ S; simp only [evE, mclF]
      rw [e]
      cases xs with
      | nil =>
        cases es with
        | nil =>
          have e2 : evEs M .nil = fun _ S => .ok [] S := by funext ρ S; simp only [evEs]
          rw [e2]
          exact se_mcl0 o g0 F (c.room hh) g3 c.tk g4 (attr_base h1) h2 (qa c).1
        | cons e es => rw [chkEs.eq_def] at h6; cases h6
      | cons y ys => exact se_mcl o g0 F (c.room hh) g3 c.tk g4 (attr_base h1) h2 p h3 (qa c).1 q1
    · cases h
  | .call f es, sc, x, h => by
    rw [chkE.eq_def] at h; dsimp only at h
    split at h
    · rename_i xs _
      simp only [Bool.and_eq_true, decide_eq_true_eq] at h
      obtain ⟨⟨⟨⟨h1, h2⟩, h3⟩, h4⟩, hh⟩ := h
      have hh := hot_of hh
      obtain ⟨p, q⟩ := sndEs es sc _ h4
      refine snd_plain (fun {X k M W} c => ?_) fun _ _ => rfl
      obtain ⟨fa, fd, ps, F, g1, g2, g3, g4⟩ := c.fns _ _ h1 h3
      obtain ⟨q1, _, _⟩ := q c
      have e : evE M (.call f es) = fun ρ S => (evEs M es ρ S).bind fun ds S => M.call f ds S := by funext ρ S; simp only [evE]
      rw [e]
      cases xs with
      | nil =>
        cases es with
        | nil =>
          have e2 : (fun ρ S => (evEs M .nil ρ S).bind fun ds S => M.call f ds S) = fun (_ : Nv) (S : Sto) => M.call f [] S := by funext ρ S; simp only [evEs, Res.bind]
          rw [e2]
          exact se_call0 F (c.room hh) (c.glb _ h2) g1 g2 g3 c.tk g4 (noDbg_of h3).1
        | cons e es => rw [chkEs.eq_def] at h4; cases h4
      | cons y ys => exact se_call F (c.room hh) (c.glb _ h2) g1 g2 g3 c.tk g4 (noDbg_of h3).1 p q1
    · cases h
  | .blt b es, sc, x, h => by
    rw [chkE.eq_def] at h; dsimp only at h
    split at h
    · simp only [Bool.and_eq_true, decide_eq_true_eq] at h
      obtain ⟨⟨⟨⟨rfl, h2⟩, h3⟩, h4⟩, hh⟩ := h
      have hh := hot_of hh
      obtain ⟨p, q⟩ := sndEs es sc _ h4
      refine snd_plain (fun {X k M W} c => ?_) fun _ _ => rfl
      obtain ⟨q1, _, _⟩ := q c
      have e : evE M (.blt b es) = fun ρ S => (evEs M es ρ S).bind fun ds S => bltI b ds S := by funext ρ S; simp only [evE]
      rw [e]
      exact se_blt (c.calm hh) c.u100 (c.glb _ h3) (c.blt _ h2) p q1
    · cases h
  | .isi a t, sc, x, h => by
    rw [chkE.eq_def] at h; dsimp only at h
    split at h
    · simp only [Bool.and_eq_true, decide_eq_true_eq] at h
      obtain ⟨⟨⟨⟨⟨⟨rfl, rfl⟩, h1⟩, h2⟩, h3⟩, h4⟩, h5⟩ := h
      have qa := sndE a sc _ h5
      refine snd_plain (fun {X k M W} c => ?_) fun _ _ => rfl
      have e : evE M (.isi a t) = fun ρ S => (evE M a ρ S).bind fun x S => if known x S then ret1 (.bl (isTy x S t)) S else .stuck := by funext ρ S; simp only [evE]
      rw [e]
      exact se_isi h4 (c.glb _ h2) (c.blt _ (by decide +kernel)) (c.glb _ h3) (c.blt _ h1) (qa c).1
    · cases h
  | .isT a ts, sc, x, h => by
    rw [chkE.eq_def] at h; dsimp only at h
    split at h
    · simp only [Bool.and_eq_true, decide_eq_true_eq] at h
      obtain ⟨⟨⟨⟨⟨rfl, h1⟩, h2⟩, h3⟩, h4⟩, h5⟩ := h
      have qa := sndE a sc _ h5
      obtain ⟨l, rfl, rfl, e3⟩ := tys_of h4
      refine snd_plain (fun {X k M W} c => ?_) fun _ _ => rfl
      have e : evE M (.isT a (l.map (·.1))) = fun ρ S => (evE M a ρ S).bind fun x S => if known x S then ret1 (.bl ((l.map (·.1)).any (isTy x S))) S else .stuck := by funext ρ S; simp only [evE]
      rw [e]
      exact se_isT (by simpa using h3) h2 (c.glb _ h1) (c.blt _ (by decide +kernel)) (fun t ht => ⟨c.glb _ (e3 t ht).2, c.blt _ (e3 t ht).1⟩) (qa c).1
    · cases h
  | .mth mt a es, sc, x, h => by
    rw [chkE.eq_def] at h; dsimp only at h
    split at h
    · rename_i xs _
      simp only [Bool.and_eq_true, decide_eq_true_eq] at h
      obtain ⟨⟨⟨⟨⟨rfl, h1⟩, h2⟩, h3⟩, h4⟩, h5⟩ := h
      have qa := sndE a sc _ h4
      obtain ⟨p, q⟩ := sndEs es sc _ h5
      refine snd_plain (fun {X k M W} c => ?_) fun _ _ => rfl
      obtain ⟨q1, _, _⟩ := q c
      have e : evE M (.mth mt a es) = mthF mt (evE M a) (evEs M es) := by funext ρ S; simp only [evE, mthF]
      rw [e]
      cases xs with
      | nil =>
        cases es with
        | nil =>
          have e2 : evEs M .nil = fun _ S => .ok [] S := by funext ρ S; simp only [evEs]
          rw [e2]
          exact se_mth0 (attr_base h1) h2 (qa c).1
        | cons e es => rw [chkEs.eq_def] at h5; cases h5
      | cons y ys => exact se_mth (attr_base h1) h2 p h3 (qa c).1 q1
    · cases h
  | .lc own tg it elt, sc, x, h => by
    rw [chkE.eq_def] at h; dsimp only at h
    split at h
    · simp only [Bool.and_eq_true, decide_eq_true_eq] at h
      obtain ⟨⟨⟨⟨⟨⟨⟨rfl, h0⟩, h1⟩, h2⟩, h3⟩, h4⟩, h5⟩, hh⟩ := h
      have hh := hot_of hh
      have qi := sndW it sc _ h4
      have qe := sndE elt _ _ h5
      refine snd_plain (fun {X k M W} c => ?_) fun _ _ => rfl
      obtain ⟨p1, p2, p3, p4⟩ := lc_parts c hh h1 h2 h3 qi qe
      rw [evE_lc]
      refine (pe_lc (tt := tYes) (c.calm hh) (by rw [c.hN]; exact c.nd) p2 p1 p3 (fun _ _ _ _ _ => pts_nil) p4 (fold_of h0)).imp fun σ H Q ⟨m, ρ, S, rn, rs, hp⟩ => ?_
      rw [ownOf_snd]
      have := lc_of (X := X) h2 rn rs hp
      obtain ⟨m1, ρ1, S1, a1, a2, a3⟩ := this
      refine ⟨m1, ρ1, S1, a1, a2, ?_⟩
      split at a3
      · intro m2 H2 J e2 rs2 ok D0 hD0
        obtain ⟨Wi, w1, w2⟩ := a3 m2 H2 J e2 rs2 ok D0 hD0
        refine ⟨Wi, w1, fun i mm H hw => ?_⟩
        rcases w2 i mm H hw with z | ⟨z1, Nx, z2, z3⟩
        · exact .inl z
        · refine .inr ⟨z1, Nx, z2, fun x H' hy => ?_⟩
          obtain ⟨m3, ρ3, S3, d3, b1, b2, b3, b4⟩ := z3 x H' hy
          refine ⟨m3, ρ3, S3, d3, b1, b2, b3, ?_⟩
          split at b4
          · intro σ4 r4 g4
            obtain ⟨t1, t2⟩ := b4 σ4 r4 g4
            exact ⟨t1, yes_of t2⟩
          · exact b4
      · exact a3
      · exact a3
    · cases h
  | .lcI own tg it d elt, sc, x, h => by
    rw [chkE.eq_def] at h; dsimp only at h
    split at h
    · simp only [Bool.and_eq_true, decide_eq_true_eq] at h
      obtain ⟨⟨⟨⟨⟨⟨⟨⟨rfl, h0⟩, h1⟩, h2⟩, h3⟩, h4⟩, h6⟩, h5⟩, hh⟩ := h
      have hh := hot_of hh
      have qi := sndW it sc _ h4
      have qe := sndE elt _ _ h5
      have qd := sndE d _ _ h6
      refine snd_plain (fun {X k M W} c => ?_) fun _ _ => rfl
      obtain ⟨p1, p2, p3, p4⟩ := lc_parts c hh h1 h2 h3 qi qe
      rw [evE_lcI]
      refine (pe_lc (tt := tB cA X.K W0 (tK (evE M d))) (c.calm hh) (by rw [c.hN]; exact c.nd) p2 p1 p3 (fun s H C cl fp => pts_one (qd (c.blk hh s H C cl fp)).2) p4 (fold_of h0)).imp fun σ H Q ⟨m, ρ, S, rn, rs, hp⟩ => ?_
      rw [ownOf_snd]
      exact lc_of (X := X) h2 rn rs hp
    · cases h
theorem sndEs : ∀ (es : Es) (sc : Scope) (xs : List Expr), chkEs T N es sc xs = true → SndA cA T N es sc xs
  | .nil, sc, xs, h => by
    rw [chkEs.eq_def] at h; dsimp only at h
    cases xs with
    | nil =>
      refine ⟨rfl, fun X k M W c => ⟨?_, fun o pos h => absurd rfl h, fun ρ S ds S' h => by simp only [evEs] at h; cases h; rfl⟩⟩
      have e : evEs M .nil = fun _ S => .ok [] S := by funext ρ S; simp only [evEs]
      rw [e]
      exact sa_nil
    | cons x xs => cases h
  | .cons e es, sc, xs, h => by
    rw [chkEs.eq_def] at h; dsimp only at h
    split at h
    · rename_i x xs
      simp only [Bool.and_eq_true] at h
      have q := sndE e sc x h.1.2
      obtain ⟨p, r⟩ := sndEs es sc xs h.2
      refine ⟨by simp [h.1.1, p], fun X k M W c => ?_⟩
      obtain ⟨r1, r2, r3⟩ := r c
      obtain ⟨q1, q2⟩ := q c
      refine ⟨?_, fun o pos _ => ?_, fun ρ S ds S' h => ?_⟩
      · have e1 : evEs M (.cons e es) = fun ρ S => (evE M e ρ S).bind fun d S => (evEs M es ρ S).bind fun ds S => .ok (d :: ds) S := by funext ρ S; simp only [evEs]
        rw [e1]
        exact sa_cons h.1.1 q1 r1
      · cases es with
        | nil =>
          cases xs with
          | nil =>
            have e1 : evB M o (.cons e .nil) = evE M e := by funext ρ S; simp only [evB]
            rw [e1]
            exact ⟨se_bo_one q1, sw_bo_one q2⟩
          | cons y ys => have := h.2; rw [chkEs.eq_def] at this; cases this
        | cons e2 es =>
          cases xs with
          | nil => have := h.2; rw [chkEs.eq_def] at this; cases this
          | cons y ys =>
            have e1 : evB M o (.cons e (.cons e2 es)) = boF o (evE M e) (evB M o (.cons e2 es)) := by
              funext ρ S
              simp only [evB, boF] <;> congr 1
            rw [e1]
            obtain ⟨r4, r5⟩ := r2 o pos (by simp)
            exact ⟨se_bo_cons q1 r4, sw_bo_cons q2 r5⟩
      · simp only [evEs] at h
        obtain ⟨d, S1, _, h⟩ := Res.bind_ok h
        obtain ⟨ds', S2, h2, h⟩ := Res.bind_ok h
        cases h
        simp [r3 _ _ _ _ h2]
    · cases h
theorem sndW : ∀ (it : PH.W) (sc : Scope) (x : Expr), chkW T N it sc x = true → SndW cA T N it sc x
  | .of e, sc, x, h => by
    rw [chkW.eq_def] at h; dsimp only at h
    have q := sndE e sc x h
    intro X k M W c tg
    have e1 : evW M (.of e) = fun ρ S => (evE M e ρ S).bind wkOf := by funext ρ S; simp only [evW]
    rw [e1]
    exact sw_of (q c).1
  | .rg1 a, sc, x, h => by
    rw [chkW.eq_def] at h; dsimp only at h
    split at h
    · simp only [Bool.and_eq_true, decide_eq_true_eq] at h
      obtain ⟨⟨⟨rfl, h1⟩, h2⟩, h3⟩ := h
      have q := sndE a sc _ h3
      intro X k M W c tg
      have e1 : evW M (.rg1 a) = rg1F (evE M a) := by funext ρ S; simp only [evW, rg1F] <;> congr 1
      rw [e1]
      exact sw_rg1 h2 (c.glb _ h1) (c.blt _ (by decide +kernel)) (q c).1
    · cases h
  | .rgL a, sc, x, h => by
    rw [chkW.eq_def] at h; dsimp only at h
    split at h
    · simp only [Bool.and_eq_true, decide_eq_true_eq] at h
      obtain ⟨⟨⟨⟨⟨⟨rfl, rfl⟩, h1⟩, h2⟩, h3⟩, h4⟩, hh⟩ := h
      have hh := hot_of hh
      have q := sndE a sc _ h4
      intro X k M W c tg
      have e1 : evW M (.rgL a) = rgLF (evE M a) := by funext ρ S; simp only [evW, rgLF] <;> congr 1
      rw [e1]
      exact sw_rgL (c.calm hh) c.u100 h3 (c.glb _ h1) (c.blt _ (by decide +kernel)) (c.glb _ h2) (c.blt _ (by decide +kernel)) (q c).1
    · cases h
  | .rg2 a b, sc, x, h => by
    rw [chkW.eq_def] at h; dsimp only at h
    split at h
    · simp only [Bool.and_eq_true, decide_eq_true_eq] at h
      obtain ⟨⟨⟨⟨⟨rfl, h1⟩, h2⟩, h3⟩, h4⟩, h5⟩ := h
      have qa := sndE a sc _ h4
      have qb := sndE b sc _ h5
      intro X k M W c tg
      have e1 : evW M (.rg2 a b) = rg2F (evE M a) (evE M b) := by funext ρ S; simp only [evW, rg2F] <;> congr 1
      rw [e1]
      exact sw_rg2 h2 h3 (c.glb _ h1) (c.blt _ (by decide +kernel)) (qa c).1 (qb c).1
    · cases h
end
end
end PH

set_option maxHeartbeats 8000000
/-! PH, part M: statements that fit; a def's call; all defs at all depths. -/
namespace PH
open L2 PySem PySem.Spec PyProof.Rows
section
variable {cA : Ca} {T : Tab} {N : List Str} {X : Cx} {σ : L2.St} {H : Hp} {Q : VK} {M : Mo} {W : WX}
theorem lcR {own : List Nat} {tg : Tg} {it : PH.W} {elt : E} (h2 : ∀ j ∈ tg.sl, j ∈ own) (h : tR cA X.K W (evE M (.lc own tg it elt)) σ H Q) :
    tLc (tW cA X.K W (evW M it)) (tG X.K tg) tYes (tR cA X.K W0 (evE M elt)) ((ownOf N own).map (·.2)) σ H Q := by
  rw [evE_lc] at h
  obtain ⟨m, ρ, S, rn, rs, hp⟩ := h
  rw [ownOf_snd]
  have := lc_of (X := X) h2 rn rs hp
  obtain ⟨m1, ρ1, S1, a1, a2, a3⟩ := this
  refine ⟨m1, ρ1, S1, a1, a2, ?_⟩
  split at a3
  · intro m2 H2 J e2 rs2 ok D0 hD0
    obtain ⟨Wi, w1, w2⟩ := a3 m2 H2 J e2 rs2 ok D0 hD0
    refine ⟨Wi, w1, fun i mm H hw => ?_⟩
    rcases w2 i mm H hw with z | ⟨z1, Nx, z2, z3⟩
    · exact .inl z
    · refine .inr ⟨z1, Nx, z2, fun x H' hy => ?_⟩
      obtain ⟨m3, ρ3, S3, d3, b1, b2, b3, b4⟩ := z3 x H' hy
      refine ⟨m3, ρ3, S3, d3, b1, b2, b3, ?_⟩
      split at b4
      · intro σ4 r4 g4
        obtain ⟨t1, t2⟩ := b4 σ4 r4 g4
        exact ⟨t1, yes_of t2⟩
      · exact b4
  · exact a3
  · exact a3
theorem lcIR {own : List Nat} {tg : Tg} {it : PH.W} {d elt : E} (h2 : ∀ j ∈ tg.sl, j ∈ own) (h : tR cA X.K W (evE M (.lcI own tg it d elt)) σ H Q) :
    tLc (tW cA X.K W (evW M it)) (tG X.K tg) (tB cA X.K W0 (tK (evE M d))) (tR cA X.K W0 (evE M elt)) ((ownOf N own).map (·.2)) σ H Q := by
  rw [evE_lcI] at h
  obtain ⟨m, ρ, S, rn, rs, hp⟩ := h
  rw [ownOf_snd]
  exact lc_of (X := X) h2 rn rs hp
theorem asg_lc {i : Nat} {f : Nv → Sto → Res D} {D : Ends} (h : tC cA X.K W (asgF (.nm i) f) D σ H) : tR cA X.K W f σ H (fun x H1 => gName i x σ H1 D.nx) := by
  obtain ⟨m, ρ, S, rn, rs, h⟩ := h
  refine ⟨m, ρ, S, rn, rs, (PostC.out rn h).imp fun v H1 ⟨m1, d, S1, _, e1, rs1, rd1, h1⟩ => ?_⟩
  obtain ⟨m2, ρ2, S2, d2, r2, r3, r4, h2⟩ := asg_of (tg := .nm i) (W := W) (cA := cA) (T := D) (rn.ext e1) rs1 rd1 h1
  exact h2 _ (r2.set r4 i) ⟨by simp, fun j hj => List.getElem?_set_ne (fun z => hj (by simp [Tg.sl, z]))⟩
end
section
variable {cA : Ca} {T : Tab} {N : List Str}
def SndC (cA : Ca) (T : Tab) (N : List Str) (c : C) (sc : Scope) (st : Stmt) : Prop := ∀ ⦃X : Cx⦄ ⦃k : Nat⦄ ⦃M : Mo⦄ ⦃W : WX⦄, Cok cA T N sc X k M W → X.env.scope = sc → (X.stack = X.env :: X.outer ∧ X.env.frame = some X.env.locals) → PS X st (tC cA X.K W (evC M c))
def SndCz (cA : Ca) (T : Tab) (N : List Str) (c : Cz) (sc : Scope) (ss : List Stmt) : Prop := ∀ ⦃X : Cx⦄ ⦃k : Nat⦄ ⦃M : Mo⦄ ⦃W : WX⦄, Cok cA T N sc X k M W → X.env.scope = sc → (X.stack = X.env :: X.outer ∧ X.env.frame = some X.env.locals) → PSs X ss (tC cA X.K W (evCz M c))
theorem evC_asg (M : Mo) (tg : Tg) (e : E) : evC M (.asg tg e) = asgF tg (evE M e) := by funext ρ S; simp only [evC, asgF] <;> congr 1
/-- a comprehension put into a local -/
theorem snd_setLc {tg : Tg} {e : E} {sc : Scope} {n : Str} {q p pos : Pos} {x : Expr} {gs : List Comprehension} {scope : Scope} (ht : chkT N sc tg (.Name n q) = true) (hl : sc.names.lookup n = some .local) (hk : sc.kind = .function) (hq : (q.line == p.line) = true)
    (hn : (scope.names.any fun (m, k) => m == n && (k == .local || k == .cell)) = false) (h : chkE T N e sc (.ListComp x gs scope p) = true) : SndC cA T N (.asg tg e) sc (.Assign [.Name n q] (.ListComp x gs scope p) pos) := by
  intro X k M W c hsc hst
  rw [evC_asg]
  cases tg with
  | tp ts => rw [chkT.eq_def] at ht; cases ht
  | nm i =>
    rw [chkT.eq_def] at ht; dsimp only at ht
    simp only [Bool.and_eq_true, decide_eq_true_eq] at ht
    have hN : X.N[i]? = some n := by rw [c.hN]; exact ht.1
    have hl' : X.env.scope.names.lookup n = some .local := by rw [hsc]; exact hl
    have sw : ∀ l, swapsWith (.ListComp x gs scope p) (some (.Name n q)) l X.env = pure true := fun l => sw_true (by rw [hsc]; exact hk) hl' hq hn
    cases e with
    | lc own tg it elt =>
      rw [chkE.eq_def] at h; dsimp only at h
      split at h
      · rename_i heq
        injection heq with e1 e2 e3 e4
        subst e1 e3 e4
        simp only [Bool.and_eq_true, decide_eq_true_eq] at h
        obtain ⟨⟨⟨⟨⟨⟨⟨rfl, h0⟩, h1⟩, h2⟩, h3⟩, h4⟩, h5⟩, hh⟩ := h
        have hh := hot_of hh
        subst e2
        obtain ⟨p1, p2, p3, p4⟩ := lc_parts c hh h1 h2 h3 (sndW it sc _ h4) (sndE elt _ _ h5)
        exact (ps_setLc (tt := tYes) (c.calm hh) (by rw [c.hN]; exact c.nd) hN hl' (sw _) p2 p1 p3 (fun _ _ _ _ _ => pts_nil) p4 (fold_of h0)).imp fun D σ H z => lcR h2 (asg_lc z)
      · cases h
    | lcI own tg it d elt =>
      rw [chkE.eq_def] at h; dsimp only at h
      split at h
      · rename_i heq
        injection heq with e1 e2 e3 e4
        subst e1 e3 e4
        simp only [Bool.and_eq_true, decide_eq_true_eq] at h
        obtain ⟨⟨⟨⟨⟨⟨⟨⟨rfl, h0⟩, h1⟩, h2⟩, h3⟩, h4⟩, h6⟩, h5⟩, hh⟩ := h
        have hh := hot_of hh
        subst e2
        obtain ⟨p1, p2, p3, p4⟩ := lc_parts c hh h1 h2 h3 (sndW it sc _ h4) (sndE elt _ _ h5)
        exact (ps_setLc (tt := tB cA X.K W0 (tK (evE M d))) (c.calm hh) (by rw [c.hN]; exact c.nd) hN hl' (sw _) p2 p1 p3 (fun s H C cl fp => pts_one (sndE d _ _ h6 (c.blk hh s H C cl fp)).2) p4 (fold_of h0)).imp fun D σ H z => lcIR h2 (asg_lc z)
      · cases h
    | dead => exact ⟨fun pins s σ H D I ⟨m, ρ, S, rn, rs, h⟩ => by unfold asgF at h; rw [evE] at h; exact h.elim⟩
    | k v => rw [chkE.eq_def] at h; dsimp only at h; unfold chkK at h; cases v <;> cases h
    | _ => rw [chkE.eq_def] at h; cases h
theorem okAsg_name {sc : Scope} {n : Str} {q : Pos} {x : Expr} {env : Env} {l : Nat} (h : okAsg sc (.Name n q) x = true) (hsc : env.scope = sc) :
    (swapsWithSole [.Name n q] x l env = pure false ∧ swappedStores [.Name n q] x env = pure none) ∨ ∃ e gs scope p, x = .ListComp e gs scope p ∧ sc.names.lookup n = some .local ∧ sc.kind = .function ∧ (q.line == p.line) = true ∧ (scope.names.any fun (m, k) => m == n && (k == .local || k == .cell)) = false := by
  cases x with
  | ListComp e gs scope p =>
    by_cases hl : sc.names.lookup n = some .local
    · refine .inr ⟨e, gs, scope, p, rfl, hl, ?_⟩
      simp only [okAsg, hl, Bool.and_eq_true, Bool.not_eq_true'] at h
      obtain ⟨⟨h1, h2⟩, h3⟩ := h
      refine ⟨?_, h2, h3⟩
      split at h1
      · assumption
      · cases h1
    · refine .inl ⟨?_, rfl⟩
      have hk : (env.kindOf n == some .local) = false := by
        have : env.kindOf n = sc.names.lookup n := by rw [← hsc]; rfl
        rw [this]
        cases q : sc.names.lookup n with
        | none => rfl
        | some k => cases k <;> first | rfl | exact absurd q hl
      unfold swapsWithSole swapsWith
      simp only [hk, Bool.and_false, Bool.false_and]
  | SetComp => cases h
  | DictComp => cases h
  | _ => exact .inl ⟨rfl, rfl⟩
theorem okAsg_tup {sc : Scope} {es : List Expr} {kk : Nat} {q : Pos} {x : Expr} {env : Env} {l : Nat} (h : okAsg sc (.Tuple es kk q) x = true) :
    swapsWithSole [.Tuple es kk q] x l env = pure false ∧ swappedStores [.Tuple es kk q] x env = pure none := by
  cases x with
  | ListComp => cases h
  | SetComp => cases h
  | DictComp => cases h
  | Tuple => cases h
  | _ => exact ⟨rfl, rfl⟩
theorem sub_sw {o i x : Expr} {q : Pos} {env : Env} {l : Nat} : swapsWithSole [.Subscript o i q] x l env = pure false ∧ swappedStores [.Subscript o i q] x env = pure none := by
  cases x <;> exact ⟨rfl, rfl⟩
theorem ex_sw {x : Expr} {env : Env} {l : Nat} (h : notComp x = true) : swapsWith x none l env = pure false := by
  cases x <;> first | rfl | cases h
theorem kn_of {c : Nat} {kn : List Nat} (h : knB T kn = true) (hc : c ∈ kn) : T.gl.length ≤ XC ∧ c < 1000 ∧ ∃ n fs, (n, c, fs) ∈ T.cl := by
  unfold knB at h
  simp only [Bool.and_eq_true, decide_eq_true_eq, List.all_eq_true] at h
  obtain ⟨h1, h2⟩ := h
  obtain ⟨h3, h4⟩ := h2 c hc
  obtain ⟨q, hq, e⟩ := List.mem_map.mp h4
  obtain ⟨n, c', fs⟩ := q
  dsimp only at e
  subst e
  exact ⟨h1, h3, n, fs, hq⟩
theorem Cok.cat {sc : Scope} {X : Cx} {k : Nat} {M : Mo} {W : WX} {kn : List Nat} {c : Nat} (co : Cok cA T N sc X k M W) (h : knB T kn = true) (hc : c ∈ kn) : CatOk cA X.K T.fl T.ids c := by
  obtain ⟨_, h2, n, fs, hq⟩ := kn_of h hc
  exact ((co.cls _ _ _ hq).2 h2).2
theorem at_sw {o x : Expr} {f : Str} {q : Pos} {env : Env} {l : Nat} (h : notComp x = true) : swapsWith x (some (.Attribute o f q)) l env = pure false := by
  cases x <;> first | rfl | cases h
theorem Cok.tr {sc : Scope} {X : Cx} {k : Nat} {M : Mo} {W W' : WX} {pn : List (Addr × Obj)} {xe : Value → Shared → Prop} (c : Cok cA T N sc X k M W) (hh : T.hot = false) (tk : Takes (X.tr pn xe) W') (po : PassesOwn (model X.prog X.w) X.A X.env xe) : Cok cA T N sc (X.tr pn xe) k M W' where
  calm := c.calm
  room := c.room
  room1 := c.room1
  ocs := fun cn fl ms h => let ⟨C, o, r⟩ := c.ocs cn fl ms h; ⟨C, ⟨o.at_, o.mg, o.cl, o.no⟩, r⟩
  two := c.two
  un := c.un
  tk := tk
  po := po
  hN := c.hN
  nd := c.nd
  vis := c.vis
  loc := c.loc
  glb := c.glb
  cap := c.cap
  blt := c.blt
  fns := c.fns
  gls := c.gls
  gds := c.gds
  cls := c.cls
  hotX := fun z => by rw [hh] at z; cases z
theorem Cok.suite {sc : Scope} {X : Cx} {k : Nat} {M : Mo} {W : WX} {kn : List Nat} {a d c : Nat} {oe : Obj} {pn : List (Addr × Obj)} (co : Cok cA T N sc X k M W) (h : knB T kn = true) (hc : c ∈ kn) (hz : Zc (.ref (cA c)) (some d) oe) (hv : ∃ vs, oe.data = .fields vs) : Cok cA T.in N sc (X.suite a ((a, oe) :: pn)) k (M.at a d c) W0 where
  calm := fun z => by cases z
  room := fun z => by cases z
  room1 := fun z => by cases z
  ocs := fun cn fl ms h => let ⟨C, o, r⟩ := co.ocs cn fl ms h; ⟨C, ⟨o.at_, o.mg, o.cl, o.no⟩, r⟩
  two := co.two
  un := co.un
  tk := takes0
  po := PassesOwn.never
  hN := co.hN
  nd := co.nd
  vis := co.vis
  loc := co.loc
  glb := co.glb
  cap := co.cap
  blt := co.blt
  fns := co.fns
  gls := fun i n hi => by
    have hl : i < T.gl.length := (List.getElem?_eq_some_iff.mp hi).1
    have hx := (kn_of h hc).1
    obtain ⟨x, u, v, g1, g2⟩ := co.gls i n hi
    exact ⟨x, u, v, by unfold Mo.at; dsimp only; rw [if_neg (by omega)]; exact g1, g2⟩
  gds := co.gds
  cls := co.cls
  hotX := fun _ => ⟨a, d, c, ⟨X, oe, pn, rfl, hz, hv⟩, co.cat h hc, mo_at M a d c⟩
mutual
theorem sndC (T : Tab) : ∀ (s : C) (sc : Scope) (st : Stmt), chkC N T sc s st = true → SndC cA T N s sc st
  | .ret e, sc, st, h => by
    rw [chkC.eq_def] at h; dsimp only at h
    split at h
    · have q := sndE (cA := cA) e sc _ h
      intro X k M W c hsc hst
      have e1 : evC M (.ret e) = fun ρ S => (evE M e ρ S).out ρ .rt := by funext ρ S; simp only [evC]
      rw [e1]
      exact ss_ret (q c).1
    · cases h
  | .retN, sc, st, h => by
    rw [chkC.eq_def] at h; dsimp only at h
    split at h
    · intro X k M W c hsc hst
      have e1 : evC M .retN = fun ρ S => .rt (.p .non) S := by funext ρ S; simp only [evC]
      rw [e1]
      exact ss_retN
    · cases h
  | .dead, sc, st, h => by
    intro X k M W c hsc hst
    have e1 : evC M .dead = fun _ _ => .stuck := by funext ρ S; simp only [evC]
    rw [e1]
    exact ⟨fun pins s σ H T I ⟨m, ρ, S, rn, rs, h⟩ => h.elim⟩
  | .unl ts e, sc, st, h => by
    rw [chkC.eq_def] at h; dsimp only at h
    split at h
    · rename_i es kk q x pos
      simp only [Bool.and_eq_true, decide_eq_true_eq, Bool.not_eq_true'] at h
      obtain ⟨⟨⟨h1, h2⟩, h3⟩, hh⟩ := h
      have q := sndE (cA := cA) e sc _ h3
      intro X k M W c hsc hst
      have e1 : evC M (.unl ts e) = unlF ts (evE M e) := by funext ρ S; simp only [evC, unlF] <;> congr 1
      rw [e1]
      obtain ⟨p1, p2, p3⟩ := snd_Ts c hh ts _ h1
      obtain ⟨a1, a2⟩ := okAsg_tup (env := X.env) (l := pos.line) h2
      exact ss_unl (c.calm hh) (q c).1 p1 p2 p3 a1 a2
    · cases h
  | .rse cc fs es, sc, st, h => by
    rw [chkC.eq_def] at h; dsimp only at h
    split at h
    · simp only [Bool.and_eq_true, decide_eq_true_eq, Bool.not_eq_true'] at h
      obtain ⟨⟨⟨⟨⟨h1, h2⟩, h3⟩, h4⟩, h5⟩, hh⟩ := h
      obtain ⟨p, q⟩ := sndEs (cA := cA) es sc _ h5
      intro X k M W c hsc hst
      have e1 : evC M (.rse cc fs es) = fun ρ S => (evEs M es ρ S).out ρ fun ds S => if ds.length = fs.length then .exc ⟨cc, fs.zip ds⟩ ρ S else .stuck := by funext ρ S; simp only [evC]
      rw [e1]
      exact ss_rse (c.calm hh) c.tk ((c.room hh).mono c.two) ((c.cls _ _ _ h3).2 h4).1 (c.glb _ h1) h2 p (q c).1
    · cases h
  | .trx body kn c' i suite, sc, st, h => by
    rw [chkC.eq_def] at h; dsimp only at h
    split at h
    · simp only [Bool.and_eq_true, decide_eq_true_eq, Bool.not_eq_true'] at h
      obtain ⟨⟨⟨⟨⟨⟨⟨h1, h2⟩, h3⟩, h4⟩, h5⟩, h6⟩, h7⟩, hh⟩ := h
      have qb := sndCz T body sc _ h6
      have qs := sndCz T.in suite sc _ h7
      intro X k M W c hsc hst
      have e1 : evC M (.trx body kn c' i suite) = trxF kn c' i (evCz M body) (fun a d c => evCz (M.at a d c) suite) := by funext ρ S; simp only [evC]
      rw [e1]
      obtain ⟨⟨n1, n2, n3⟩, n4⟩ := clsB_of c h3
      exact ss_trx hst.1 hst.2 (by rw [c.hN]; exact c.nd) (by rw [c.hN]; exact h1) (by show X.env.scope.names.lookup _ = _; rw [hsc]; exact h2) ⟨n1, n2, .inl (n3.elim (fun z => z.2) fun z => absurd z.1 h4)⟩ c.tk (fun q hq => c.cat h5 hq) (n4.resolve_right h4)
        (fun W' pn xe tk po => qb (c.tr hh tk po) hsc hst) (fun a d q oe pn hq hz hv => qs (c.suite h5 hq hz hv) hsc hst)
    · cases h
  | .try0 body kn c' suite, sc, st, h => by
    rw [chkC.eq_def] at h; dsimp only at h
    split at h
    · simp only [Bool.and_eq_true, decide_eq_true_eq, Bool.not_eq_true'] at h
      obtain ⟨⟨⟨⟨⟨h3, h4⟩, h5⟩, h6⟩, h7⟩, hh⟩ := h
      have qb := sndCz T body sc _ h6
      have qs := sndCz T.in suite sc _ h7
      intro X k M W c hsc hst
      have e1 : evC M (.try0 body kn c' suite) = try0F kn c' (evCz M body) (fun a d c => evCz (M.at a d c) suite) := by funext ρ S; simp only [evC]
      rw [e1]
      obtain ⟨⟨n1, n2, n3⟩, n4⟩ := clsB_of c h3
      exact ss_try0 hst.1 hst.2 ⟨n1, n2, .inl (n3.elim (fun z => z.2) fun z => absurd z.1 h4)⟩ c.tk (fun q hq => c.cat h5 hq) (n4.resolve_right h4)
        (fun W' pn xe tk po => qb (c.tr hh tk po) hsc hst) (fun a d q oe pn hq hz hv => qs (c.suite h5 hq hz hv) hsc hst)
    · cases h
  | .pas, sc, st, h => by
    rw [chkC.eq_def] at h; dsimp only at h
    split at h
    · intro X k M W c hsc hst
      have e1 : evC M .pas = fun ρ S => .nx ρ S := by funext ρ S; simp only [evC]
      rw [e1]
      exact ss_pas
    · cases h
  | .brk, sc, st, h => by
    rw [chkC.eq_def] at h; dsimp only at h
    split at h
    · intro X k M W c hsc hst
      have e1 : evC M .brk = fun ρ S => .bk ρ S := by funext ρ S; simp only [evC]
      rw [e1]
      exact ss_brk
    · cases h
  | .cnt, sc, st, h => by
    rw [chkC.eq_def] at h; dsimp only at h
    split at h
    · intro X k M W c hsc hst
      have e1 : evC M .cnt = fun ρ S => .ct ρ S := by funext ρ S; simp only [evC]
      rw [e1]
      exact ss_cnt
    · cases h
  | .asg tg e, sc, st, h => by
    rw [chkC.eq_def] at h; dsimp only at h
    split at h
    · rename_i t x pos
      simp only [Bool.and_eq_true] at h
      obtain ⟨⟨⟨⟨h1, h2⟩, h3⟩, h4⟩, hh⟩ := h
      have hh : T.hot = false ∨ nmB tg = true := by
        rcases (Bool.or_eq_true _ _).mp hh with z | z
        · exact .inl (hot_of z)
        · exact .inr z
      have q := sndE (cA := cA) e sc _ h4
      cases t with
      | Name n np =>
        intro X k M W c hsc hst
        rcases okAsg_name (l := pos.line) h2 hsc with ⟨a1, a2⟩ | ⟨e', gs, scope, p, rfl, b1, b2, b3, b4⟩
        · rw [evC_asg]
          exact ss_asg (q c).1 (snd_T c tg _ h3 hh) h1 a1 a2
        · exact snd_setLc h3 b1 b2 b3 b4 h4 c hsc hst
      | Tuple es kk p =>
        intro X k M W c hsc hst
        rw [evC_asg]
        obtain ⟨a1, a2⟩ := okAsg_tup (env := X.env) (l := pos.line) h2
        exact ss_asg (q c).1 (snd_T c tg _ h3 hh) h1 a1 a2
      | _ => cases tg <;> rw [chkT.eq_def] at h3 <;> cases h3
    · cases h
  | .sat cn a f e, sc, st, h => by
    rw [chkC.eq_def] at h; dsimp only at h
    split at h
    · simp only [Bool.and_eq_true, decide_eq_true_eq] at h
      obtain ⟨⟨⟨⟨rfl, h1⟩, h2⟩, h3⟩, h4⟩ := h
      obtain ⟨fl, ms, hq, hf⟩ := ocB_of h1
      have qa := sndE (cA := cA) a sc _ h3
      have qe := sndE (cA := cA) e sc _ h4
      intro X k M W c hsc hst
      obtain ⟨C, o, _⟩ := c.ocs _ _ _ hq
      have e1 : evC M (.sat cn a f e) = fun ρ S => (evE M e ρ S).out ρ fun y S => (evE M a ρ S).out ρ fun x S => match setO cn f x y S with
        | some S' => .nx ρ S'
        | none => .stuck := by funext ρ S; simp only [evC] <;> congr 1
      rw [e1]
      exact ss_sat o (by simpa using hf) (qa c).1 (qe c).1 (at_sw h2)
    · cases h
  | .sub a i e, sc, st, h => by
    rw [chkC.eq_def] at h; dsimp only at h
    split at h
    · simp only [Bool.and_eq_true] at h
      obtain ⟨⟨⟨h1, h2⟩, h3⟩, h4⟩ := h
      have qa := sndE (cA := cA) a sc _ h2
      have qi := sndE (cA := cA) i sc _ h3
      have qe := sndE (cA := cA) e sc _ h4
      intro X k M W c hsc hst
      have e1 : evC M (.sub a i e) = fun ρ S => (evE M e ρ S).out ρ fun y S => (evE M a ρ S).out ρ fun x S => (evE M i ρ S).out ρ fun k S => match subI x k y S with
        | some S' => .nx ρ S'
        | none => .stuck := by funext ρ S; simp only [evC] <;> congr 1
      rw [e1]
      exact ss_sub (qe c).1 (qa c).1 (qi c).1 h1 sub_sw.1 (sub_sw (l := 0)).2
    · cases h
  | .ex e, sc, st, h => by
    rw [chkC.eq_def] at h; dsimp only at h
    split at h
    · simp only [Bool.and_eq_true] at h
      have q := sndE (cA := cA) e sc _ h.2
      intro X k M W c hsc hst
      have e1 : evC M (.ex e) = fun ρ S => (evE M e ρ S).out ρ fun _ S => .nx ρ S := by funext ρ S; simp only [evC]
      rw [e1]
      exact ss_ex (q c).1 (ex_sw h.1)
    · cases h
  | .ite d t f, sc, st, h => by
    rw [chkC.eq_def] at h; dsimp only at h
    split at h
    · simp only [Bool.and_eq_true] at h
      have q := sndE (cA := cA) d sc _ h.1.1
      have qt := sndCz T t sc _ h.1.2
      have qf := sndCz T f sc _ h.2
      intro X k M W c hsc hst
      have e1 : evC M (.ite d t f) = iteF (evE M d) (evCz M t) (evCz M f) := by funext ρ S; simp only [evC, iteF, evT]; rfl
      rw [e1]
      exact ss_if (q c).2 (qt c hsc hst) (qf c hsc hst)
    · cases h
  | .forr tg it body, sc, st, h => by
    rw [chkC.eq_def] at h; dsimp only at h
    split at h
    · simp only [Bool.and_eq_true] at h
      obtain ⟨⟨⟨⟨h1, h2⟩, h3⟩, h4⟩, hh⟩ := h
      have hh := hot_of hh
      have qi := sndW (cA := cA) it sc _ h3
      have qb := sndCz T body sc _ h4
      intro X k M W c hsc hst
      have e1 : evC M (.forr tg it body) = forF tg (evW M it) (evCz M body) := by funext ρ S; simp only [evC, forF]
      rw [e1]
      exact ss_for c.po (c.calm hh) (qi c _) (snd_T c tg _ h2 (.inl hh)) (qb c hsc hst) (fold_of h1)
    · cases h
  | .whl d body, sc, st, h => by
    rw [chkC.eq_def] at h; dsimp only at h
    split at h
    · simp only [Bool.and_eq_true] at h
      have q := sndE (cA := cA) d sc _ h.1
      have qb := sndCz T body sc _ h.2
      intro X k M W c hsc hst
      have e1 : evC M (.whl d body) = whlI (tK (evE M d)) (evCz M body) := by funext ρ S; simp only [evC]; rfl
      rw [e1]
      exact ss_whl c.po (q c).2 (qb c hsc hst)
    · cases h
theorem sndCz (T : Tab) : ∀ (s : Cz) (sc : Scope) (ss : List Stmt), chkCz N T sc s ss = true → SndCz cA T N s sc ss
  | .nil, sc, ss, h => by
    rw [chkCz.eq_def] at h; dsimp only at h
    cases ss with
    | nil =>
      intro X k M W c hsc hst
      have e1 : evCz M .nil = fun ρ S => .nx ρ S := by funext ρ S; simp only [evCz]
      rw [e1]
      exact ss_nil
    | cons x xs => cases h
  | .cons s cs, sc, ss, h => by
    rw [chkCz.eq_def] at h; dsimp only at h
    split at h
    · simp only [Bool.and_eq_true] at h
      have q := sndC T s sc _ h.1
      have qs := sndCz T cs sc _ h.2
      intro X k M W c hsc hst
      have e1 : evCz M (.cons s cs) = fun ρ S => (evC M s ρ S).seq (evCz M cs) := by funext ρ S; simp only [evCz]
      rw [e1]
      exact ss_cons (q c hsc hst) (qs c hsc hst)
    · cases h
end
end

/-! ### what a call leaves -/
section
variable {cA : Ca} {K : Fg} {H H' : Hp} {m t : List Addr} {S S' : Sto} {W : WX} {Q : VK}
mutual
theorem RelD.low {n : Nat} (hn : m.length = n) : ∀ {d : D} {v : V}, RelD K H (m ++ t) d v → d.bel n = true → RelD K H m d v
  | _, _, .p h, _ => .p h
  | _, _, .ref (n := j) h, b => .ref (by
      have : j < m.length := by simpa [D.bel, hn] using b
      rw [List.getElem?_append_left this] at h; exact h)
  | _, _, .mt h r, b => .mt h (RelDs.low hn r (by simpa [D.bel] using b))
  | _, _, .xv h r, _ => .xv h r
theorem RelDs.low {n : Nat} (hn : m.length = n) : ∀ {d : List D} {v : List V}, RelDs K H (m ++ t) d v → D.bels n d = true → RelDs K H m d v
  | _, _, .nil, _ => .nil
  | _, _, .cons h r, b => by
    simp only [D.bels, Bool.and_eq_true] at b
    exact .cons (RelD.low hn h b.1) (RelDs.low hn r b.2)
end
mutual
theorem RelD.bel : ∀ {d : D} {v : V}, RelD K H m d v → d.bel m.length = true
  | _, _, .p h => rfl
  | _, _, .ref (n := j) h => by simp [D.bel, (List.getElem?_eq_some_iff.mp h).1]
  | _, _, .mt h r => by simp [D.bel, RelDs.bels r]
  | _, _, .xv h r => rfl
theorem RelDs.bels : ∀ {d : List D} {v : List V}, RelDs K H m d v → D.bels m.length d = true
  | _, _, .nil => rfl
  | _, _, .cons h r => by simp [D.bels, RelD.bel h, RelDs.bels r]
end
theorem RelKs.bels : ∀ {kvs : List (PD × D)} {us : List (L2.Key × V)}, RelKs K H m kvs us → D.bels m.length (kvs.map (·.2)) = true
  | _, _, .nil => rfl
  | _, _, .cons _ h r => by simp only [List.map_cons, D.bels, h.bel, r.bels, Bool.and_true]
theorem RelKs.low {n : Nat} (hn : m.length = n) : ∀ {kvs : List (PD × D)} {us : List (L2.Key × V)}, RelKs K H (m ++ t) kvs us → D.bels n (kvs.map (·.2)) = true → RelKs K H m kvs us
  | _, _, .nil, _ => .nil
  | _, _, .cons hk h r, b => by
    simp only [List.map_cons, D.bels, Bool.and_eq_true] at b
    exact .cons hk (h.low hn b.1) (RelKs.low hn r b.2)
theorem RelFs.bels : ∀ {fs : List (String × D)} {vs : List (Str × V)}, RelFs K H m fs vs → D.bels m.length (fs.map (·.2)) = true
  | _, _, .nil => rfl
  | _, _, .cons h r => by simp only [List.map_cons, D.bels, h.bel, r.bels, Bool.and_true]
theorem RelFs.low {n : Nat} (hn : m.length = n) : ∀ {fs : List (String × D)} {vs : List (Str × V)}, RelFs K H (m ++ t) fs vs → D.bels n (fs.map (·.2)) = true → RelFs K H m fs vs
  | _, _, .nil, _ => .nil
  | _, _, .cons h r, b => by
    simp only [List.map_cons, D.bels, Bool.and_eq_true] at b
    exact .cons (h.low hn b.1) (RelFs.low hn r b.2)
theorem RelS.bel (R : RelS K H m S) : S.all (O.bel m.length) = true := by
  rw [List.all_eq_true]
  intro o ho
  obtain ⟨n, hn⟩ := List.getElem?_of_mem ho
  obtain ⟨a, _, r⟩ := R.ob n o hn
  cases r with
  | pl _ _ => rfl
  | fz _ _ => rfl
  | ml _ r => exact r.bels
  | dc _ r => exact r.bels
  | ob _ _ r => exact r.bels
theorem RelS.cut (R : RelS K H (m ++ t) S) (hb : (S.take m.length).all (O.bel m.length) = true) : RelS K H m (S.take m.length) := by
  have hlen : (m ++ t).length = S.length := R.len
  refine ⟨by simp at hlen ⊢; omega, fun n o e => ?_, fun i j a o u hi hj e1 e2 m1 m2 => ?_⟩
  · rw [List.getElem?_take] at e
    split at e
    · rename_i hn
      obtain ⟨a, ea, r⟩ := R.ob n o e
      rw [List.getElem?_append_left hn] at ea
      refine ⟨a, ea, ?_⟩
      cases r with
      | pl h r => exact .pl h r
      | fz h r => exact .fz h r
      | ml h r =>
        refine .ml h (r.low rfl ?_)
        have : O.ml _ ∈ S.take m.length := List.mem_of_getElem? (i := n) (by rw [List.getElem?_take, if_pos hn]; exact e)
        exact List.all_eq_true.mp hb _ this
      | dc h r =>
        refine .dc h (r.low rfl ?_)
        have : O.dc _ ∈ S.take m.length := List.mem_of_getElem? (i := n) (by rw [List.getElem?_take, if_pos hn]; exact e)
        exact List.all_eq_true.mp hb _ this
      | ob h cl r =>
        refine .ob h cl (r.low rfl ?_)
        have : O.ob _ _ ∈ S.take m.length := List.mem_of_getElem? (i := n) (by rw [List.getElem?_take, if_pos hn]; exact e)
        exact List.all_eq_true.mp hb _ this
    · cases e
  · rw [List.getElem?_take] at e1 e2
    split at e1 <;> split at e2 <;> first | cases e1 | cases e2 | skip
    exact R.inj i j a o u (pre_get hi) (pre_get hj) e1 e2 m1 m2
theorem Ext.cut (e : Ext K H m H' (m ++ t)) : Ext K H m H' m := ⟨e.kp, [], by simp⟩
theorem RelS.put1 (R : RelS K H (m ++ t) S) (hb : (S.take m.length).all (O.bel m.length) = true) {j : Nat} {a : Addr} {xs : List PD} (hj : m.length ≤ j) (ha : (m ++ t)[j]? = some a) (ho : S[j]? = some (.pl xs)) : RelS K H (m ++ [a]) (S.take m.length ++ [.pl xs]) := by
  have C := R.cut hb
  have hl : (S.take m.length).length = m.length := C.len.symm
  obtain ⟨b, eb, rb⟩ := R.ob j _ ho
  rw [ha] at eb; cases eb
  have cs : ∀ {n : Nat} {q : O}, (S.take m.length ++ [.pl xs])[n]? = some q → (n < m.length ∧ (S.take m.length)[n]? = some q) ∨ (n = m.length ∧ q = .pl xs) := fun {n q} e => by
    rw [List.getElem?_append] at e
    split at e
    · exact .inl ⟨by omega, e⟩
    · rename_i hn
      rcases Nat.lt_or_ge m.length n with h1 | h1
      · have : n - (S.take m.length).length ≠ 0 := by omega
        rw [List.getElem?_singleton, if_neg this] at e; cases e
      · have e1 : n = m.length := by omega
        subst e1
        rw [hl] at e
        simp at e
        exact .inr ⟨rfl, e.symm⟩
  have up : ∀ {n : Nat} {q : O}, n < m.length → (S.take m.length)[n]? = some q → S[n]? = some q := fun {n q} hn e => by
    rw [List.getElem?_take, if_pos hn] at e; exact e
  refine ⟨by rw [List.length_append, List.length_append, hl]; rfl, fun n o e => ?_, fun i k b o u hi hk e1 e2 m1 m2 => ?_⟩
  · rcases cs e with ⟨hn, e⟩ | ⟨rfl, rfl⟩
    · obtain ⟨c, ec, r⟩ := C.ob n o e
      refine ⟨c, pre_get ec, ?_⟩
      cases r with
      | pl h r => exact .pl h r
      | fz h r => exact .fz h r
      | ml h r => exact .ml h (r.mono .refl _)
      | dc h r => exact .dc h (r.mono .refl _)
      | ob h cl r => exact .ob h cl (r.mono .refl _)
    · refine ⟨a, by simp, ?_⟩
      cases rb with
      | pl h r => exact .pl h r
  · rcases cs e1 with ⟨h1, e1⟩ | ⟨rfl, rfl⟩ <;> rcases cs e2 with ⟨h2, e2⟩ | ⟨rfl, rfl⟩
    · rw [List.getElem?_append_left h1] at hi
      rw [List.getElem?_append_left h2] at hk
      exact C.inj i k b o u hi hk e1 e2 m1 m2
    · rw [List.getElem?_append_left h1] at hi
      simp at hk
      subst hk
      have := R.inj i j a o _ (pre_get hi) ha (up h1 e1) ho m1 rfl
      omega
    · rw [List.getElem?_append_left h2] at hk
      simp at hi
      subst hi
      have := R.inj k j a u _ (pre_get hk) ha (up h2 e2) ho m2 rfl
      omega
    · rfl
theorem tidy_bel (R : RelS K H m S) (h : S'.take S.length = S ∨ (S'.take S.length).all (O.bel S.length) = true) : (S'.take m.length).all (O.bel m.length) = true := by
  rw [R.len]
  rcases h with h | h
  · rw [h, ← R.len]; exact R.bel
  · exact h
theorem tidy_ok {m' : List Addr} {d : D} {v : V} (R : RelS K H m S) (hp : Post cA K m H [] W (tidy S S' d) Q) (e : Ext K H m H' m') (R' : RelS K H' m' S') (rd : RelD K H' m' d v) : Q v H' := by
  unfold tidy at hp
  split at hp
  · rename_i hc
    obtain ⟨t, rfl⟩ := e.pre
    have hb := tidy_bel R hc
    have C := R'.cut hb
    rw [← R.len] at hp
    cases d with
    | p x => cases rd with
      | p h => exact hp m H' v e.cut C (.p h)
    | ref j =>
      simp only at hp
      split at hp
      · rename_i hj
        exact hp m H' v e.cut C (rd.low rfl (by simp [D.bel, hj]))
      · rename_i hj
        cases rd with
        | ref hd =>
        split at hp
        · rename_i xs ho
          have hl : (S'.take m.length).length = m.length := C.len.symm
          refine hp (m ++ [_]) H' _ ⟨e.kp, _, rfl⟩ (R'.put1 hb (by omega) hd ho) (.ref ?_)
          rw [hl]; simp
        · exact hp _ H' _ e R' (.ref hd)
    | mt xs => exact hp _ H' v e R' rd
    | xv _ _ _ _ => exact hp _ H' v e R' rd
  · exact hp _ H' v e R' rd
theorem lookup_all {α : Type} {p : String × α → Bool} : ∀ {l : List (String × α)} {f : String} {y : α}, l.all p = true → l.lookup f = some y → ∃ g, p (g, y) = true
  | [], _, _, _, h => by simp at h
  | (g, z) :: l, f, y, ha, h => by
    simp only [List.all_cons, Bool.and_eq_true] at ha
    rw [List.lookup_cons] at h
    split at h
    · cases h; exact ⟨g, ha.1⟩
    · exact lookup_all ha.2 h
theorem tidyX_ok {m' : List Addr} {x : Ex} {c : Value} {dx : Option Addr} (R : RelS K H m S) (hp : Post cA K m H [] W (tidyX S S' x) Q) (e : Ext K H m H' m') (R' : RelS K H' m' S') (rx : RelX cA K H' m' x c dx) : W c dx [] H' := by
  unfold tidyX at hp
  split at hp
  · rename_i hc
    obtain ⟨t, rfl⟩ := e.pre
    have hb := tidy_bel R hc.1
    have C := R'.cut hb
    rw [← R.len] at hp
    refine hp m H' c dx e.cut C ?_
    obtain ⟨h1, d, fs, h2, h3, h4⟩ := rx
    refine ⟨h1, d, fs, h2, h3, fun f y hy => ?_⟩
    obtain ⟨v, h5, h6⟩ := h4 f y hy
    obtain ⟨g, hg⟩ := lookup_all hc.2 hy
    exact ⟨v, h5, h6.low rfl (by rw [R.len]; exact hg)⟩
  · exact hp _ H' c dx e R' rx
end

/-! ### a table of defs -/
/-- a def of the text -/
structure Ent where
  nm : Str
  st : Stmt
  N : List Str
  ps : List Str
  df : Df
  /-- for a method: its class -/
  cls : String := ""
  qual : Str := nm
/-- the name under which it is called -/
def Ent.top (e : Ent) : Str := if e.cls = "" then e.nm else "__debug__"
def fnB (N ps : List Str) (sc : Scope) : Bool :=
  (match sc.kind with | .function => true | _ => false) && (!sc.isCoroutine) && (!sc.isGenerator) && decide N.Nodup && decide (N.take ps.length = ps) && (ps.all fun x => locB sc x) && sc.names.all fun y => (match y.2 with | .free => false | _ => true)
theorem fnB_of {N ps : List Str} {sc : Scope} (h : fnB N ps sc = true) : FnScope N ps sc := by
  unfold fnB at h
  simp only [Bool.and_eq_true, decide_eq_true_eq, List.all_eq_true, Bool.not_eq_true'] at h
  obtain ⟨⟨⟨⟨⟨⟨h1, h2⟩, h3⟩, h4⟩, h5⟩, h6⟩, h7⟩ := h
  refine ⟨?_, h2, h3, h4, h5, fun x hx => ?_, fun y hy e => ?_⟩
  · split at h1
    · assumption
    · cases h1
  · obtain ⟨k, h8, h9⟩ := locB_of (h6 x hx)
    rcases h9 with rfl | rfl
    · exact .inl h8
    · exact .inr h8
  · have := h7 y hy
    rw [e] at this
    cases this
def Ent.chk (T : Tab) (e : Ent) : Bool := fnB e.N e.ps (defScope e.st) && decide (e.df.np = e.ps.length) && decide (e.df.n = e.N.length) && chkCz e.N T (defScope e.st) e.df.body (defBody e.st)
theorem rel_start {K : Fg} {H : Hp} {m : List Addr} {ds : List D} {vs : List V} (h : RelDs K H m ds vs) (n : Nat) : RelN K H m (ds.map some ++ List.replicate n none) (vs.map some ++ List.replicate n none) := by
  refine ⟨by simp [h.length], fun i d e => ?_⟩
  rw [List.getElem?_append] at e
  split at e
  · rename_i hi
    rw [List.getElem?_map] at e
    obtain ⟨d', e1, e2⟩ := Option.map_eq_some_iff.mp e
    cases e2
    obtain ⟨v, e3, r⟩ := h.get e1
    refine ⟨v, ?_, r⟩
    rw [List.getElem?_append_left (by rw [List.length_map, ← h.length]; simpa using hi), List.getElem?_map, e3]
    rfl
  · rw [List.getElem?_replicate] at e
    split at e <;> cases e
section
variable {P : Program} {w : World} {K : Fg} {mg : Str → Option Value} {base : Heap} {cA : Ca} {T : Tab} {ents : List Ent} {gl : Nat → Option PD}
def dfs (ents : List Ent) (f : Nat) : Option Df := (ents[f]?).map (·.df)
theorem call_len (hchk : ents.all (Ent.chk T) = true) (k : Nat) {g : Nat} {e' : Ent} (he' : ents[g]? = some e') : ∀ ds S, ds.length ≠ e'.ps.length → callI (dfs ents) gl k g ds S = .stuck := fun ds S hne => by
  have hc' := List.all_eq_true.mp hchk e' (List.mem_of_getElem? he')
  simp only [Ent.chk, Bool.and_eq_true, decide_eq_true_eq] at hc'
  cases k with
  | zero => rfl
  | succ k =>
    show callI (dfs ents) gl (k + 1) g ds S = .stuck
    unfold callI
    simp only [dfs, he', Option.map_some]
    rw [if_neg]
    rw [hc'.1.1.2]; exact hne
def OcIn (K : Fg) (mg : Str → Option Value) (ents : List Ent) (c : String) (fl : List String) (ms : List (String × Nat)) : Prop := ∃ C, ClsAt K C c ∧ mg (Str.ofString c) = some (.ref C) ∧ Cls K C ∧ (∀ f ∈ fl, NoAttr K C (Str.ofString f)) ∧ ∀ mn fi, (mn, fi) ∈ ms → ∃ (e : Ent) (fa : Addr) (fd : FuncData) (qual : Str), ents[fi]? = some e ∧ Fun K e.nm qual e.st fa fd ∧ Binds K fd e.ps [] ∧ Meth K C (Str.ofString mn) fa ∧ (mn = "__init__" → Mk K C fa)
theorem level (hn : T.fn = ents.map Ent.top) (hfun : ∀ e ∈ ents, ∃ fa fd qual, Fun K e.nm qual e.st fa fd ∧ (e.cls = "" → mg e.nm = some (.ref fa)) ∧ Binds K fd e.ps []) (hchk : ents.all (Ent.chk T) = true) (hblt : ∀ n ∈ bltNames, mg n = none)
    (hgl : ∀ (i : Nat) n, T.gl[i]? = some n → ∃ x u v, gl i = some x ∧ mg n = some u ∧ RelV v u ∧ ∀ H, RelP K H x v) (hgd : ∀ n t, (n, t) ∈ T.gd → ∃ p : Addr, mg n = some (.ref p) ∧ ∀ z x, t.lookup z = some x → ∃ v, KDct K w p (mkS z) v ∧ ∀ H, RelP K H x v) (hcls : ∀ n c fs, (n, c, fs) ∈ T.cl → mg n = some (.ref (cA c)) ∧ (c < 1000 → ClsOk cA P w K mg base n c fs ∧ CatOk cA K T.fl T.ids c)) (hoc : ∀ c fl ms, (c, fl, ms) ∈ T.oc → OcIn K mg ents c fl ms) (hhot : T.hot = false) :
    ∀ (k f : Nat) (e : Ent) (fa : Addr) (fd : FuncData) (qual : Str), ents[f]? = some e → Fun K e.nm qual e.st fa fd → FnOk P w K mg base (L2.CX P w) (2 * k + 2) fa fd e.ps (spI cA K e.ps.length (callI (dfs ents) gl k f))
  | 0, f, e, fa, fd, qual, he, F => ⟨fun vs H Q E h => h.1, fun A outer s H args us vs Q E _ _ _ _ h => by obtain ⟨_, _, _, _, _, _, h⟩ := h; exact h.elim⟩
  | k + 1, f, e, fa, fd, qual, he, F => by
    have hmem : e ∈ ents := List.mem_of_getElem? he
    have hc := List.all_eq_true.mp hchk e hmem
    simp only [Ent.chk, Bool.and_eq_true, decide_eq_true_eq] at hc
    obtain ⟨⟨⟨h1, h2⟩, h3⟩, h4⟩ := hc
    have S0 := fnB_of h1
    refine F.okX S0 (fun vs H Q E h => h.1) fun cdv A outer s H vs Q E hr h => ?_
    obtain ⟨hl, m, S, ds, rs, rd, hp⟩ := h
    have co : Cok cA T e.N (defScope e.st) (cxOf (L2.CX P w) P w K mg base e.N qual (defScope e.st) fa cdv A outer s H E) (2 * k + 2) ⟨callI (dfs ents) gl k, gl⟩ (fun c d _ H => E c d H) :=
      { calm := fun _ => rfl, room := fun _ => hr.mono (by omega), room1 := fun _ => hr.mono (by omega), two := by omega, un := (by have := hr.un; show (A.deeper (envOfC qual (defScope e.st) s.heap.objs.size fa cdv)).units + 200 < cLine; omega), gds := hgd, cls := hcls, hotX := fun z => by { rw [hhot] at z; cases z }, tk := takes_of rfl rfl rfl rfl, po := passes_of rfl, hN := rfl, nd := S0.nd
        vis := fun n h => by
          obtain ⟨q, h1, h2⟩ := visB_of h
          rcases h2 with rfl | rfl | rfl
          · exact .inl h1
          · exact .inr (.inl h1)
          · exact .inr (.inr h1)
        loc := fun n h => by
          obtain ⟨q, h1, h2⟩ := locB_of h
          refine ⟨?_, .inl rfl⟩
          rcases h2 with rfl | rfl
          · exact .inl h1
          · exact .inr h1
        glb := fun n h => glbB_of h
        cap := fun n h => h
        blt := hblt
        ocs := fun cn fl ms hq => by
          obtain ⟨C, o1, o2, o3, o4, o5⟩ := hoc cn fl ms hq
          refine ⟨C, ⟨o1, o2, o3, o4⟩, fun mn fi hm => ?_⟩
          obtain ⟨e', fa', fd', qual', he', F', g2, g3, g4⟩ := o5 mn fi hm
          exact ⟨fa', fd', e'.ps, g3, level hn hfun hchk hblt hgl hgd hcls hoc hhot k fi e' fa' fd' qual' he' F', g2, call_len hchk k he', g4⟩
        fns := fun g n hg hdb => by
          rw [hn, List.getElem?_map] at hg
          obtain ⟨e', he', rfl⟩ := Option.map_eq_some_iff.mp hg
          have hmem' : e' ∈ ents := List.mem_of_getElem? he'
          obtain ⟨fa', fd', qual', F', g1, g2⟩ := hfun e' hmem'
          have hcl : e'.cls = "" := by
            by_cases z : e'.cls = ""
            · exact z
            · unfold Ent.top at hdb; rw [if_neg z] at hdb; exact absurd hdb (by decide)
          have htop : e'.top = e'.nm := by unfold Ent.top; rw [if_pos hcl]
          rw [htop]
          exact ⟨fa', fd', e'.ps, level hn hfun hchk hblt hgl hgd hcls hoc hhot k g e' fa' fd' qual' he' F', g1 hcl, F'.kp, g2, call_len hchk k he'⟩
        gls := hgl }
    have hb := sndCz (cA := cA) T e.df.body (defScope e.st) (defBody e.st) h4 co rfl ⟨rfl, rfl⟩
    refine ⟨_, hb, m, ds.map some ++ List.replicate (e.df.n - e.df.np) none, S, ?_, rs, ?_⟩
    · unfold L2.start
      rw [h3, h2, hl]
      exact rel_start rd _
    · have hp2 : Post cA K m H [] (fun c d _ H => E c d H) (runB ⟨callI (dfs ents) gl k, gl⟩ e.df ds S) Q := by
        unfold callI at hp
        simp only [dfs, he, Option.map_some] at hp
        rw [if_pos (by rw [h2, rd.length, hl])] at hp
        exact hp
      unfold runB at hp2
      cases q : evCz ⟨callI (dfs ents) gl k, gl⟩ e.df.body (ds.map some ++ List.replicate (e.df.n - e.df.np) none) S with
      | nx ρ S' => rw [q] at hp2; exact fun m' H' σ' e1 rn1 rs1 => tidy_ok rs hp2 e1 rs1 (.p .non)
      | rt d S' => rw [q] at hp2; exact fun m' H' v e1 rs1 rd1 => tidy_ok rs hp2 e1 rs1 rd1
      | exc x ρ S' => rw [q] at hp2; exact fun m' H' σ' c dx e1 rn1 rs1 rx1 => tidyX_ok rs hp2 e1 rs1 rx1
      | bk ρ S' => rw [q] at hp2; exact hp2.elim
      | ct ρ S' => rw [q] at hp2; exact hp2.elim
      | stuck => rw [q] at hp2; exact hp2.elim
end
end PH

set_option maxHeartbeats 8000000
/-! PH, part Z: the exception classes of a program, from checks on what is written out. -/
namespace PH
open L2 PySem PySem.Spec PyProof.Rows NdefX
/-- an exception class over ValueError -/
def exObj (C : Addr) (o : Obj) : Bool := match o with
  | ⟨.type t, _, .cls ⟨_, _, C' :: bm, _, _, hd, _, _, _, _, dl⟩, ⟨[_, _, _, _, some (.builtin b), _]⟩⟩ => t == "type" && C' == .ref C && hd && !dl && PySem.HandSPX.refsVE bm && b == "ValueError.__new__"
  | _ => false
theorem exObj_of {C : Addr} {o : Obj} (h : exObj C o = true) : ∃ nm q N bs bm sn sub ab col dd k0 k1 k2 k3 k5, o = excClassObj nm q C N bs bm true sn sub ab col dd k0 k1 k2 k3 k5 "ValueError.__new__" ∧ PySem.HandSPX.refsVE bm = true := by
  unfold exObj at h
  split at h
  · rename_i t dd nm bs C' bm N q hd sn sub ab col dl k0 k1 k2 k3 b k5
    simp only [Bool.and_eq_true, beq_iff_eq, Bool.not_eq_true'] at h
    obtain ⟨⟨⟨⟨⟨h1, h2⟩, h3⟩, h4⟩, h5⟩, h6⟩ := h
    subst h1 h2 h3 h4 h6
    exact ⟨nm, q, N, bs, bm, sn, sub, ab, col, dd, k0, k1, k2, k3, k5, rfl, h5⟩
  · cases h
def oexB (K : Fg) (C : Addr) (o : Obj) : Bool := exObj C o && decide (PySem.W.findIn K (.ref C) "__setattr__" = some (some (.builtin "object.__setattr__"))) && decide (PySem.W.subIn K (.ref C) (.type "BaseException") = some true) && decide (PySem.W.typeIn K (.ref C) = some (.type "type")) && PySem.W.keepIn K (.ref C)
theorem oexB_of {K : Fg} {C : Addr} {o : Obj} (l : K.lookup C = some o) (h : oexB K C o = true) : OexC K C := by
  unfold oexB at h
  simp only [Bool.and_eq_true, decide_eq_true_eq] at h
  obtain ⟨⟨⟨⟨h1, h2⟩, h3⟩, h4⟩, h5⟩ := h
  obtain ⟨nm, q, N, bs, bm, sn, sub, ab, col, dd, k0, k1, k2, k3, k5, e, hb⟩ := exObj_of h1
  exact ⟨⟨nm, q, N, bs, bm, sn, sub, ab, col, dd, k0, k1, k2, k3, k5, by rw [l, e], hb⟩, h2, h3, h4, h5⟩
def supB (K : Fg) (C : Addr) : Bool := decide (PySem.W.ks_superIn K C C "__init__" = some (some (.builtin "ValueError.__init__"))) && decide (PySem.W.subIn K (.ref C) (.type "ValueError") = some true) && decide (PySem.W.mroIn K C (.ref C) = some true) && decide (PySem.W.nsIn K mainGlobals "super" = some none) && decide (PySem.W.nsIn K cStatics "thirdparty.any" = some none)
theorem supB_of {K : Fg} {C : Addr} (o : OexC K C) (h : supB K C = true) : SupK K C := by
  unfold supB at h
  simp only [Bool.and_eq_true, decide_eq_true_eq] at h
  obtain ⟨⟨⟨⟨h1, h2⟩, h3⟩, h4⟩, h5⟩ := h
  exact ⟨o, h1, h2, h3, h4, h5⟩
/-- the function's parts -/
def nfOf (fd : FuncData) : NF := ⟨fd.name, fd.qualname, fd.params, match fd.body with | .stmts b => b | _ => [], fd.scope, fd.closure, match fd.code with | .ref c => c | _ => 0⟩
def slfOf (fd : FuncData) : Str := ((fd.params.posonlyargs ++ fd.params.args).head?.map (·.arg)).getD ⟨#[]⟩
def fdB (fd : FuncData) : Bool := (match fd.body with | .stmts _ => true | _ => false) && decide (fd.globals = mainGlobals) && (match fd.defaults with | .none => true | _ => false) && (match fd.kwdefaults with | .none => true | _ => false) && fd.annotations.isNone && (match fd.code with | .ref _ => true | _ => false) && decide (fd.builtins = builtinsNs)
theorem fdB_of {fd : FuncData} (h : fdB fd = true) : fd = (nfOf fd).fd fd.doc fd.pyModule fd.closureTuple := by
  obtain ⟨a1, a2, a3, a4, a5, a6, a7, a8, a9, a10, a11, a12, a13, a14, a15⟩ := fd
  unfold fdB at h
  simp only [Bool.and_eq_true, decide_eq_true_eq] at h
  obtain ⟨⟨⟨⟨⟨⟨h1, h2⟩, h3⟩, h4⟩, h5⟩, h6⟩, h7⟩ := h
  cases a4 <;> first | cases h1 | skip
  cases a8 <;> first | cases h3 | skip
  cases a9 <;> first | cases h4 | skip
  cases a12 <;> first | cases h5 | skip
  cases a13 <;> first | cases h6 | skip
  subst h2 h7
  rfl

def supFB (K : Fg) (P : Program) (C : Addr) (fd : FuncData) : Bool :=
  (match fd.closure with
    | [(n, cc)] => n == ("__class__" : Str) && (match List.lookup cc K with
      | some ⟨_, _, .cell (some (.ref C')), _⟩ => C' == C
      | _ => false)
    | _ => false) &&
  ((fd.params.posonlyargs ++ fd.params.args).head?.map (·.arg)).isSome &&
  (match List.lookup (nfOf fd).c K with
    | some ⟨_, _, .fields vs, _⟩ => (match (vs[2]? : Option Value) with
      | some (Value.str file _) => (P.main.file : Str) == file
      | _ => false)
    | _ => false) &&
  decide (fd.scope.kind = .function) && decide (fd.scope.names.lookup ("super" : Str) = some .globalImplicit) && decide (fd.scope.names.lookup ("__class__" : Str) = some .free) && decide (fd.scope.names.lookup (slfOf fd) = some .local) && !(P.main.scope.names.lookup ("super" : Str)).isSome
theorem supFB_of {K : Fg} {P : Program} {C fI : Addr} {fd : FuncData} {oc : Value} {od : Option Addr} {sl : Array (Option Value)} (l : K.lookup fI = some ⟨oc, od, .func fd, sl⟩) (hf : fdB fd = true) (h : supFB K P C fd = true) : ∃ cc, SupF K P C fI cc (nfOf fd) (slfOf fd) := by
  unfold supFB at h
  simp only [Bool.and_eq_true, decide_eq_true_eq, Bool.not_eq_true'] at h
  obtain ⟨⟨⟨⟨⟨⟨⟨h1, h2⟩, h3⟩, h4⟩, h5⟩, h6⟩, h7⟩, h8⟩ := h
  split at h1
  · rename_i n cc hcl
    simp only [Bool.and_eq_true, beq_iff_eq] at h1
    obtain ⟨rfl, h1⟩ := h1
    split at h1
    · rename_i c1 c2 C' c3 hc
      have hC := beq_iff_eq.mp h1
      subst hC
      split at h3
      · rename_i f1 f2 vs f3 hcode
        split at h3
        · rename_i file tf hv
          refine ⟨cc, ⟨hcl, ⟨oc, od, sl, fd.doc, fd.pyModule, fd.closureTuple, by rw [← fdB_of hf]; exact l⟩, ?_, ⟨_, _, _, _, _, _, hcode, hv, h3⟩, ⟨_, _, _, hc⟩, h4, h5, h6, h7, h8⟩⟩
          show (fd.params.posonlyargs ++ fd.params.args).head?.map (·.arg) = some (slfOf fd)
          unfold slfOf
          cases q : (fd.params.posonlyargs ++ fd.params.args).head?.map (·.arg) with
          | none => rw [q] at h2; cases h2
          | some z => rfl
        · cases h3
      · cases h3
    · cases h1
  · cases h1
/-- all of an __init__ -/
def iniB (K : Fg) (P : Program) (C : Addr) (fs : List Str) (fd : FuncData) : Bool :=
  fdB fd && supFB K P C fd && PySem.W.codeIn K fd.code fd.qualname && nscB (slfOf fd :: fs ++ [("__class__" : Str)]) (slfOf fd :: fs) [("__class__" : Str)] fd.scope && initB (slfOf fd) fs (nfOf fd).body && (slfOf fd :: fs).all (fun g => !(g == ("__debug__" : Str)) && !(g == ("__classdict__" : Str))) && decide (fs.length ≤ 800) && decide fs.Nodup && fs.all (fun g => decide (PySem.W.findIn K (.ref C) g = some none)) && !fs.isEmpty
def excB (K : Fg) (D : Addr) : Bool := decide (PySem.W.findIn K (.ref D) "__getattribute__" = some (some (.builtin "BaseException.__getattribute__"))) && decide (PySem.W.findIn K (.ref D) "__getattr__" = some none) && decide (PySem.W.subIn K (.ref D) (.type "BaseException") = some true) && PySem.W.hasDictIn K D && decide (PySem.W.findIn K (.ref D) "__class__" = some (some (.builtin "object.__class__"))) && decide (PySem.W.specialIn K (.builtin "object.__class__") "__get__" = some (some (.builtin "getset_descriptor.__get__"))) && decide (PySem.W.takesIn K (.builtin "object.__class__") = some true) && decide (PySem.W.mroIn K D (.type "object") = some true)
theorem excB_of {K : Fg} {D : Addr} (h : excB K D = true) : ExcC K D := by
  unfold excB at h
  simp only [Bool.and_eq_true, decide_eq_true_eq] at h
  obtain ⟨⟨⟨⟨⟨⟨⟨h1, h2⟩, h3⟩, h4⟩, h5⟩, h6⟩, h7⟩, h8⟩ := h
  exact ⟨h1, h2, h3, h4, h5, h6, h7, h8⟩
def catB (K : Fg) (cA : Ca) (fl : List String) (ids : List Nat) (c : Nat) : Bool :=
  xfB K (cA c) && fl.all (fun f => decide (PySem.W.findIn K (.ref (cA c)) (Str.ofString f) = some none)) && excB K (cA c) && (PySem.W.clsIn K (cA c)).isSome && ids.all (fun c' => decide (PySem.W.exmOne K (.ref (cA c)) (.ref (cA c')) = some (subX c c')) && decide (PySem.W.kitOne K (.ref (cA c)) (.ref (cA c')) = some (subX c c'))) && decide (PySem.W.kitOne K (.ref (cA c)) (.type "ValueError") = some true)
theorem catB_of {K : Fg} {cA : Ca} {fl : List String} {ids : List Nat} {c : Nat} (h : catB K cA fl ids c = true) : CatOk cA K fl ids c := by
  unfold catB at h
  simp only [Bool.and_eq_true, decide_eq_true_eq, List.all_eq_true] at h
  obtain ⟨⟨⟨⟨⟨h1, h2⟩, h3⟩, h4⟩, h5⟩, h6⟩ := h
  exact ⟨xfB_ok h1, h2, excB_of h3, h4, fun c' hc => (h5 c' hc).1, fun c' hc => (h5 c' hc).2, h6⟩
/-- a class of the table, written out -/
structure ClsIn (K : Fg) (P : Program) (cA : Ca) (fl : List String) (ids : List Nat) (n : Str) (c : Nat) (fs : List String) : Prop where
  nm : PySem.W.nsIn K mainGlobals n = some (some (.ref (cA c)))
  own : c < 1000 → ∃ o fI oc od fd sl, K.lookup (cA c) = some o ∧ PySem.W.findIn K (.ref (cA c)) "__init__" = some (some (.ref fI)) ∧ PySem.W.typeIn K (.ref fI) = some (.type "function") ∧ K.lookup fI = some ⟨oc, od, .func fd, sl⟩ ∧
    oexB K (cA c) o = true ∧ supB K (cA c) = true ∧ iniB K P (cA c) (fs.map Str.ofString) fd = true ∧ catB K cA fl ids c = true ∧ ∀ us : List Value, us.length = (slfOf fd :: fs.map Str.ofString).length → bindArgs fd ⟨us, []⟩ = pure ((slfOf fd :: fs.map Str.ofString).zip us)
theorem cls_ok {K : Fg} {P : Program} {w : World} {mgl : Str → Option Value} {base : Heap} {cA : Ca} {fl : List String} {ids : List Nat} {n : Str} {c : Nat} {fs : List String} (h : ClsIn K P cA fl ids n c fs) (hm : mgl n = some (.ref (cA c))) (hc : c < 1000) :
    ClsOk cA P w K mgl base n c fs ∧ CatOk cA K fl ids c := by
  obtain ⟨o, fI, oc, od, fd, sl, g1, g2, g3, g4, g5, g6, g7, g8, g9⟩ := h.own hc
  have ox := oexB_of g1 g5
  have su := supB_of ox g6
  have ca := catB_of g8
  unfold iniB at g7
  simp only [Bool.and_eq_true, decide_eq_true_eq, List.all_eq_true, Bool.not_eq_true'] at g7
  obtain ⟨⟨⟨⟨⟨⟨⟨⟨⟨i1, i2⟩, i3⟩, i4⟩, i5⟩, i6⟩, i7⟩, i8⟩, i9⟩, i10⟩ := g7
  obtain ⟨cc, G⟩ := supFB_of g4 i1 i2
  have efd := fdB_of i1
  have hcd : PySem.W.codeIn K (.ref (nfOf fd).c) (nfOf fd).qual = true := by
    have : fd.code = .ref (nfOf fd).c := by
      have := congrArg FuncData.code efd
      exact this
    rw [← this]; exact i3
  cases hfs : fs.map Str.ofString with
  | nil => rw [hfs] at i10; cases i10
  | cons f1 r =>
    rw [hfs] at i4 i5 i6 i7 i9
    have fn := init_fn (CX := L2.CX P w) (w := w) (mg := mgl) (base := base) (k := 0) su G (by rw [← efd]; exact g4) hcd (nscope_by i4) i5 i9 i6 (by simp at i7; omega)
    rw [← efd, ← hfs] at fn
    exact ⟨⟨hm, ox, ⟨slfOf fd, fI, fd, g2, g3, fn, .all g9⟩, i8, by rw [← List.length_map (f := Str.ofString), hfs]; exact i7, ca.xf, fun f hf => i9 _ (by rw [← hfs]; exact List.mem_map_of_mem hf)⟩, ca⟩
end PH

set_option maxHeartbeats 4000000
/-! PH, part N: from a table of defs to a law's promise. -/
namespace PH
open L2 PySem PySem.Spec PyProof.Rows
/-- what stands in a class -/
def clsBody (s : Stmt) : List Stmt := match s with
  | .ClassDef _ _ _ b _ _ _ _ _ _ _ => b
  | _ => []
section
variable {K : Fg}
/-- a def stands in the written part -/
def Where (K : Fg) (e : Ent) (f : Addr) : Prop := (e.cls = "" ∧ PySem.W.nsIn K mainGlobals e.nm = some (some (.ref f))) ∨ (e.cls ≠ "" ∧ ∃ C, ClsAt K C e.cls ∧ PySem.W.findIn K (.ref C) e.nm = some (some (.ref f)) ∧ PySem.W.isFn K (.ref f) = true)
def EntIn (K : Fg) (e : Ent) : Prop := ∃ (f : Addr) (oc : Value) (od an : Option Addr) (osl : Array (Option Value)) (kV doc pm cd ct : Value), Where K e f ∧
  K.lookup f = some ⟨oc, od, .func (PySem.W.fnOf e.nm e.qual (defArgs e.st) (defBody e.st) (defScope e.st) .none kV doc pm an cd ct), osl⟩ ∧ PySem.W.codeIn K cd e.qual = true ∧ PySem.W.keepIn K (.ref f) = true
theorem ent_in {e : Ent} {f : Addr} {oc : Value} {od an : Option Addr} {osl : Array (Option Value)} {kV doc pm cd ct : Value} (h0 : e.cls = "") (h1 : PySem.W.nsIn K mainGlobals e.nm = some (some (.ref f)))
    (h2 : K.lookup f = some ⟨oc, od, .func (PySem.W.fnOf e.nm e.qual (defArgs e.st) (defBody e.st) (defScope e.st) .none kV doc pm an cd ct), osl⟩) (h3 : PySem.W.codeIn K cd e.qual = true) (h4 : PySem.W.keepIn K (.ref f) = true) : EntIn K e :=
  ⟨f, oc, od, an, osl, kV, doc, pm, cd, ct, .inl ⟨h0, h1⟩, h2, h3, h4⟩
theorem ent_inM {e : Ent} {f C : Addr} {oc : Value} {od an : Option Addr} {osl : Array (Option Value)} {kV doc pm cd ct : Value} (h0 : e.cls ≠ "") (hC : PySem.W.nsIn K mainGlobals (Str.ofString e.cls) = some (some (.ref C))) (h1 : PySem.W.findIn K (.ref C) e.nm = some (some (.ref f)))
    (h2 : K.lookup f = some ⟨oc, od, .func (PySem.W.fnOf e.nm e.qual (defArgs e.st) (defBody e.st) (defScope e.st) .none kV doc pm an cd ct), osl⟩) (h3 : PySem.W.codeIn K cd e.qual = true) (h4 : PySem.W.keepIn K (.ref f) = true) (h5 : PySem.W.isFn K (.ref f) = true) : EntIn K e :=
  ⟨f, oc, od, an, osl, kV, doc, pm, cd, ct, .inr ⟨h0, C, hC, h1, h5⟩, h2, h3, h4⟩
/-- a class with instances -/
def ocsB (K : Fg) (C : Addr) (fl : List String) : Bool := PySem.W.plainGet K C Str.empty && PySem.W.hasDictIn K C && PySem.W.plainOver K C && decide (PySem.W.findIn K (.ref C) "__setattr__" = some (some (.builtin "object.__setattr__"))) && fl.all (fun f => decide (PySem.W.findIn K (.ref C) (Str.ofString f) = some none)) && PySem.W.makesIn K C && PySem.W.keepIn K (.ref C)
def OcsIn (K : Fg) (c : String) (fl : List String) : Prop := ∃ C, ClsAt K C c ∧ ocsB K C fl = true
def AllO (K : Fg) : List (String × List String × List (String × Nat)) → Prop
  | [] => True
  | (c, fl, _) :: r => OcsIn K c fl ∧ AllO K r
theorem AllO.mem : ∀ {l : List (String × List String × List (String × Nat))}, AllO K l → ∀ c fl ms, (c, fl, ms) ∈ l → OcsIn K c fl
  | (c', fl', ms') :: r, g, c, fl, ms, h => by
    rcases List.mem_cons.mp h with z | z
    · cases z; exact g.1
    · exact AllO.mem g.2 c fl ms z
theorem ocs_in {c : String} {fl : List String} {C : Addr} (h1 : PySem.W.nsIn K mainGlobals (Str.ofString c) = some (some (.ref C))) (h2 : ocsB K C fl = true) : OcsIn K c fl := ⟨C, h1, h2⟩
/-- the methods' numbers are right -/
def ocChk (ents : List Ent) (oc : List (String × List String × List (String × Nat))) : Bool := oc.all fun q => decide (q.1 ≠ "") && q.2.2.all fun p => match ents[p.2]? with
  | some e => decide (e.cls = q.1) && decide (e.nm = Str.ofString p.1)
  | none => false
def EntB (e : Ent) : Prop := ∀ (kV doc pm : Value) (an : Option Addr) (cdv ct : Value) (us : List Value), us.length = e.ps.length → bindArgs (PySem.W.fnOf e.nm e.qual (defArgs e.st) (defBody e.st) (defScope e.st) .none kV doc pm an cdv ct) ⟨us, []⟩ = pure (e.ps.zip us)
def AllE (p : Ent → Prop) : List Ent → Prop
  | [] => True
  | e :: es => p e ∧ AllE p es
theorem AllE.mem {p : Ent → Prop} : ∀ {l : List Ent}, AllE p l → ∀ e ∈ l, p e
  | _ :: _, h, e, hm => by
    rcases List.mem_cons.mp hm with rfl | z
    · exact h.1
    · exact AllE.mem h.2 e z
def GlIn (K : Fg) (n : Str) (x : PD) : Prop := ∃ u v, PySem.W.nsIn K mainGlobals n = some (some u) ∧ RelV v u ∧ ∀ H, RelP K H x v
def AllG (K : Fg) : List (Str × PD) → Prop
  | [] => True
  | (n, x) :: r => GlIn K n x ∧ AllG K r
theorem AllG.get : ∀ {l : List (Str × PD)} {i : Nat} {n : Str}, AllG K l → (l.map (·.1))[i]? = some n → ∃ x, (l[i]?).map (·.2) = some x ∧ GlIn K n x
  | [], i, n, _, h => by simp at h
  | (m, x) :: r, 0, n, g, h => by
    simp at h; subst h
    exact ⟨x, rfl, g.1⟩
  | (m, x) :: r, i + 1, n, g, h => by
    obtain ⟨y, h1, h2⟩ := AllG.get (l := r) (i := i) (n := n) g.2 (by simpa using h)
    exact ⟨y, by simpa using h1, h2⟩
theorem gl_int {n : Str} {i : Int} {t : Tok} (h : PySem.W.nsIn K mainGlobals n = some (some (.int i t))) : GlIn K n (.int i) := ⟨_, .int i, h, ⟨t, rfl⟩, fun H => .int i⟩
theorem gl_str {n : Str} {s : Cs} {t : Tok} (h : PySem.W.nsIn K mainGlobals n = some (some (.str (mkS s) t))) (h1 : s.length ≤ LINE) (h2 : s.all (fun c => decide (c < 1114112)) = true) : GlIn K n (.str s) :=
  ⟨_, .str (mkS s), h, ⟨t, rfl⟩, fun H => .str s ⟨h1, fun c hc => by have := List.all_eq_true.mp h2 c hc; simpa using this⟩⟩
/-- a constant, item by item, in the written part -/
def tupOf : Obj → Option (List Value)
  | ⟨.type n, _, .seq its _, _⟩ => if n == "tuple" && decide (its.size ≤ sizeLine) then some its.toList else none
  | _ => none
mutual
def relB (K : Fg) : PD → Value → Bool
  | .non, .none => true
  | .bl a, .bool b => a == b
  | .int i, .int j _ => decide (i = j)
  | .str s, .str t _ => decide (t = mkS s) && decide (s.length ≤ LINE) && s.all fun c => decide (c < 1114112)
  | .tup xs, .ref a => match List.lookup a K with
    | some o => match tupOf o with
      | some us => relBs K xs us
      | none => false
    | none => false
  | _, _ => false
def relBs (K : Fg) : List PD → List Value → Bool
  | [], [] => true
  | x :: xs, u :: us => relB K x u && relBs K xs us
  | _, _ => false
end
mutual
theorem relB_ok : ∀ (x : PD) (u : Value), relB K x u = true → ∃ v, RelV v u ∧ ∀ H, RelP K H x v
  | .non, u, h => by
    cases u <;> simp only [relB, Bool.false_eq_true] at h
    exact ⟨.non, rfl, fun H => .non⟩
  | .bl a, u, h => by
    cases u <;> simp only [relB, Bool.false_eq_true] at h
    rw [beq_iff_eq] at h; subst h
    exact ⟨.bl a, rfl, fun H => .bl a⟩
  | .int i, u, h => by
    cases u <;> simp only [relB, Bool.false_eq_true] at h
    rw [decide_eq_true_eq] at h; subst h
    exact ⟨.int i, ⟨_, rfl⟩, fun H => .int i⟩
  | .str s, u, h => by
    cases u <;> simp only [relB, Bool.false_eq_true] at h
    simp only [Bool.and_eq_true, decide_eq_true_eq, List.all_eq_true] at h
    obtain ⟨⟨rfl, h1⟩, h2⟩ := h
    exact ⟨.str (mkS s), ⟨_, rfl⟩, fun H => .str s ⟨h1, h2⟩⟩
  | .tup xs, u, h => by
    cases u <;> simp only [relB, Bool.false_eq_true] at h
    rename_i a
    split at h
    · rename_i o ho
      split at h
      · rename_i us hu
        obtain ⟨vs, h1, h2⟩ := relBs_ok xs us h
        refine ⟨.ref a, rfl, fun H => .tup (.inr ?_) (h2 H)⟩
        unfold tupOf at hu
        split at hu
        · rename_i n d its m sl
          split at hu
          · rename_i hc
            cases hu
            simp only [Bool.and_eq_true, beq_iff_eq, decide_eq_true_eq] at hc
            exact ⟨_, its, m, ho, by rw [hc.1], rfl, hc.2, h1⟩
          · cases hu
        · cases hu
      · cases h
    · cases h
theorem relBs_ok : ∀ (xs : List PD) (us : List Value), relBs K xs us = true → ∃ vs, Vals vs us ∧ ∀ H, RelPs K H xs vs
  | [], us, h => by
    cases us <;> simp only [relBs, Bool.false_eq_true] at h
    exact ⟨[], .nil, fun H => .nil⟩
  | x :: xs, us, h => by
    cases us <;> simp only [relBs, Bool.false_eq_true, Bool.and_eq_true] at h
    obtain ⟨v, a1, a2⟩ := relB_ok x _ h.1
    obtain ⟨vs, b1, b2⟩ := relBs_ok xs _ h.2
    exact ⟨v :: vs, .cons a1 b1, fun H => .cons (a2 H) (b2 H)⟩
end
theorem gl_data {n : Str} {x : PD} {u : Value} (h : PySem.W.nsIn K mainGlobals n = some (some u)) (h2 : relB K x u = true) : GlIn K n x :=
  let ⟨v, a, b⟩ := relB_ok x u h2
  ⟨u, v, h, a, b⟩
def glOf (l : List (Str × PD)) (i : Nat) : Option PD := (l[i]?).map (·.2)
def NoBlt (K : Fg) : List Str → Prop
  | [] => True
  | n :: ns => PySem.W.nsIn K mainGlobals n = some none ∧ NoBlt K ns
theorem NoBlt.mem : ∀ {l : List Str}, NoBlt K l → ∀ n ∈ l, PySem.W.nsIn K mainGlobals n = some none
  | _ :: _, h, e, hm => by
    rcases List.mem_cons.mp hm with rfl | z
    · exact h.1
    · exact NoBlt.mem h.2 e z
def fnOfE (e : Ent) (kV doc pm cd ct : Value) (an : Option Addr) : FuncData := PySem.W.fnOf e.nm e.qual (defArgs e.st) (defBody e.st) (defScope e.st) .none kV doc pm an cd ct
/-- where classes lie, from a list -/
def caOf (l : List (Nat × Addr)) : Ca := fun c => (l.lookup c).getD 0
def AllC (K : Fg) (P : Program) (cA : Ca) (fl : List String) (ids : List Nat) : List (Str × Nat × List String) → Prop
  | [] => True
  | q :: r => ClsIn K P cA fl ids q.1 q.2.1 q.2.2 ∧ AllC K P cA fl ids r
theorem AllC.mem {P : Program} {cA : Ca} {fl : List String} {ids : List Nat} : ∀ {l : List (Str × Nat × List String)}, AllC K P cA fl ids l → ∀ q ∈ l, ClsIn K P cA fl ids q.1 q.2.1 q.2.2
  | _ :: _, h, q, hm => by
    rcases List.mem_cons.mp hm with rfl | z
    · exact h.1
    · exact AllC.mem h.2 q z
/-- the checks of a class in one -/
def oneB (K : Fg) (P : Program) (cA : Ca) (fl : List String) (ids : List Nat) (c : Nat) (fs : List String) (o : Obj) (fd : FuncData) : Bool := oexB K (cA c) o && supB K (cA c) && iniB K P (cA c) (fs.map Str.ofString) fd && catB K cA fl ids c
theorem cls_in {P : Program} {cA : Ca} {fl : List String} {ids : List Nat} {n : Str} {c m : Nat} {fs : List String} {C fI : Addr} {o : Obj} {oc : Value} {od : Option Addr} {fd : FuncData} {sl : Array (Option Value)} (h0 : cA c = C) (h1 : PySem.W.nsIn K mainGlobals n = some (some (.ref C))) (h2 : K.lookup C = some o)
    (h3 : PySem.W.findIn K (.ref C) "__init__" = some (some (.ref fI))) (h4 : PySem.W.typeIn K (.ref fI) = some (.type "function")) (h5 : K.lookup fI = some ⟨oc, od, .func fd, sl⟩) (h6 : oneB K P cA fl ids c fs o fd = true) (hm : m = fs.length + 1)
    (h7 : ∀ us : List Value, us.length = m → bindArgs fd ⟨us, []⟩ = pure ((slfOf fd :: fs.map Str.ofString).zip us)) : ClsIn K P cA fl ids n c fs := by
  subst h0
  unfold oneB at h6
  simp only [Bool.and_eq_true] at h6
  obtain ⟨⟨⟨g1, g2⟩, g3⟩, g4⟩ := h6
  exact ⟨h1, fun _ => ⟨o, fI, oc, od, fd, sl, h2, h3, h4, h5, g1, g2, g3, g4, fun us hl => h7 us (by rw [hl, hm]; simp)⟩⟩
theorem cls_top {P : Program} {cA : Ca} {fl : List String} {ids : List Nat} {n : Str} {c : Nat} {fs : List String} {C : Addr} (hc : ¬ c < 1000) (h0 : cA c = C) (h1 : PySem.W.nsIn K mainGlobals n = some (some (.ref C))) : ClsIn K P cA fl ids n c fs := by
  subst h0
  exact ⟨h1, fun z => absurd z hc⟩
/-- a dict of the top -/
def DctIn (K : Fg) (w : World) (n : Str) (t : List (Cs × PD)) : Prop := ∃ p : Addr, PySem.W.nsIn K mainGlobals n = some (some (.ref p)) ∧ ∀ z x, t.lookup z = some x → ∃ v, KDct K w p (mkS z) v ∧ ∀ H, RelP K H x v
def AllD (K : Fg) (w : World) : List (Str × List (Cs × PD)) → Prop
  | [] => True
  | (n, t) :: r => DctIn K w n t ∧ AllD K w r
theorem AllD.mem {w : World} : ∀ {l : List (Str × List (Cs × PD))}, AllD K w l → ∀ n t, (n, t) ∈ l → DctIn K w n t
  | (m, u) :: r, g, n, t, h => by
    rcases List.mem_cons.mp h with z | z
    · cases z; exact g.1
    · exact AllD.mem g.2 n t z
def tblB (K : Fg) (p : Addr) (t : List (Cs × PD)) : Bool := t.all fun zx => match PySem.W.nsIn K p (mkS zx.1) with
  | some (some u) => relB K zx.2 u
  | _ => false
theorem lookup_mem {t : List (Cs × PD)} {z : Cs} {x : PD} (h : t.lookup z = some x) : (z, x) ∈ t := by
  induction t with
  | nil => cases h
  | cons a r ih =>
    obtain ⟨y, u⟩ := a
    rw [List.lookup_cons] at h
    split at h
    · rename_i e
      rw [eq_of_beq e]
      cases h; exact List.mem_cons_self
    · exact List.mem_cons_of_mem _ (ih h)
theorem dct_in {w : World} {n : Str} {p : Addr} {t : List (Cs × PD)} {es : Array DictEntry} {j : Nat} (h1 : PySem.W.nsIn K mainGlobals n = some (some (.ref p))) (h2 : K.lookup p = some ⟨.type "dict", none, .dict es j, #[]⟩) (h3 : PySem.W.KeysLit w.params es.toList) (h4 : tblB K p t = true) : DctIn K w n t := by
  refine ⟨p, h1, fun z x hx => ?_⟩
  have := List.all_eq_true.mp h4 _ (lookup_mem hx)
  dsimp only at this
  split at this
  · rename_i u hu
    obtain ⟨v, a, b⟩ := relB_ok x u this
    exact ⟨v, ⟨es, j, u, h2, h3, hu, a⟩, b⟩
  · cases this
/-- the law's def, from the table -/
theorem attach {P : Program} {w : World} {mg : Str → Option Value} {ents : List Ent} {gls : List (Str × PD)} {fa : Addr} {h : Heap} (k f : Nat) (e : Ent) (cl : List (Str × Nat × List String)) (gd : List (Str × List (Cs × PD))) (oc : List (String × List String × List (String × Nat))) (cA : Ca) (KX : K.In h) (G : h.Ns mainGlobals mg) (hent : AllE (EntIn K) ents) (hb : AllE EntB ents)
    (hblt : NoBlt K bltNames) (hgl : AllG K gls) (hgd : AllD K w gd) (hcl : AllC K P cA (cl.flatMap (·.2.2)) (cl.map (·.2.1)) cl) (hoc : AllO K oc) (hocc : ocChk ents oc = true) (hchk : ents.all (Ent.chk ⟨ents.map Ent.top, gls.map (·.1), cl, gd, oc, false⟩) = true) (he : ents[f]? = some e) (hps : e.ps = [("script" : Str)]) (hcls0 : e.cls = "") (hfa : mg e.nm = some (.ref fa)) :
    ∃ fd : FuncData, (∀ (s : Shared) (u : Value), BindsTo s fd ⟨[u], []⟩ [(("script" : Str), u)]) ∧
      ∀ base : Heap, K.In base → base.Ns mainGlobals mg → FnOk P w K mg base (L2.CX P w) (2 * k + 2) fa fd [("script" : Str)] (fun vs H Q E => ∀ cA, spI cA K 1 (callI (dfs ents) (glOf gls) k f) vs H Q E) := by
  have hmem : e ∈ ents := List.mem_of_getElem? he
  have mk : ∀ e ∈ ents, ∃ fa fd qual, Fun K e.nm qual e.st fa fd ∧ (e.cls = "" → mg e.nm = some (.ref fa)) ∧ Binds K fd e.ps [] := fun e hm => by
    obtain ⟨f, oc, od, an, osl, kV, doc, pm, cd, ct, h1, h2, h3, h4⟩ := hent.mem e hm
    have F := fun_mk (st := e.st) h2 h3 h4
    refine ⟨f, _, e.qual, F, fun hc => ?_, F.binds (hb.mem e hm)⟩
    rcases h1 with ⟨_, h1⟩ | ⟨h1, _⟩
    · exact PySem.W.mg_of KX G h1
    · exact absurd hc h1
  have mo : ∀ c fl ms, (c, fl, ms) ∈ oc → OcIn K mg ents c fl ms := fun c fl ms hq => by
    obtain ⟨C, hC, hB⟩ := hoc.mem c fl ms hq
    unfold ocsB at hB
    simp only [Bool.and_eq_true, decide_eq_true_eq, List.all_eq_true] at hB
    obtain ⟨⟨⟨⟨⟨⟨b1, b2⟩, b3⟩, b4⟩, b5⟩, b6⟩, b7⟩ := hB
    refine ⟨C, hC, PySem.W.mg_of KX G hC, ⟨b1, b2, b3, b4⟩, b5, fun mn fi hm => ?_⟩
    have hcc := List.all_eq_true.mp hocc _ hq
    simp only [Bool.and_eq_true, decide_eq_true_eq, List.all_eq_true] at hcc
    obtain ⟨hne, hcc⟩ := hcc
    have hcm := hcc _ hm
    dsimp only at hcm
    split at hcm
    · rename_i e' he'
      simp only [Bool.and_eq_true, decide_eq_true_eq] at hcm
      obtain ⟨hc1, hc2⟩ := hcm
      have hm' : e' ∈ ents := List.mem_of_getElem? he'
      obtain ⟨f, oc, od, an, osl, kV, doc, pm, cd, ct, h1, h2, h3, h4⟩ := hent.mem e' hm'
      have F := fun_mk (st := e'.st) h2 h3 h4
      rcases h1 with ⟨h1, _⟩ | ⟨_, C', hC', h1, h5⟩
      · exact absurd (hc1.symm.trans h1) hne
      · rw [hc1] at hC'
        cases hC.one hC'
        rw [hc2] at h1
        refine ⟨e', f, _, e'.qual, he', F, F.binds (hb.mem e' hm'), ⟨h1, h5, h4⟩, fun hi => ⟨b6, ?_, h5, b7⟩⟩
        subst hi
        exact h1
    · cases hcm
  obtain ⟨f', oc', od, an, osl, kV, doc, pm, cd, ct, h1, h2, h3, h4⟩ := hent.mem e hmem
  have F := fun_mk (st := e.st) h2 h3 h4
  replace h1 : PySem.W.nsIn K mainGlobals e.nm = some (some (.ref f')) := by
    rcases h1 with ⟨_, h1⟩ | ⟨h1, _⟩
    · exact h1
    · exact absurd hcls0 h1
  have e1 := hfa.symm.trans (PySem.W.mg_of KX G h1)
  cases e1
  refine ⟨_, fun s u => .of_eq (by rw [hb.mem e hmem kV doc pm an cd ct [u] (by rw [hps]; rfl), hps]; rfl), fun base KB GB => ?_⟩
  have L := level (P := P) (w := w) (base := base) (cA := cA) (T := ⟨ents.map Ent.top, gls.map (·.1), cl, gd, oc, false⟩) (ents := ents) (gl := glOf gls) rfl mk hchk (fun n hn => PySem.W.mg_none_of KX G (hblt.mem n hn))
    (fun i n hi => by
      obtain ⟨x, g1, u, v, g2, g3, g4⟩ := hgl.get hi
      exact ⟨x, u, v, g1, PySem.W.mg_of KX G g2, g3, g4⟩)
    (fun n t hq => by
      obtain ⟨p, g1, g2⟩ := hgd.mem n t hq
      exact ⟨p, PySem.W.mg_of KX G g1, g2⟩)
    (fun n c fs hq => by
      have hi := hcl.mem _ hq
      have hm := PySem.W.mg_of KX G hi.nm
      exact ⟨hm, fun hc => cls_ok hi hm hc⟩) mo rfl k f e fa _ e.qual he F
  rw [hps] at L
  exact L.imp fun vs H Q E z => z cA
theorem hCX_of {P : Program} {w : World} {H : Hp} {s : Shared} {e : Value} {s' : Shared} (h : L2.CX P w [] H s (fun _ _ _ => False) e s') : False := by
  obtain ⟨_, _, _, _, _, _, _, _, _, _, _, _, z⟩ := h
  exact z
/-- the script's heap -/
theorem fin_sp {H : Hp} {a : Addr} {ns : List Int} {cA : Ca} {F : List D → Sto → Res D} {E : XK} (hO : Only H) (hS : SqL K H a (ns.map V.int)) (ht : ∃ S', F [.ref 0] [.fz (ns.map .int)] = .ok (.p (.bl true)) S') :
    spI cA K 1 F [.ref a] H (fun v _ => v = .bl true) E := by
  have fz : FzL K H a (ns.map V.int) := by
    rcases hS with (h | ⟨o, h⟩) | h
    · rcases hO a with z | ⟨o, xs, z⟩ <;> rw [h] at z <;> cases z
    · exact .inl ⟨o, h⟩
    · exact .inr h
  have rel : ∀ ns : List Int, RelPs K H (ns.map .int) (ns.map V.int) := fun ns => by
    induction ns with
    | nil => exact .nil
    | cons n ns ih => exact .cons (.int n) ih
  refine ⟨rfl, [a], [.fz (ns.map .int)], [.ref 0], ⟨rfl, fun n o h => ?_, fun i j b o u hi hj e1 e2 m1 m2 => ?_⟩, .cons (.ref rfl) .nil, ?_⟩
  · cases n with
    | zero => simp at h; subst h; exact ⟨a, rfl, .fz fz (rel ns)⟩
    | succ n => simp at h
  · cases i with
    | zero => simp at e1; subst e1; cases m1
    | succ n => simp at e1
  · obtain ⟨S', hS'⟩ := ht
    rw [hS']
    intro m' H' v e rs rd
    cases rd with
    | p h => cases h; rfl
end
end PH

set_option maxHeartbeats 4000000
/-! PH, part O: how a term is worked out: rules for simp, loops, comprehensions. -/
namespace PH
open L2 PySem PySem.Spec PyProof.Rows
section
variable {M : Mo} {ρ : Nv} {S : Sto}
@[simp] theorem Res.bind_ok' {α β : Type} (a : α) (S : Sto) (f : α → Sto → Res β) : (Res.ok a S).bind f = f a S := rfl
@[simp] theorem Res.out_ok {α : Type} (a : α) (S : Sto) (ρ : Nv) (f : α → Sto → Out) : (Res.ok a S).out ρ f = f a S := rfl
@[simp] theorem Res.bind_stuck {α β : Type} (f : α → Sto → Res β) : (Res.stuck : Res α).bind f = .stuck := rfl
@[simp] theorem Out.seq_nx (ρ : Nv) (S : Sto) (f : Nv → Sto → Out) : (Out.nx ρ S).seq f = f ρ S := rfl
@[simp] theorem Out.seq_rt (d : D) (S : Sto) (f : Nv → Sto → Out) : (Out.rt d S).seq f = .rt d S := rfl
@[simp] theorem Out.seq_bk (ρ : Nv) (S : Sto) (f : Nv → Sto → Out) : (Out.bk ρ S).seq f = .bk ρ S := rfl
@[simp] theorem Out.seq_ct (ρ : Nv) (S : Sto) (f : Nv → Sto → Out) : (Out.ct ρ S).seq f = .ct ρ S := rfl
@[simp] theorem ev_v (i) : evE M (.v i) ρ S = match ρ[i]? with
    | some (some d) => .ok d S
    | _ => .stuck := by first | (rw [evE]; done) | (rw [evE]; cases ρ[i]? with | none => rfl | some o => cases o <;> rfl)
@[simp] theorem ev_k (x) : evE M (.k x) ρ S = .ok (.p x) S := by rw [evE]; rfl
@[simp] theorem ev_g (i) : evE M (.g i) ρ S = match M.glob i with
    | some x => .ok (.p x) S
    | none => .stuck := by rw [evE]; rfl
@[simp] theorem ev_tp (es) : evE M (.tp es) ρ S = (evEs M es ρ S).bind fun ds S => .ok (mkT ds) S := by rw [evE]
@[simp] theorem ev_ls (es) : evE M (.ls es) ρ S = (evEs M es ρ S).bind fun ds S => .ok (.ref S.length) (S ++ [mkL ds]) := by rw [evE]; rfl
@[simp] theorem ev_d0 : evE M .d0 ρ S = .ok (.ref S.length) (S ++ [.dc []]) := by rw [evE]; rfl
@[simp] theorem ev_bin (op a b) : evE M (.bin op a b) ρ S = (evE M a ρ S).bind fun x S => (evE M b ρ S).bind fun y S => binI op x y S := by rw [evE]
@[simp] theorem ev_neg (a) : evE M (.neg a) ρ S = (evE M a ρ S).bind negI := by rw [evE]
@[simp] theorem ev_cmp (op a b) : evE M (.cmp op a b) ρ S = (evE M a ρ S).bind fun x S => (evE M b ρ S).bind fun y S => cmpI op x y S := by rw [evE]
@[simp] theorem ev_chn (o1 o2 a b c) : evE M (.chn o1 o2 a b c) ρ S = (evE M a ρ S).bind fun x S => (evE M b ρ S).bind fun y S => (cmpI o1 x y S).bind fun t S => (truI t S).bind fun k S =>
    if k then (evE M c ρ S).bind fun z S => cmpI o2 y z S else ret1 (.bl false) S := by rw [evE]
@[simp] theorem ev_bo (o es) : evE M (.bo o es) ρ S = evB M o es ρ S := by rw [evE]
@[simp] theorem ev_no (a) : evE M (.no a) ρ S = (evE M a ρ S).bind fun x S => (truI x S).bind fun k S => .ok (.p (.bl (!k))) S := by rw [evE]; rfl
@[simp] theorem ev_ife (c a b) : evE M (.ife c a b) ρ S = (evE M c ρ S).bind fun x S => (truI x S).bind fun k S => if k then evE M a ρ S else evE M b ρ S := by rw [evE]
@[simp] theorem ev_ix (a i) : evE M (.ix a i) ρ S = (evE M a ρ S).bind fun x S => (evE M i ρ S).bind fun y S => ixI x y S := by rw [evE]
@[simp] theorem ev_slN (a) : evE M (.slN a) ρ S = (evE M a ρ S).bind fun x S => slI x none none S := by rw [evE]
@[simp] theorem ev_slL (a lo) : evE M (.slL a lo) ρ S = (evE M a ρ S).bind fun x S => (evE M lo ρ S).bind fun l S => asInt l S fun i => slI x (some i) none S := by rw [evE]
@[simp] theorem ev_slH (a hi) : evE M (.slH a hi) ρ S = (evE M a ρ S).bind fun x S => (evE M hi ρ S).bind fun l S => asInt l S fun i => slI x none (some i) S := by rw [evE]
@[simp] theorem ev_sl (a lo hi) : evE M (.sl a lo hi) ρ S = (evE M a ρ S).bind fun x S => (evE M lo ρ S).bind fun l S => asInt l S fun i => (evE M hi ρ S).bind fun l S => asInt l S fun j => slI x (some i) (some j) S := by rw [evE]
@[simp] theorem ev_call (f es) : evE M (.call f es) ρ S = (evEs M es ρ S).bind fun ds S => M.call f ds S := by rw [evE]
@[simp] theorem ev_blt (b es) : evE M (.blt b es) ρ S = (evEs M es ρ S).bind fun ds S => bltI b ds S := by rw [evE]
@[simp] theorem ev_isi (a t) : evE M (.isi a t) ρ S = (evE M a ρ S).bind fun x S => if known x S then .ok (.p (.bl (isTy x S t))) S else .stuck := by rw [evE]; rfl
@[simp] theorem ev_isT (a ts) : evE M (.isT a ts) ρ S = (evE M a ρ S).bind fun x S => if known x S then .ok (.p (.bl (ts.any (isTy x S)))) S else .stuck := by rw [evE]; rfl
@[simp] theorem ev_mth (m a es) : evE M (.mth m a es) ρ S = (evE M a ρ S).bind fun x S => if recv m x S then (evEs M es ρ S).bind fun ds S => mthI m x ds S else .stuck := by rw [evE]
@[simp] theorem ev_lc (own tg it elt) : evE M (.lc own tg it elt) ρ S = (evW M it ρ S).bind fun w S => if w.ds.length ≤ LINE then
      lcI w tg (fun _ S => .ok true S) (evE M elt) (wipeN ρ own) S.length (.pl []) w.ds (S ++ [.pl []]) else .stuck := by rw [evE]
@[simp] theorem ev_lcI (own tg it c elt) : evE M (.lcI own tg it c elt) ρ S = (evW M it ρ S).bind fun w S => if w.ds.length ≤ LINE then
      lcI w tg (fun ρ S => (evE M c ρ S).bind truI) (evE M elt) (wipeN ρ own) S.length (.pl []) w.ds (S ++ [.pl []]) else .stuck := by rw [evE]
@[simp] theorem evs_nil : evEs M .nil ρ S = .ok [] S := by rw [evEs]
@[simp] theorem evs_cons (e es) : evEs M (.cons e es) ρ S = (evE M e ρ S).bind fun d S => (evEs M es ρ S).bind fun ds S => .ok (d :: ds) S := by rw [evEs]
@[simp] theorem evb_one (o e) : evB M o (.cons e .nil) ρ S = evE M e ρ S := by rw [evB]
@[simp] theorem evb_and (e e2 es) : evB M .And (.cons e (.cons e2 es)) ρ S = (evE M e ρ S).bind fun d S => (truI d S).bind fun k S => if k = true then evB M .And (.cons e2 es) ρ S else .ok d S := by
  rw [evB]
  · congr 1; funext d S; congr 1; funext k S; cases k <;> rfl
  · intro h; cases h
@[simp] theorem evb_or (e e2 es) : evB M .Or (.cons e (.cons e2 es)) ρ S = (evE M e ρ S).bind fun d S => (truI d S).bind fun k S => if k = true then .ok d S else evB M .Or (.cons e2 es) ρ S := by
  rw [evB]
  · congr 1; funext d S; congr 1; funext k S; cases k <;> rfl
  · intro h; cases h
@[simp] theorem evw_of (e) : evW M (.of e) ρ S = (evE M e ρ S).bind wkOf := by rw [evW]
@[simp] theorem evw_rg1 (a) : evW M (.rg1 a) ρ S = (evE M a ρ S).bind fun x S => match x with
    | .p (.int n) => if small n then .ok ⟨rgS 0 1 n.toNat, none⟩ S else .stuck
    | _ => .stuck := by rw [evW] <;> congr 1
@[simp] theorem evw_rgL (a) : evW M (.rgL a) ρ S = (evE M a ρ S).bind fun x S => (bltI .len [x] S).bind fun n S => match n with
    | .p (.int n) => .ok ⟨rgS 0 1 n.toNat, none⟩ S
    | _ => .stuck := by rw [evW] <;> congr 1
@[simp] theorem evw_rg2 (a b) : evW M (.rg2 a b) ρ S = (evE M a ρ S).bind fun x S => (evE M b ρ S).bind fun y S => match x, y with
    | .p (.int i), .p (.int j) => if small i && small j then .ok ⟨rgS i 1 (j - i).toNat, none⟩ S else .stuck
    | _, _ => .stuck := by rw [evW] <;> congr 1
@[simp] theorem evc_ret (e) : evC M (.ret e) ρ S = (evE M e ρ S).out ρ .rt := by rw [evC]
@[simp] theorem evc_retN : evC M .retN ρ S = .rt (.p .non) S := by rw [evC]
@[simp] theorem evc_asg (tg e) : evC M (.asg tg e) ρ S = (evE M e ρ S).out ρ fun d S => match asgT tg d ρ with
    | some ρ' => .nx ρ' S
    | none => .stuck := by rw [evC] <;> congr 1
@[simp] theorem evc_ex (e) : evC M (.ex e) ρ S = (evE M e ρ S).out ρ fun _ S => .nx ρ S := by rw [evC]
@[simp] theorem evc_sub (a i e) : evC M (.sub a i e) ρ S = (evE M e ρ S).out ρ fun y S => (evE M a ρ S).out ρ fun x S => (evE M i ρ S).out ρ fun k S => match subI x k y S with
    | some S' => .nx ρ S'
    | none => .stuck := by rw [evC] <;> congr 1
@[simp] theorem evc_ite (c t f) : evC M (.ite c t f) ρ S = ((evE M c ρ S).bind truI).out ρ fun k S => if k then evCz M t ρ S else evCz M f ρ S := by rw [evC]; rfl
@[simp] theorem evc_for (tg it body) : evC M (.forr tg it body) ρ S = (evW M it ρ S).out ρ fun w S => forI w tg (evCz M body) w.ds ρ S := by rw [evC]
@[simp] theorem evc_whl (c body) : evC M (.whl c body) ρ S = whlI (fun ρ S => (evE M c ρ S).bind truI) (evCz M body) ρ S := by rw [evC]; rfl
@[simp] theorem evc_pas : evC M .pas ρ S = .nx ρ S := by rw [evC]
@[simp] theorem evc_brk : evC M .brk ρ S = .bk ρ S := by rw [evC]
@[simp] theorem ev_dead : evE M .dead ρ S = .stuck := by rw [evE]
@[simp] theorem evc_dead : evC M .dead ρ S = .stuck := by rw [evC]
@[simp] theorem Res.bind_exc {α β : Type} (x : Ex) (S : Sto) (f : α → Sto → Res β) : (Res.exc x S : Res α).bind f = .exc x S := rfl
@[simp] theorem Res.out_exc {α : Type} (x : Ex) (S : Sto) (ρ : Nv) (f : α → Sto → Out) : (Res.exc x S : Res α).out ρ f = .exc x ρ S := rfl
@[simp] theorem Out.seq_exc (x : Ex) (ρ : Nv) (S : Sto) (f : Nv → Sto → Out) : (Out.exc x ρ S).seq f = .exc x ρ S := rfl
theorem evc_unl {ts : List Tg} {e : E} {d : D} {xs : List D} {S1 : Sto} {ρ1 : Nv} (h : evE M e ρ S = .ok d S1) (hl : lsts d S1 = some xs) (ha : asgTs ts xs ρ = some ρ1) : evC M (.unl ts e) ρ S = .nx ρ1 S1 := by
  rw [evC, h]
  simp only [Res.out_ok, hl, ha]
@[simp] theorem evc_rse (c fs es) : evC M (.rse c fs es) ρ S = (evEs M es ρ S).out ρ fun ds S => if ds.length = fs.length then .exc ⟨c, fs.zip ds⟩ ρ S else .stuck := by rw [evC]
theorem ev_fld {i : Nat} {f : String} {a d c : Nat} {fs : List (String × PD)} {y : PD} (h : ρ[i]? = some (some (.xv a d c fs))) (hM : M.glob XC = some (.tup [.int a, .int d, .int c])) (hl : fs.lookup f = some y) : evE M (.fld i f) ρ S = .ok (.p y) S := by
  rw [evE, h, hM]
  simp only [and_self, if_true, hl]
  rfl
theorem ev_isx {i : Nat} {a d c : Nat} {fs : List (String × PD)} {cs : List Nat} (h : ρ[i]? = some (some (.xv a d c fs))) (hM : M.glob XC = some (.tup [.int a, .int d, .int c])) : evE M (.isx i cs) ρ S = .ok (.p (.bl (cs.any (subX c)))) S := by
  rw [evE, h, hM]
  simp only [and_self, if_true]
  rfl
theorem any_eq {F : Nat → Nat → Out} {r : Out} (h : ∀ a d, F a d = r) : anyAt F = r := by
  have hx : ∃ r, ∀ a d, F a d = r := ⟨r, h⟩
  unfold anyAt
  rw [dif_pos hx, ← hx.choose_spec 0 0, h]
/-- try: no exception -/
theorem trx_no {body suite : Cz} {kn : List Nat} {c i : Nat} {r : Out} (hb : evCz M body ρ S = r) (h : ∀ x ρ1 S1, r ≠ .exc x ρ1 S1) : evC M (.trx body kn c i suite) ρ S = r := by
  rw [evC]
  unfold trxF
  rw [hb]
  cases r with
  | exc x ρ1 S1 => exact absurd rfl (h x ρ1 S1)
  | _ => rfl
/-- try: an exception that is caught -/
theorem trx_exc {body suite : Cz} {kn : List Nat} {c i : Nat} {x : Ex} {ρ1 : Nv} {S1 : Sto} {fs : List (String × PD)} {r : Out} (hb : evCz M body ρ S = .exc x ρ1 S1) (hk : x.c ∈ kn) (hs : subX x.c c = true) (hf : allX x.fs = some fs)
    (h : ∀ a d, (evCz (M.at a d x.c) suite (ρ1.set i (some (.xv a d x.c fs))) S1).gone i = r) : evC M (.trx body kn c i suite) ρ S = r := by
  rw [evC]
  unfold trxF
  rw [hb]
  simp only [hk, hs, if_true, hf]
  exact any_eq h
theorem try0_no {body suite : Cz} {kn : List Nat} {c : Nat} {r : Out} (hb : evCz M body ρ S = r) (h : ∀ x ρ1 S1, r ≠ .exc x ρ1 S1) : evC M (.try0 body kn c suite) ρ S = r := by
  rw [evC]
  unfold try0F
  rw [hb]
  cases r with
  | exc x ρ1 S1 => exact absurd rfl (h x ρ1 S1)
  | _ => rfl
theorem try0_exc {body suite : Cz} {kn : List Nat} {c : Nat} {x : Ex} {ρ1 : Nv} {S1 : Sto} {r : Out} (hb : evCz M body ρ S = .exc x ρ1 S1) (hk : x.c ∈ kn) (hs : subX x.c c = true) (h : ∀ a d, (evCz (M.at a d x.c) suite ρ1 S1).noX = r) : evC M (.try0 body kn c suite) ρ S = r := by
  rw [evC]
  unfold try0F
  rw [hb]
  simp only [hk, hs, if_true]
  exact any_eq h
theorem evz_exc {c : C} {cs : Cz} {x : Ex} {ρ1 : Nv} {S1 : Sto} (h : evC M c ρ S = .exc x ρ1 S1) : evCz M (.cons c cs) ρ S = .exc x ρ1 S1 := by rw [evCz, h]; rfl
@[simp] theorem evc_cnt : evC M .cnt ρ S = .ct ρ S := by rw [evC]
@[simp] theorem evz_nil : evCz M .nil ρ S = .nx ρ S := by rw [evCz]
@[simp] theorem evz_cons (c cs) : evCz M (.cons c cs) ρ S = (evC M c ρ S).seq (evCz M cs) := by rw [evCz]
theorem evz_step {c : C} {cs : Cz} {ρ1 : Nv} {S1 : Sto} (h : evC M c ρ S = .nx ρ1 S1) : evCz M (.cons c cs) ρ S = evCz M cs ρ1 S1 := by rw [evz_cons, h]; rfl
theorem evz_end {c : C} {cs : Cz} {d : D} {S1 : Sto} (h : evC M c ρ S = .rt d S1) : evCz M (.cons c cs) ρ S = .rt d S1 := by rw [evz_cons, h]; rfl
@[simp] theorem asg_nm (i : Nat) (d : D) : asgT (.nm i) d ρ = some (ρ.set i (some d)) := rfl
theorem Out.seq_ite {p : Prop} [Decidable p] (a b : Out) (f : Nv → Sto → Out) : (if p then a else b).seq f = if p then a.seq f else b.seq f := by split <;> rfl

/-! ### operations -/
@[simp] theorem ret1_eq (x : PD) (S : Sto) : ret1 x S = .ok (.p x) S := rfl
@[simp] theorem new_eq (o : O) (S : Sto) : new o S = .ok (.ref S.length) (S ++ [o]) := rfl
@[simp] theorem asInt_int (i : Int) (S : Sto) (f : Int → Res D) : asInt (.p (.int i)) S f = f i := rfl
@[simp] theorem bin_add (i j : Int) : binI .Add (.p (.int i)) (.p (.int j)) S = .ok (.p (.int (i + j))) S := rfl
@[simp] theorem bin_sub (i j : Int) : binI .Sub (.p (.int i)) (.p (.int j)) S = .ok (.p (.int (i - j))) S := rfl
theorem bin_mul {i j : Int} (h : i.natAbs < 2 ^ 64 ∨ j.natAbs < 2 ^ 64) : binI .Mult (.p (.int i)) (.p (.int j)) S = .ok (.p (.int (i * j))) S := by simp only [binI, if_pos h]; rfl
@[simp] theorem bin_mulR (i : Int) {j : Int} (h : j.natAbs < 2 ^ 64) : binI .Mult (.p (.int i)) (.p (.int j)) S = .ok (.p (.int (i * j))) S := bin_mul (.inr h)
@[simp] theorem bin_mulL {i : Int} (j : Int) (h : i.natAbs < 2 ^ 64) : binI .Mult (.p (.int i)) (.p (.int j)) S = .ok (.p (.int (i * j))) S := bin_mul (.inl h)
@[simp] theorem bin_div {i j : Int} (h : 0 < j ∧ j < 1073741824) : binI .FloorDiv (.p (.int i)) (.p (.int j)) S = .ok (.p (.int (i / j))) S := by simp only [binI, if_pos h]; rfl
@[simp] theorem bin_mod {i j : Int} (h : 0 < j) : binI .Mod (.p (.int i)) (.p (.int j)) S = .ok (.p (.int (i % j))) S := by simp only [binI, if_pos h]; rfl
@[simp] theorem bin_pow {i j : Int} (h : 0 ≤ j ∧ j ≤ 1000000 ∧ i.natAbs < 2 ^ 64) : binI .Pow (.p (.int i)) (.p (.int j)) S = .ok (.p (.int (i ^ j.toNat))) S := by simp only [binI, if_pos h]; rfl
@[simp] theorem bin_addS {a b : Cs} (h : a.length + b.length ≤ LINE) : binI .Add (.p (.str a)) (.p (.str b)) S = .ok (.p (.str (a ++ b))) S := by simp only [binI, if_pos h]; rfl
@[simp] theorem bin_addT {a b : List PD} (h : a.length + b.length ≤ LINE) : binI .Add (.p (.tup a)) (.p (.tup b)) S = .ok (.p (.tup (a ++ b))) S := by simp only [binI, if_pos h]; rfl
theorem bin_addL {m n : Nat} {a b : List PD} (h1 : S[m]? = some (.pl a)) (h2 : S[n]? = some (.pl b)) (h : a.length + b.length ≤ LINE) : binI .Add (.ref m) (.ref n) S = .ok (.ref S.length) (S ++ [.pl (a ++ b)]) := by simp only [binI, h1, h2, if_pos h]; rfl
@[simp] theorem neg_int (i : Int) : negI (.p (.int i)) S = .ok (.p (.int (-i))) S := rfl
@[simp] theorem tru_bl (b : Bool) : truI (.p (.bl b)) S = .ok b S := rfl
@[simp] theorem tru_int (b : Int) : truI (.p (.int b)) S = .ok (b != 0) S := rfl
@[simp] theorem tru_str (b : Cs) : truI (.p (.str b)) S = .ok (!b.isEmpty) S := rfl
@[simp] theorem tru_tup (b : List PD) : truI (.p (.tup b)) S = .ok (!b.isEmpty) S := rfl
@[simp] theorem tru_non : truI (.p .non) S = .ok false S := rfl
@[simp] theorem cmp_lt (i j : Int) : cmpI .Lt (.p (.int i)) (.p (.int j)) S = .ok (.p (.bl (decide (i < j)))) S := by
  have h : ltP (.int i) (.int j) = some (decide (i < j)) := by
    unfold ltP
    rw [if_pos ⟨rfl, (fun z => by cases z), (by simp [PD.dep, PD.py, PyData.depth])⟩]
    exact congrArg some (PySem.W.dataLt_int i j)
  simp only [cmpI, h]; rfl
@[simp] theorem cmp_gt (i j : Int) : cmpI .Gt (.p (.int i)) (.p (.int j)) S = .ok (.p (.bl (decide (j < i)))) S := rfl
@[simp] theorem cmp_le (i j : Int) : cmpI .LtE (.p (.int i)) (.p (.int j)) S = .ok (.p (.bl (decide (i ≤ j)))) S := rfl
@[simp] theorem cmp_ge (i j : Int) : cmpI .GtE (.p (.int i)) (.p (.int j)) S = .ok (.p (.bl (decide (j ≤ i)))) S := rfl
@[simp] theorem cmp_isB (b c : Bool) : cmpI .Is (.p (.bl b)) (.p (.bl c)) S = .ok (.p (.bl (decide (b = c)))) S := rfl
@[simp] theorem cmp_isnB (b c : Bool) : cmpI .IsNot (.p (.bl b)) (.p (.bl c)) S = .ok (.p (.bl (!decide (b = c)))) S := rfl
@[simp] theorem cmp_isN : cmpI .Is (.p .non) (.p .non) S = .ok (.p (.bl true)) S := rfl
theorem cmp_in1 (c : Nat) (z : Cs) : cmpI .In (.p (.str [c])) (.p (.str z)) S = .ok (.p (.bl (decide (c ∈ z)))) S := rfl
theorem cmp_nin1 (c : Nat) (z : Cs) : cmpI .NotIn (.p (.str [c])) (.p (.str z)) S = .ok (.p (.bl (!decide (c ∈ z)))) S := rfl
@[simp] theorem eqv_int (i j : Int) : PyData.eqv (.int i) (.int j) = decide (i = j) := by
  show (i == j) = _
  rfl
/-- a number or text compared with == -/
@[simp] theorem eq_int (i j : Int) : cmpI .Eq (.p (.int i)) (.p (.int j)) S = .ok (.p (.bl (decide (i = j)))) S := by
  have h : eqI (.p (.int i)) (.p (.int j)) S = some (decide (i = j)) := by
    simp only [eqI, toPy, PD.py]
    rw [if_pos (.inl (by simp [PyData.depth])), eqv_int]
  simp only [cmpI, h]; rfl
@[simp] theorem ne_int (i j : Int) : cmpI .NotEq (.p (.int i)) (.p (.int j)) S = .ok (.p (.bl (!decide (i = j)))) S := by
  have h : eqI (.p (.int i)) (.p (.int j)) S = some (decide (i = j)) := by
    simp only [eqI, toPy, PD.py]
    rw [if_pos (.inl (by simp [PyData.depth])), eqv_int]
  simp only [cmpI, h]; rfl
@[simp] theorem len_str (s : Cs) : bltI .len [.p (.str s)] S = .ok (.p (.int s.length)) S := rfl
@[simp] theorem len_tup (s : List PD) : bltI .len [.p (.tup s)] S = .ok (.p (.int s.length)) S := rfl
theorem len_ref {n : Nat} {o : O} (h : S[n]? = some o) (hl : o.isL = true) : bltI .len [.ref n] S = .ok (.p (.int o.ds.length)) S := by simp only [bltI, Sto.lst, h, hl]; rfl
@[simp] theorem int_int (i : Int) : bltI .int [.p (.int i)] S = .ok (.p (.int i)) S := rfl
@[simp] theorem ord_str (i : Nat) : bltI .ord [.p (.str [i])] S = .ok (.p (.int i)) S := rfl
@[simp] theorem wk_str (s : Cs) : wkOf (.p (.str s)) S = .ok ⟨s.map fun c => .p (.str [c]), none⟩ S := rfl
@[simp] theorem wk_tup (s : List PD) : wkOf (.p (.tup s)) S = .ok ⟨s.map .p, none⟩ S := rfl
@[simp] theorem still_none (ds : List D) (S : Sto) : (Wk.mk ds none).still S = true := rfl
theorem wk_ref {n : Nat} {o : O} (h : S[n]? = some o) (hl : o.isL = true) : wkOf (.ref n) S = .ok ⟨o.ds, some (n, o)⟩ S := by simp only [wkOf, h, hl, if_true]
/-- a list or a tuple of data, walked -/
theorem wk_data {d : D} {xs : List PD} (h : dataOf d S = some xs) : ∃ w, wkOf d S = .ok w S ∧ w.ds = xs.map .p ∧ ∀ l, w.still (S ++ l) = true := by
  unfold dataOf at h
  split at h
  · cases h; exact ⟨_, rfl, rfl, fun _ => rfl⟩
  · rename_i n
    split at h
    · rename_i ys hn
      cases h
      exact ⟨⟨_, some (n, _)⟩, wk_ref hn rfl, rfl, fun l => by simp only [Wk.still]; exact decide_eq_true (pre_get hn)⟩
    · rename_i ys hn
      cases h
      exact ⟨⟨_, some (n, _)⟩, wk_ref hn rfl, rfl, fun l => by simp only [Wk.still]; exact decide_eq_true (pre_get hn)⟩
    · cases h
  · cases h
theorem len_data {d : D} {xs : List PD} (h : dataOf d S = some xs) : bltI .len [d] S = .ok (.p (.int xs.length)) S := by
  unfold dataOf at h
  split at h
  · cases h; rfl
  · rename_i n
    split at h
    · rename_i ys hn; cases h; rw [len_ref hn rfl]; simp [O.ds]
    · rename_i ys hn; cases h; rw [len_ref hn rfl]; simp [O.ds]
    · cases h
  · cases h
theorem atI_map {α β : Type} (f : α → β) (xs : List α) (i : Int) : atI (xs.map f) i = (atI xs i).map f := by
  unfold atI
  rw [List.length_map]
  cases ixN xs.length i with
  | none => rfl
  | some j => simp
theorem atI_in {α : Type} [Inhabited α] {xs : List α} {i : Int} (h0 : 0 ≤ i) (h1 : i < xs.length) : atI xs i = some xs[i.toNat]! := by
  unfold atI ixN
  rw [if_pos h0, if_pos h1]
  have : i.toNat < xs.length := by omega
  simp [this]
theorem ix_data {d : D} {xs : List PD} {i : Int} {x : PD} (h : dataOf d S = some xs) (hi : atI xs i = some x) : ixI d (.p (.int i)) S = .ok (.p x) S := by
  unfold dataOf at h
  split at h
  · cases h; simp only [ixI, hi]; rfl
  · rename_i n
    split at h
    · rename_i ys hn; cases h; simp only [ixI, Sto.lst, hn, O.isL, O.ds, if_true, atI_map, hi]; rfl
    · rename_i ys hn; cases h; simp only [ixI, Sto.lst, hn, O.isL, O.ds, if_true, atI_map, hi]; rfl
    · cases h
  · cases h
theorem data_app {d : D} {xs : List PD} (h : dataOf d S = some xs) (l : Sto) : dataOf d (S ++ l) = some xs := by
  unfold dataOf at h ⊢
  split at h
  · exact h
  · rename_i n
    split at h
    · rename_i ys hn; cases h; simp only [pre_get hn]
    · rename_i ys hn; cases h; simp only [pre_get hn]
    · cases h
  · cases h
theorem ix_int {d : D} {xs : List Int} {i : Int} (h : dataOf d S = some (xs.map .int)) (h0 : 0 ≤ i) (h1 : i < xs.length) : ixI d (.p (.int i)) S = .ok (.p (.int xs[i.toNat]!)) S :=
  ix_data h (by rw [atI_map, atI_in h0 h1]; rfl)
theorem ix_str {s : Cs} {i : Int} (h0 : 0 ≤ i) (h1 : i < s.length) : ixI (.p (.str s)) (.p (.int i)) S = .ok (.p (.str [s[i.toNat]!])) S := by simp only [ixI, atI_in h0 h1]; rfl
theorem get_mem {α : Type} [Inhabited α] {xs : List α} {i : Nat} (h : i < xs.length) : xs[i]! ∈ xs := by simp [h]
theorem app_new {n : Nat} {xs : List PD} {x : PD} (h : S.length = n) (hl : xs.length < LINE) : mthI .append (.ref n) [.p x] (S ++ [.pl xs]) = .ok (.p .non) (S ++ [.pl (xs ++ [x])]) := by
  subst h
  have : (S ++ [O.pl xs])[S.length]? = some (.pl xs) := by simp
  simp only [mthI, this, O.ds, List.length_map, if_pos hl, O.push, ret1_eq]
  congr 1
  simp
@[simp] theorem recv_str (s : Cs) : recv .join (.p (.str s)) S = true := rfl
@[simp] theorem recv_str2 (s : Cs) : recv .find (.p (.str s)) S = true := rfl
theorem recv_new {n : Nat} {o : O} {m : Mt} (h : S[n]? = some o) (hl : o.isL = true) (hm : m.ofL = true) : recv m (.ref n) S = true := by simp only [recv, hm, Sto.lst, h, hl, if_true]; rfl

/-! ### what a call leaves -/
@[simp] theorem tidy_p (x : PD) : tidy S S (.p x) = .ok (.p x) S := by simp [tidy]
@[simp] theorem tidy_pa (l : Sto) (x : PD) : tidy S (S ++ l) (.p x) = .ok (.p x) S := by simp [tidy]
@[simp] theorem tidy_new (xs : List PD) : tidy S (S ++ [.pl xs]) (.ref S.length) = .ok (.ref S.length) (S ++ [.pl xs]) := by simp [tidy]
theorem tidy_new' {l : Sto} {j : Nat} {xs : List PD} (h : S.length ≤ j) (h1 : (S ++ l)[j]? = some (.pl xs)) : tidy S (S ++ l) (.ref j) = .ok (.ref S.length) (S ++ [.pl xs]) := by
  have : ¬ j < S.length := by omega
  simp [tidy, this, h1]
theorem runB_rt {df : Df} {ds : List D} {d : D} {S' : Sto} {r : Res D} (h : evCz M df.body (ds.map some ++ List.replicate (df.n - df.np) none) S = .rt d S') (ht : tidy S S' d = r) : runB M df ds S = r := by unfold runB; rw [h]; exact ht
theorem runB_exc {df : Df} {ds : List D} {x : Ex} {ρ' : Nv} {S' : Sto} {r : Res D} (h : evCz M df.body (ds.map some ++ List.replicate (df.n - df.np) none) S = .exc x ρ' S') (ht : tidyX S S' x = r) : runB M df ds S = r := by unfold runB; rw [h]; exact ht
theorem tidyX_same {x : Ex} (l : Sto) (h : x.fs.all (fun p => D.bel S.length p.2) = true) : tidyX S (S ++ l) x = .exc x S := by
  unfold tidyX
  rw [if_pos ⟨.inl (by simp), h⟩]
  simp
theorem call_of {ents : List Ent} {gl : Nat → Option PD} {k f : Nat} {e : Ent} {ds : List D} {r : Res D} (he : ents[f]? = some e) (hl : ds.length = e.df.np) (h : runB ⟨callI (dfs ents) gl k, gl⟩ e.df ds S = r) : callI (dfs ents) gl (k + 1) f ds S = r := by
  unfold callI
  simp only [dfs, he, Option.map_some, if_pos hl]
  exact h

/-! ### loops -/
theorem forI_inv {w : Wk} {tg : Tg} {body : Nv → Sto → Out} (P : List D → Nv → Sto → Prop) (R : Out → Prop) (B : Nv → Sto → Prop)
    (h1 : ∀ d ds ρ S, P (d :: ds) ρ S → w.still S = true ∧ ∃ ρ1, asgT tg d ρ = some ρ1 ∧ ((∃ ρ2 S2, (body ρ1 S = .nx ρ2 S2 ∨ body ρ1 S = .ct ρ2 S2) ∧ P ds ρ2 S2) ∨ (∃ ρ2 S2, body ρ1 S = .bk ρ2 S2 ∧ B ρ2 S2) ∨ (∃ d S2, body ρ1 S = .rt d S2 ∧ R (.rt d S2))))
    (h0 : ∀ ρ S, P [] ρ S → w.still S = true) : ∀ ds ρ S, P ds ρ S → (∃ ρ' S', forI w tg body ds ρ S = .nx ρ' S' ∧ (P [] ρ' S' ∨ B ρ' S')) ∨ ∃ d S', forI w tg body ds ρ S = .rt d S' ∧ R (.rt d S')
  | [], ρ, S, h => .inl ⟨ρ, S, by unfold forI; rw [if_pos (h0 ρ S h)], .inl h⟩
  | d :: ds, ρ, S, h => by
    obtain ⟨hs, ρ1, ha, hb⟩ := h1 d ds ρ S h
    rcases hb with ⟨ρ2, S2, hb | hb, hp⟩ | ⟨ρ2, S2, hb, hp⟩ | ⟨d2, S2, hb, hp⟩
    · rcases forI_inv P R B h1 h0 ds ρ2 S2 hp with ⟨ρ', S', e, q⟩ | ⟨d', S', e, q⟩
      · exact .inl ⟨ρ', S', by unfold forI; rw [if_pos hs]; simp only [ha, hb, e], q⟩
      · exact .inr ⟨d', S', by unfold forI; rw [if_pos hs]; simp only [ha, hb, e], q⟩
    · rcases forI_inv P R B h1 h0 ds ρ2 S2 hp with ⟨ρ', S', e, q⟩ | ⟨d', S', e, q⟩
      · exact .inl ⟨ρ', S', by unfold forI; rw [if_pos hs]; simp only [ha, hb, e], q⟩
      · exact .inr ⟨d', S', by unfold forI; rw [if_pos hs]; simp only [ha, hb, e], q⟩
    · exact .inl ⟨ρ2, S2, by unfold forI; rw [if_pos hs]; simp only [ha, hb], .inr hp⟩
    · exact .inr ⟨d2, S2, by unfold forI; rw [if_pos hs]; simp only [ha, hb], hp⟩
/-- a loop without an early end -/
theorem forI_nx {w : Wk} {tg : Tg} {body : Nv → Sto → Out} (P : List D → Nv → Sto → Prop)
    (h1 : ∀ d ds ρ S, P (d :: ds) ρ S → w.still S = true ∧ ∃ ρ1, asgT tg d ρ = some ρ1 ∧ ∃ ρ2 S2, (body ρ1 S = .nx ρ2 S2 ∨ body ρ1 S = .ct ρ2 S2) ∧ P ds ρ2 S2)
    (h0 : ∀ ρ S, P [] ρ S → w.still S = true) {ds ρ S} (h : P ds ρ S) : ∃ ρ' S', forI w tg body ds ρ S = .nx ρ' S' ∧ P [] ρ' S' := by
  rcases forI_inv P (fun _ => False) (fun _ _ => False) (fun d ds ρ S hp => let ⟨a, ρ1, b, c⟩ := h1 d ds ρ S hp; ⟨a, ρ1, b, .inl c⟩) h0 ds ρ S h with ⟨ρ', S', e, q | q⟩ | ⟨d, S', _, q⟩
  · exact ⟨ρ', S', e, q⟩
  · exact q.elim
  · exact q.elim
/-- a comprehension that makes data and leaves the store alone -/
theorem lcI_pure {w : Wk} {tg : Tg} {c : Nv → Sto → Res Bool} {elt : Nv → Sto → Res D} {ρ : Nv} {S0 : Sto} (p : D → Bool) (f : D → PD) (hs : ∀ l, w.still (S0 ++ l) = true) :
    ∀ (ds : List D) (acc : List PD), (∀ d ∈ ds, ∃ ρ1, asgT tg d ρ = some ρ1 ∧ ∀ l, c ρ1 (S0 ++ l) = .ok (p d) (S0 ++ l) ∧ (p d = true → elt ρ1 (S0 ++ l) = .ok (.p (f d)) (S0 ++ l))) →
      lcI w tg c elt ρ S0.length (.pl acc) ds (S0 ++ [.pl acc]) = .ok (.ref S0.length) (S0 ++ [.pl (acc ++ (ds.filter p).map f)])
  | [], acc, h => by unfold lcI; rw [if_pos (hs _)]; simp
  | d :: ds, acc, h => by
    obtain ⟨ρ1, ha, hb⟩ := h d List.mem_cons_self
    obtain ⟨hc, he⟩ := hb [.pl acc]
    have g : (S0 ++ [O.pl acc])[S0.length]? = some (.pl acc) := by simp
    unfold lcI
    rw [if_pos (hs _)]
    cases q : p d with
    | false =>
      rw [q] at hc
      simp only [ha, hc, g, if_true]
      rw [lcI_pure p f hs ds acc fun d hd => h d (List.mem_cons_of_mem _ hd)]
      simp [q]
    | true =>
      rw [q] at hc
      simp only [ha, hc, he q, g, if_true, O.push]
      have : (S0 ++ [O.pl acc]).set S0.length (.pl (acc ++ [f d])) = S0 ++ [.pl (acc ++ [f d])] := by simp
      rw [this, lcI_pure p f hs ds (acc ++ [f d]) fun d hd => h d (List.mem_cons_of_mem _ hd)]
      simp [q]
theorem lc_map {w : Wk} {tg : Tg} {elt : Nv → Sto → Res D} {ρ : Nv} {S0 : Sto} (f : D → PD) (hs : ∀ l, w.still (S0 ++ l) = true) (h : ∀ d ∈ w.ds, ∃ ρ1, asgT tg d ρ = some ρ1 ∧ ∀ l, elt ρ1 (S0 ++ l) = .ok (.p (f d)) (S0 ++ l)) :
    lcI w tg (fun _ S => .ok true S) elt ρ S0.length (.pl []) w.ds (S0 ++ [.pl []]) = .ok (.ref S0.length) (S0 ++ [.pl (w.ds.map f)]) := by
  rw [lcI_pure (fun _ => true) f hs w.ds [] fun d hd => let ⟨ρ1, a, b⟩ := h d hd; ⟨ρ1, a, fun l => ⟨rfl, fun _ => b l⟩⟩]
  rw [List.filter_eq_self.mpr (fun _ _ => rfl)]
  simp
theorem small_nat {n : Nat} (h : n ≤ LINE) : small (n : Int) = true := by
  have : n ≤ 16777216 := h
  simp only [small, Bool.and_eq_true, decide_eq_true_eq]
  constructor
  · exact Int.le_trans (by decide) (Int.natCast_nonneg n)
  · omega
@[simp] theorem rgS_len (a c : Int) (n : Nat) : (rgS a c n).length = n := by simp [rgS]
end
end PH

set_option maxHeartbeats 4000000
/-! PH, part P: the helper that all laws share: numbers out of the script. -/
namespace PH
open L2 PySem PySem.Spec PyProof.Rows
def numDf : Df := ⟨3, 9, (.cons (.asg (.nm 3) (.k (.int 0)))
  (.cons (.ite (.cmp .Lt (.v 1) (.blt .len (.cons (.v 0) .nil))) (.cons (.asg (.nm 3) (.ix (.v 0) (.v 1)))
    .nil) .nil)
  (.cons (.asg (.nm 4) (.ls .nil))
  (.cons (.ite (.cmp .GtE (.v 3) (.bin .Pow (.k (.int 10)) (.k (.int 18)))) (.cons (.asg (.nm 5) (.bin .Sub (.v 3) (.bin .Pow (.k (.int 10)) (.k (.int 18)))))
    (.cons (.forr (.nm 6) (.rg1 (.v 2)) (.cons (.ex (.mth .append (.v 4) (.cons (.bin .Mod (.blt .int (.cons (.v 5) .nil)) (.k (.int 1000000))) .nil)))
      (.cons (.asg (.nm 5) (.bin .FloorDiv (.v 5) (.k (.int 1000000))))
      .nil)))
    (.cons (.ret (.v 4))
    .nil))) .nil)
  (.cons (.asg (.nm 7) (.k (.int 0)))
  (.cons (.ite (.cmp .Gt (.blt .len (.cons (.v 0) .nil)) (.k (.int 0))) (.cons (.asg (.nm 7) (.bin .Mod (.blt .int (.cons (.ix (.v 0) (.k (.int 0))) .nil)) (.k (.int 2147483647))))
    .nil) .nil)
  (.cons (.asg (.nm 8) (.bin .Mod (.blt .int (.cons (.bin .Add (.bin .Add (.bin .Mult (.bin .Mod (.blt .int (.cons (.v 3) .nil)) (.k (.int 2147483647))) (.k (.int 69621))) (.bin .Mult (.bin .Add (.v 1) (.k (.int 1))) (.k (.int 40692)))) (.bin .Mult (.v 7) (.k (.int 16807)))) .nil)) (.k (.int 2147483647))))
  (.cons (.forr (.nm 6) (.rg1 (.v 2)) (.cons (.asg (.nm 8) (.bin .Mod (.blt .int (.cons (.bin .Add (.bin .Mult (.v 8) (.k (.int 48271))) (.k (.int 30011))) .nil)) (.k (.int 2147483647))))
    (.cons (.ex (.mth .append (.v 4) (.cons (.bin .Mod (.bin .FloorDiv (.v 8) (.k (.int 1024))) (.k (.int 1000000))) .nil)))
    .nil)))
  (.cons (.ret (.v 4))
  .nil)))))))))⟩
/-- numbers below a million -/
def Low (xs : List Int) : Prop := ∀ x ∈ xs, 0 ≤ x ∧ x < 1000000
theorem Low.snoc {xs : List Int} (h : Low xs) (y : Int) : Low (xs ++ [y % 1000000]) := fun x hx => by
  rcases List.mem_append.mp hx with z | z
  · exact h x z
  · simp only [List.mem_singleton] at z
    subst z
    exact ⟨Int.emod_nonneg _ (by decide), Int.emod_lt_of_pos _ (by decide)⟩
theorem Low.at {xs : List Int} (h : Low xs) {i : Nat} (hi : i < xs.length) : 0 ≤ xs[i]! ∧ xs[i]! < 1000000 := h _ (get_mem hi)
/-- what the loops keep -/
def NumP (S0 : Sto) (c : Nat) (f : Nv → Prop) (ds : List D) (ρ : Nv) (S : Sto) : Prop := f ρ ∧ ∃ xs : List Int, S = S0 ++ [.pl (xs.map .int)] ∧ xs.length + ds.length = c ∧ Low xs
theorem numbers_run (M : Mo) {S : Sto} {n : Nat} {ns : List Int} {k c : Int} (hn : S[n]? = some (.fz (ns.map .int))) (hk : 0 ≤ k) (h0 : 0 ≤ c) (hc : c ≤ 1000) :
    ∃ xs : List Int, xs.length = c.toNat ∧ Low xs ∧ runB M numDf [.ref n, .p (.int k), .p (.int c)] S = .ok (.ref S.length) (S ++ [.pl (xs.map .int)]) := by
  have hd : dataOf (.ref n) S = some (ns.map .int) := by simp only [dataOf, hn]
  have hd' : ∀ l, dataOf (.ref n) (S ++ l) = some (ns.map .int) := data_app hd
  have hlen : ∀ l, bltI .len [.ref n] (S ++ l) = .ok (.p (.int ns.length)) (S ++ l) := fun l => by rw [len_data (hd' l)]; simp
  have hlen0 : bltI .len [.ref n] S = .ok (.p (.int ns.length)) S := by rw [len_data hd]; simp
  have hsm : small c = true := by
    simp only [small, Bool.and_eq_true, decide_eq_true_eq]
    constructor <;> omega
  have g : ∀ xs : List PD, (S ++ [O.pl xs])[S.length]? = some (.pl xs) := fun xs => by simp
  have rc : ∀ xs : List PD, recv .append (.ref S.length) (S ++ [O.pl xs]) = true := fun xs => recv_new (g xs) rfl rfl
  have ap : ∀ (xs : List Int) (y : Int), xs.length < 1000 → mthI .append (.ref S.length) [.p (.int y)] (S ++ [O.pl (xs.map .int)]) = .ok (.p .non) (S ++ [.pl ((xs ++ [y]).map .int)]) := fun xs y h => by
    rw [app_new rfl (by simp [LINE]; omega)]; simp
  -- the cell
  have cell : ∃ z : Int, (evC M (.ite (.cmp .Lt (.v 1) (.blt .len (.cons (.v 0) .nil))) (.cons (.asg (.nm 3) (.ix (.v 0) (.v 1))) .nil) .nil) [some (.ref n), some (.p (.int k)), some (.p (.int c)), some (.p (.int 0)), none, none, none, none, none] S) = .nx [some (.ref n), some (.p (.int k)), some (.p (.int c)), some (.p (.int z)), none, none, none, none, none] S := by
    by_cases hl : k < ns.length
    · exact ⟨_, by simp [hlen0, hl, ix_int hd hk hl, asgT]; rfl⟩
    · exact ⟨0, by simp [hlen0, hl]⟩
  obtain ⟨z, hz⟩ := cell
  by_cases hb : (10 : Int) ^ 18 ≤ z
  · -- the figures of a great number
    have loop : ∀ (r : Int) , ∃ ρ' S', forI ⟨rgS 0 1 c.toNat, none⟩ (.nm 6) (evCz M (.cons (.ex (.mth .append (.v 4) (.cons (.bin .Mod (.blt .int (.cons (.v 5) .nil)) (.k (.int 1000000))) .nil))) (.cons (.asg (.nm 5) (.bin .FloorDiv (.v 5) (.k (.int 1000000)))) .nil)))
        (rgS 0 1 c.toNat) [some (.ref n), some (.p (.int k)), some (.p (.int c)), some (.p (.int z)), some (.ref S.length), some (.p (.int r)), none, none, none] (S ++ [.pl []]) = .nx ρ' S' ∧
        NumP S c.toNat (fun ρ => ∃ r j, ρ = [some (.ref n), some (.p (.int k)), some (.p (.int c)), some (.p (.int z)), some (.ref S.length), some (.p (.int r)), j, none, none]) [] ρ' S' := fun r => by
      refine forI_nx (NumP S c.toNat (fun ρ => ∃ r j, ρ = [some (.ref n), some (.p (.int k)), some (.p (.int c)), some (.p (.int z)), some (.ref S.length), some (.p (.int r)), j, none, none])) (fun d ds ρ S' h => ⟨rfl, ?_⟩) (fun _ _ _ => rfl) ⟨⟨r, none, rfl⟩, [], by simp, by simp, fun _ h => nomatch h⟩
      obtain ⟨⟨r, j, rfl⟩, xs, rfl, hl, hx⟩ := h
      have : xs.length < 1000 := by simp at hl; omega
      refine ⟨_, rfl, [some (.ref n), some (.p (.int k)), some (.p (.int c)), some (.p (.int z)), some (.ref S.length), some (.p (.int (r / 1000000))), some d, none, none], S ++ [.pl ((xs ++ [r % 1000000]).map .int)], .inl ?_, ⟨_, _, rfl⟩, _, rfl, ?_, hx.snoc r⟩
      · simp [rc, ap _ _ this, asgT]
      · simp at hl ⊢; omega
    obtain ⟨ρ', S', e, ⟨r', j', rfl⟩, xs, rfl, hl, hx⟩ := loop (z - 10 ^ 18)
    refine ⟨xs, by simpa using hl, hx, runB_rt (d := .ref S.length) (S' := S ++ [.pl (xs.map .int)]) ?_ (tidy_new _)⟩
    show evCz M numDf.body [some (.ref n), some (.p (.int k)), some (.p (.int c)), none, none, none, none, none, none] S = _
    refine (evz_step (ρ1 := [some (.ref n), some (.p (.int k)), some (.p (.int c)), some (.p (.int 0)), none, none, none, none, none]) (S1 := S) (by simp)).trans ?_
    refine (evz_step hz).trans ?_
    have hb' : (1000000000000000000 : Int) ≤ z := by simpa using hb
    simp [mkL, allP, hb', hsm, asgT]
    simp at e
    rw [e]
    simp
  · -- a row of remainders
    have hb' : ¬ (1000000000000000000 : Int) ≤ z := by simpa using hb
    have loop : ∀ (f r : Int), ∃ ρ' S', forI ⟨rgS 0 1 c.toNat, none⟩ (.nm 6) (evCz M (.cons (.asg (.nm 8) (.bin .Mod (.blt .int (.cons (.bin .Add (.bin .Mult (.v 8) (.k (.int 48271))) (.k (.int 30011))) .nil)) (.k (.int 2147483647))))
    (.cons (.ex (.mth .append (.v 4) (.cons (.bin .Mod (.bin .FloorDiv (.v 8) (.k (.int 1024))) (.k (.int 1000000))) .nil)))
    .nil)))
        (rgS 0 1 c.toNat) [some (.ref n), some (.p (.int k)), some (.p (.int c)), some (.p (.int z)), some (.ref S.length), none, none, some (.p (.int f)), some (.p (.int r))] (S ++ [.pl []]) = .nx ρ' S' ∧
        NumP S c.toNat (fun ρ => ∃ r j, ρ = [some (.ref n), some (.p (.int k)), some (.p (.int c)), some (.p (.int z)), some (.ref S.length), none, j, some (.p (.int f)), some (.p (.int r))]) [] ρ' S' := fun f r => by
      refine forI_nx (NumP S c.toNat (fun ρ => ∃ r j, ρ = [some (.ref n), some (.p (.int k)), some (.p (.int c)), some (.p (.int z)), some (.ref S.length), none, j, some (.p (.int f)), some (.p (.int r))])) (fun d ds ρ S' h => ⟨rfl, ?_⟩) (fun _ _ _ => rfl) ⟨⟨r, none, rfl⟩, [], by simp, by simp, fun _ h => nomatch h⟩
      obtain ⟨⟨r, j, rfl⟩, xs, rfl, hl, hx⟩ := h
      have : xs.length < 1000 := by simp at hl; omega
      refine ⟨_, rfl, [some (.ref n), some (.p (.int k)), some (.p (.int c)), some (.p (.int z)), some (.ref S.length), none, some d, some (.p (.int f)), some (.p (.int ((r * 48271 + 30011) % 2147483647)))], S ++ [.pl ((xs ++ [((r * 48271 + 30011) % 2147483647) / 1024 % 1000000]).map .int)], .inl ?_, ⟨_, _, rfl⟩, _, rfl, ?_, hx.snoc _⟩
      · simp [rc, ap _ _ this, asgT]
      · simp at hl ⊢; omega
    have first : ∃ f : Int, (evC M (.ite (.cmp .Gt (.blt .len (.cons (.v 0) .nil)) (.k (.int 0))) (.cons (.asg (.nm 7) (.bin .Mod (.blt .int (.cons (.ix (.v 0) (.k (.int 0))) .nil)) (.k (.int 2147483647)))) .nil) .nil) [some (.ref n), some (.p (.int k)), some (.p (.int c)), some (.p (.int z)), some (.ref S.length), none, none, some (.p (.int 0)), none] (S ++ [.pl []])) = .nx [some (.ref n), some (.p (.int k)), some (.p (.int c)), some (.p (.int z)), some (.ref S.length), none, none, some (.p (.int f)), none] (S ++ [.pl []]) := by
      by_cases hl : 0 < ns.length
      · have hl' : (0 : Int) < ns.length := by omega
        exact ⟨ns[(0 : Int).toNat]! % 2147483647, by simp [hlen, hl', ix_int (hd' _) (Int.le_refl 0) hl', asgT]; intro h; subst h; simp at hl'⟩
      · exact ⟨0, by simp [hlen, hl]⟩
    obtain ⟨f, hf⟩ := first
    obtain ⟨ρ', S', e, ⟨r', j', rfl⟩, xs, rfl, hl, hx⟩ := loop f ((z % 2147483647 * 69621 + (k + 1) * 40692 + f * 16807) % 2147483647)
    refine ⟨xs, by simpa using hl, hx, runB_rt (d := .ref S.length) (S' := S ++ [.pl (xs.map .int)]) ?_ (tidy_new _)⟩
    show evCz M numDf.body [some (.ref n), some (.p (.int k)), some (.p (.int c)), none, none, none, none, none, none] S = _
    refine (evz_step (ρ1 := [some (.ref n), some (.p (.int k)), some (.p (.int c)), some (.p (.int 0)), none, none, none, none, none]) (S1 := S) (by simp)).trans ?_
    refine (evz_step hz).trans ?_
    refine (evz_step (ρ1 := [some (.ref n), some (.p (.int k)), some (.p (.int c)), some (.p (.int z)), some (.ref S.length), none, none, none, none]) (S1 := S ++ [.pl []]) (by simp [mkL, allP])).trans ?_
    refine (evz_step (ρ1 := [some (.ref n), some (.p (.int k)), some (.p (.int c)), some (.p (.int z)), some (.ref S.length), none, none, none, none]) (S1 := S ++ [.pl []]) (by simp [hb'])).trans ?_
    refine (evz_step (ρ1 := [some (.ref n), some (.p (.int k)), some (.p (.int c)), some (.p (.int z)), some (.ref S.length), none, none, some (.p (.int 0)), none]) (S1 := S ++ [.pl []]) (by simp)).trans ?_
    refine (evz_step hf).trans ?_
    simp [hsm, asgT]
    rw [e]
    simp
end PH

set_option maxHeartbeats 4000000
/-! PH, part Q: == and in for data without truth values. -/
namespace PH
open L2 PySem PySem.Spec PyProof.Rows
mutual
/-- no truth value within, at most n deep -/
def PD.nice : Nat → PD → Bool
  | _, .non => true
  | _, .bl _ => false
  | _, .int _ => true
  | _, .str _ => true
  | 0, .tup _ => false
  | n + 1, .tup xs => PD.nices n xs
def PD.nices : Nat → List PD → Bool
  | _, [] => true
  | n, x :: xs => PD.nice n x && PD.nices n xs
end
mutual
theorem eqv_nice : ∀ (n k : Nat) (x y : PD), x.nice n = true → y.nice k = true → PD.eqv x y = decide (x = y)
  | n, k, x, y, hx, hy => by
    unfold PD.eqv
    cases x with
    | bl b => cases n <;> cases hx
    | non => cases y <;> first | (cases k <;> cases hy; done) | simp [PD.py, PyData.eqv]
    | int i => cases y <;> first | (cases k <;> cases hy; done) | simp [PD.py, PyData.eqv]
    | str s =>
      cases y with
      | str t =>
        simp only [PD.py, PyData.eqv, PD.str.injEq]
        by_cases h : s = t
        · subst h; simp
        · have : mkS s ≠ mkS t := fun z => h (mkS_inj z)
          simp [h, this]
      | bl b => cases k <;> cases hy
      | _ => simp [PD.py, PyData.eqv]
    | tup xs =>
      cases n with
      | zero => cases hx
      | succ n =>
        cases y with
        | tup ys =>
          cases k with
          | zero => cases hy
          | succ k =>
            simp only [PD.py, PyData.eqv, PD.tup.injEq]
            exact eqv_nices n k xs ys hx hy
        | bl b => cases k <;> cases hy
        | _ => simp [PD.py, PyData.eqv]
theorem eqv_nices : ∀ (n k : Nat) (x y : List PD), PD.nices n x = true → PD.nices k y = true → PyData.eqvAll (PD.pys x) (PD.pys y) = decide (x = y)
  | n, k, [], [], _, _ => by simp [PD.pys, PyData.eqvAll]
  | n, k, [], _ :: _, _, _ => by simp [PD.pys, PyData.eqvAll]
  | n, k, _ :: _, [], _, _ => by simp [PD.pys, PyData.eqvAll]
  | n, k, x :: xs, y :: ys, hx, hy => by
    simp only [PD.nices, Bool.and_eq_true] at hx hy
    simp only [PD.pys, PyData.eqvAll, List.cons.injEq]
    rw [eqv_nices n k xs ys hx.2 hy.2]
    have := eqv_nice n k x y hx.1 hy.1
    unfold PD.eqv at this
    rw [this]
    by_cases h1 : x = y <;> by_cases h2 : xs = ys <;> simp [h1, h2]
end
mutual
theorem dep_nice : ∀ (n : Nat) (x : PD), x.nice n = true → x.py.depth ≤ n
  | n, x, h => by
    cases x with
    | bl b => cases n <;> cases h
    | non => simp [PD.py, PyData.depth]
    | int i => simp [PD.py, PyData.depth]
    | str s => simp [PD.py, PyData.depth]
    | tup xs =>
      cases n with
      | zero => cases h
      | succ n => simp only [PD.py, PyData.depth]; have := dep_nices n xs h; omega
theorem dep_nices : ∀ (n : Nat) (x : List PD), PD.nices n x = true → PyData.depthAll (PD.pys x) ≤ n
  | n, [], _ => by simp [PD.pys, PyData.depthAll]
  | n, x :: xs, h => by
    simp only [PD.nices, Bool.and_eq_true] at h
    simp only [PD.pys, PyData.depthAll]
    have := dep_nice n x h.1
    have := dep_nices n xs h.2
    omega
end
theorem nices_ints (n : Nat) : ∀ xs : List Int, PD.nices n (xs.map .int) = true
  | [] => by rw [List.map_nil, PD.nices]
  | x :: xs => by rw [List.map_cons, PD.nices, nices_ints n xs]; cases n <;> rfl
theorem nices_strs (n : Nat) : ∀ xs : List Cs, PD.nices n (xs.map .str) = true
  | [] => by rw [List.map_nil, PD.nices]
  | x :: xs => by rw [List.map_cons, PD.nices, nices_strs n xs]; cases n <;> rfl
theorem nices_iff (n : Nat) : ∀ xs : List PD, PD.nices n xs = true ↔ ∀ x ∈ xs, x.nice n = true
  | [] => by simp [PD.nices]
  | x :: xs => by simp [PD.nices, nices_iff n xs]
theorem mapM_py (S : Sto) (k : Nat) : ∀ xs : List PD, (xs.map D.p).mapM (toPy S k) = some (PD.pys xs)
  | [] => by simp [PD.pys]
  | x :: xs => by
    have : toPy S k (.p x) = some x.py := by cases k <;> simp [toPy]
    simp [this, mapM_py S k xs, PD.pys]
theorem toPy_p (S : Sto) (k : Nat) (x : PD) : toPy S k (.p x) = some x.py := by cases k <;> simp [toPy]
/-- what an object of data is -/
def O.pd : O → Option (List PD)
  | .pl xs => some xs
  | .fz xs => some xs
  | _ => none
theorem toPy_ref {S : Sto} {n k : Nat} {o : O} {xs : List PD} (h : S[n]? = some o) (hx : o.pd = some xs) : toPy S (k + 1) (.ref n) = some (.list (PD.pys xs)) := by
  cases o with
  | pl ys => cases hx; simp only [toPy, Sto.lst, h, O.isL, O.ds, if_true, Option.bind_some, mapM_py]; rfl
  | fz ys => cases hx; simp only [toPy, Sto.lst, h, O.isL, O.ds, if_true, Option.bind_some, mapM_py]; rfl
  | ml ys => cases hx
  | dc ys => cases hx
  | ob c ys => cases hx
theorem eqI_refs {S : Sto} {a b n k : Nat} {o u : O} {xs ys : List PD} (h1 : S[a]? = some o) (h2 : S[b]? = some u) (e1 : o.pd = some xs) (e2 : u.pd = some ys) (hx : PD.nices n xs = true) (hy : PD.nices k ys = true) (hn : n ≤ 63) : eqI (.ref a) (.ref b) S = some (decide (xs = ys)) := by
  unfold eqI
  rw [toPy_ref h1 e1, toPy_ref h2 e2]
  have hd := dep_nices n xs hx
  have hd2 : (PyData.list (PD.pys xs)).depth ≤ 64 := by simp only [PyData.depth]; omega
  have he : PyData.eqv (.list (PD.pys xs)) (.list (PD.pys ys)) = decide (xs = ys) := by simp only [PyData.eqv]; exact eqv_nices n k xs ys hx hy
  simp only
  rw [if_pos (.inl hd2), he]
theorem eqI_p {S : Sto} {n k : Nat} {x y : PD} (hx : x.nice n = true) (hy : y.nice k = true) (hn : n ≤ 64) : eqI (.p x) (.p y) S = some (decide (x = y)) := by
  unfold eqI
  rw [toPy_p, toPy_p]
  have := dep_nice n x hx
  have e := eqv_nice n k x y hx hy
  unfold PD.eqv at e
  simp only
  rw [if_pos (.inl (by omega)), e]
theorem eq_of {S : Sto} {x y : D} {b : Bool} (h : eqI x y S = some b) : cmpI .Eq x y S = .ok (.p (.bl b)) S := by simp only [cmpI, h]; rfl
theorem ne_of {S : Sto} {x y : D} {b : Bool} (h : eqI x y S = some b) : cmpI .NotEq x y S = .ok (.p (.bl (!b))) S := by simp only [cmpI, h]; rfl
@[simp] theorem eq_str {S : Sto} (s t : Cs) : cmpI .Eq (.p (.str s)) (.p (.str t)) S = .ok (.p (.bl (decide (s = t)))) S := by
  rw [eq_of (eqI_p (n := 0) (k := 0) rfl rfl (by decide))]; simp
@[simp] theorem ne_str {S : Sto} (s t : Cs) : cmpI .NotEq (.p (.str s)) (.p (.str t)) S = .ok (.p (.bl (!decide (s = t)))) S := by
  rw [ne_of (eqI_p (n := 0) (k := 0) rfl rfl (by decide))]; simp
@[simp] theorem eq_bl {S : Sto} (s t : Bool) : cmpI .Eq (.p (.bl s)) (.p (.bl t)) S = .ok (.p (.bl (s == t))) S := by
  rw [eq_of (b := s == t)]
  unfold eqI
  rw [toPy_p, toPy_p]
  simp [PD.py, PyData.depth, PyData.eqv]
@[simp] theorem ne_bl {S : Sto} (s t : Bool) : cmpI .NotEq (.p (.bl s)) (.p (.bl t)) S = .ok (.p (.bl (!(s == t)))) S := by
  rw [ne_of (b := s == t)]
  unfold eqI
  rw [toPy_p, toPy_p]
  simp [PD.py, PyData.depth, PyData.eqv]
theorem in_tup {S : Sto} {n k : Nat} {x : PD} {ys : List PD} (hx : x.nice n = true) (hy : PD.nices k ys = true) (hn : n ≤ 64) (hs : ∀ c, x ≠ .str c ∨ True) : inI (.p x) (.p (.tup ys)) S = some (decide (x ∈ ys)) := by
  have hd : x.dep ≤ 64 := Nat.le_trans (dep_nice n x hx) hn
  have : (ys.any fun y => PD.eqv y x) = decide (x ∈ ys) := by
    rw [Bool.eq_iff_iff]
    simp only [List.any_eq_true, decide_eq_true_eq]
    constructor
    · rintro ⟨y, h1, h2⟩
      rw [eqv_nice k n y x ((nices_iff k ys).mp hy y h1) hx] at h2
      have := of_decide_eq_true h2
      exact this ▸ h1
    · intro h
      exact ⟨x, h, by rw [eqv_nice k n x x ((nices_iff k ys).mp hy x h) hx]; simp⟩
  cases x <;> simp only [inI, if_pos hd, this]
theorem in_ref {S : Sto} {m n k : Nat} {x : PD} {ys : List PD} (h : S[m]? = some (.pl ys)) (hx : x.nice n = true) (hy : PD.nices k ys = true) (hn : n ≤ 64) : inI (.p x) (.ref m) S = some (decide (x ∈ ys)) := by
  have hd : x.dep ≤ 64 := Nat.le_trans (dep_nice n x hx) hn
  have : (ys.any fun y => PD.eqv y x) = decide (x ∈ ys) := by
    rw [Bool.eq_iff_iff]
    simp only [List.any_eq_true, decide_eq_true_eq]
    constructor
    · rintro ⟨y, h1, h2⟩
      rw [eqv_nice k n y x ((nices_iff k ys).mp hy y h1) hx] at h2
      have := of_decide_eq_true h2
      exact this ▸ h1
    · intro h
      exact ⟨x, h, by rw [eqv_nice k n x x ((nices_iff k ys).mp hy x h) hx]; simp⟩
  cases x <;> simp only [inI, h, if_pos hd, this]
theorem cmp_in {S : Sto} {x y : D} {b : Bool} (h : inI x y S = some b) : cmpI .In x y S = .ok (.p (.bl b)) S := by simp only [cmpI, h]; rfl
theorem cmp_nin {S : Sto} {x y : D} {b : Bool} (h : inI x y S = some b) : cmpI .NotIn x y S = .ok (.p (.bl (!b))) S := by simp only [cmpI, h]; rfl
/-- signs joined without a space between -/
theorem joinL_nil : ∀ ys : List Cs, TL.joinL [] ys = ys.flatten
  | [] => by simp [TL.joinL]
  | [y] => by simp [TL.joinL]
  | y :: z :: r => by
    have ih := joinL_nil (z :: r)
    simp only [TL.joinL, List.nil_append, List.flatten_cons] at ih ⊢
    rw [ih]
theorem strs_map : ∀ ys : List Cs, strsOf (ys.map .str) = some ys
  | [] => rfl
  | y :: ys => by simp [strsOf, strs_map ys]
/-- ''.join of single signs -/
theorem join_signs {S : Sto} {n : Nat} {s : Cs} (h : S[n]? = some (.pl (s.map fun c => .str [c]))) (hl : s.length ≤ LINE) : mthI .join (.p (.str [])) [.ref n] S = .ok (.p (.str s)) S := by
  have e : (s.map fun c => PD.str [c]) = (s.map fun c => [c]).map .str := by simp
  have hd : dataOf (.ref n) S = some ((s.map fun c => [c]).map .str) := by simp only [dataOf, h, e]
  have sm : ((s.map fun c => [c]).map (·.length)).sum = s.length := by
    clear h e hd hl
    induction s with
    | nil => rfl
    | cons c s ih => simp only [List.map_cons, List.sum_cons, ih]; simp; omega
  have fl : (s.map fun c => [c]).flatten = s := by
    clear h e hd hl sm
    induction s with
    | nil => rfl
    | cons c s ih => simp [ih]
  simp only [mthI, hd, Option.bind_some, strs_map, sm]
  rw [if_pos (by simpa using hl)]
  simp only [joinS, joinL_nil, fl]; rfl
/-- a loop over the images of a list, by what has been walked; it may return -/
theorem forI_listR {α : Type} {w : Wk} {tg : Tg} {body : Nv → Sto → Out} {ρ : Nv} {S : Sto} (g : α → D) (xs : List α) (P : List α → Nv → Sto → Prop) (R : D → Sto → Prop)
    (h1 : ∀ ps x qs ρ S, xs = ps ++ x :: qs → P ps ρ S → w.still S = true ∧ ∃ ρ1, asgT tg (g x) ρ = some ρ1 ∧ ((∃ ρ2 S2, (body ρ1 S = .nx ρ2 S2 ∨ body ρ1 S = .ct ρ2 S2) ∧ P (ps ++ [x]) ρ2 S2) ∨ ∃ d S2, body ρ1 S = .rt d S2 ∧ R d S2)) (h0 : ∀ ρ S, P xs ρ S → w.still S = true) (h : P [] ρ S) :
    (∃ ρ' S', forI w tg body (xs.map g) ρ S = .nx ρ' S' ∧ P xs ρ' S') ∨ ∃ d S', forI w tg body (xs.map g) ρ S = .rt d S' ∧ R d S' := by
  have := forI_inv (w := w) (tg := tg) (body := body) (fun ds ρ S => ∃ ps qs, xs = ps ++ qs ∧ ds = qs.map g ∧ P ps ρ S) (fun o => ∃ d S2, o = .rt d S2 ∧ R d S2) (fun _ _ => False) (fun d ds ρ S ⟨ps, qs, e1, e2, hp⟩ => by
    cases qs with
    | nil => cases e2
    | cons x qs =>
      rw [List.map_cons, List.cons.injEq] at e2
      obtain ⟨rfl, rfl⟩ := e2
      obtain ⟨a, ρ1, b, c⟩ := h1 ps x qs ρ S e1 hp
      refine ⟨a, ρ1, b, ?_⟩
      rcases c with ⟨ρ2, S2, c1, c2⟩ | ⟨d, S2, c1, c2⟩
      · exact .inl ⟨ρ2, S2, c1, ps ++ [x], qs, by simp [e1], rfl, c2⟩
      · exact .inr (.inr ⟨d, S2, c1, d, S2, rfl, c2⟩)) (fun ρ S ⟨ps, qs, e1, e2, hp⟩ => by
    cases qs with
    | nil => rw [List.append_nil] at e1; subst e1; exact h0 ρ S hp
    | cons x qs => cases e2) (xs.map g) ρ S ⟨[], xs, rfl, rfl, h⟩
  rcases this with ⟨ρ', S', e, ⟨ps, qs, e1, e2, hp⟩ | z⟩ | ⟨d, S', e, d', S2, e2, hr⟩
  · cases qs with
    | nil => rw [List.append_nil] at e1; subst e1; exact .inl ⟨ρ', S', e, hp⟩
    | cons x qs => cases e2
  · exact z.elim
  · cases e2; exact .inr ⟨d, S', e, hr⟩
theorem forI_list {α : Type} {w : Wk} {tg : Tg} {body : Nv → Sto → Out} {ρ : Nv} {S : Sto} (g : α → D) (xs : List α) (P : List α → Nv → Sto → Prop)
    (h1 : ∀ ps x qs ρ S, xs = ps ++ x :: qs → P ps ρ S → w.still S = true ∧ ∃ ρ1, asgT tg (g x) ρ = some ρ1 ∧ ∃ ρ2 S2, (body ρ1 S = .nx ρ2 S2 ∨ body ρ1 S = .ct ρ2 S2) ∧ P (ps ++ [x]) ρ2 S2) (h0 : ∀ ρ S, P xs ρ S → w.still S = true) (h : P [] ρ S) :
    ∃ ρ' S', forI w tg body (xs.map g) ρ S = .nx ρ' S' ∧ P xs ρ' S' := by
  rcases forI_listR g xs P (fun _ _ => False) (fun ps x qs ρ S e hp => let ⟨a, ρ1, b, c⟩ := h1 ps x qs ρ S e hp; ⟨a, ρ1, b, .inl c⟩) h0 h with z | ⟨_, _, _, z⟩
  · exact z
  · exact z.elim
theorem rgS01 (n : Nat) : rgS 0 1 n = (List.range n).map fun (k : Nat) => D.p (.int (k : Int)) := by simp [rgS]
theorem lcI_listF {α : Type} {w : Wk} {tg : Tg} {c : Nv → Sto → Res Bool} {elt : Nv → Sto → Res D} {ρ : Nv} {S0 : Sto} (g : α → D) (p : α → Bool) (f : α → PD) (hs : ∀ l, w.still (S0 ++ l) = true) :
    ∀ (xs : List α) (acc : List PD), (∀ x ∈ xs, ∃ ρ1, asgT tg (g x) ρ = some ρ1 ∧ ∀ l, c ρ1 (S0 ++ l) = .ok (p x) (S0 ++ l) ∧ (p x = true → elt ρ1 (S0 ++ l) = .ok (.p (f x)) (S0 ++ l))) →
      lcI w tg c elt ρ S0.length (.pl acc) (xs.map g) (S0 ++ [.pl acc]) = .ok (.ref S0.length) (S0 ++ [.pl (acc ++ (xs.filter p).map f)])
  | [], acc, h => by rw [List.map_nil]; unfold lcI; rw [if_pos (hs _)]; simp
  | d :: ds, acc, h => by
    obtain ⟨ρ1, ha, hb⟩ := h d List.mem_cons_self
    obtain ⟨hc, he⟩ := hb [.pl acc]
    have g' : (S0 ++ [O.pl acc])[S0.length]? = some (.pl acc) := by simp
    rw [List.map_cons]
    unfold lcI
    rw [if_pos (hs _)]
    cases q : p d with
    | false =>
      rw [q] at hc
      simp only [ha, hc, g', if_true]
      rw [lcI_listF g p f hs ds acc fun d hd => h d (List.mem_cons_of_mem _ hd)]
      simp [q]
    | true =>
      rw [q] at hc
      simp only [ha, hc, he q, g', if_true, O.push]
      have : (S0 ++ [O.pl acc]).set S0.length (.pl (acc ++ [f d])) = S0 ++ [.pl (acc ++ [f d])] := by simp
      rw [this, lcI_listF g p f hs ds (acc ++ [f d]) fun d hd => h d (List.mem_cons_of_mem _ hd)]
      simp [q]
/-- a comprehension over the images of a list that makes data and leaves the store alone -/
theorem lc_ev {M : Mo} {α : Type} {own : List Nat} {tg : Tg} {it : W} {elt : E} {ρ : Nv} {S : Sto} {w : Wk} (g : α → D) (f : α → PD) (xs : List α) (hw : evW M it ρ S = .ok w S) (hl : xs.length ≤ LINE) (hx : w.ds = xs.map g) (hs : ∀ l, w.still (S ++ l) = true)
    (h : ∀ x ∈ xs, ∃ ρ1, asgT tg (g x) (wipeN ρ own) = some ρ1 ∧ ∀ l, evE M elt ρ1 (S ++ l) = .ok (.p (f x)) (S ++ l)) : evE M (.lc own tg it elt) ρ S = .ok (.ref S.length) (S ++ [.pl (xs.map f)]) := by
  rw [ev_lc, hw, Res.bind_ok', hx, List.length_map, if_pos hl]
  rw [lcI_listF g (fun _ => true) f hs xs [] fun x hx => let ⟨ρ1, a, b⟩ := h x hx; ⟨ρ1, a, fun l => ⟨rfl, fun _ => b l⟩⟩]
  rw [List.filter_eq_self.mpr (fun _ _ => rfl)]
  simp
theorem lcI_ev {M : Mo} {α : Type} {own : List Nat} {tg : Tg} {it : W} {c elt : E} {ρ : Nv} {S : Sto} {w : Wk} (g : α → D) (p : α → Bool) (f : α → PD) (xs : List α) (hw : evW M it ρ S = .ok w S) (hl : xs.length ≤ LINE) (hx : w.ds = xs.map g) (hs : ∀ l, w.still (S ++ l) = true)
    (h : ∀ x ∈ xs, ∃ ρ1, asgT tg (g x) (wipeN ρ own) = some ρ1 ∧ ∀ l, (evE M c ρ1 (S ++ l)).bind truI = .ok (p x) (S ++ l) ∧ (p x = true → evE M elt ρ1 (S ++ l) = .ok (.p (f x)) (S ++ l))) : evE M (.lcI own tg it c elt) ρ S = .ok (.ref S.length) (S ++ [.pl ((xs.filter p).map f)]) := by
  rw [ev_lcI, hw, Res.bind_ok', hx, List.length_map, if_pos hl]
  rw [lcI_listF g p f hs xs [] h]
  simp
/-- .. over a range -/
theorem lc_rg {M : Mo} {own : List Nat} {tg : Tg} {it : W} {elt : E} {ρ : Nv} {S : Sto} {n : Nat} (f : Nat → PD) (hw : evW M it ρ S = .ok ⟨rgS 0 1 n, none⟩ S) (hl : n ≤ LINE)
    (h : ∀ k, k < n → ∃ ρ1, asgT tg (.p (.int (k : Int))) (wipeN ρ own) = some ρ1 ∧ ∀ l, evE M elt ρ1 (S ++ l) = .ok (.p (f k)) (S ++ l)) : evE M (.lc own tg it elt) ρ S = .ok (.ref S.length) (S ++ [.pl ((List.range n).map f)]) :=
  lc_ev (fun k : Nat => D.p (.int (k : Int))) f (List.range n) hw (by simpa using hl) (rgS01 n) (fun _ => rfl) fun x hx => h x (by simpa using hx)
/-- .. over a text -/
theorem lc_txt {M : Mo} {own : List Nat} {tg : Tg} {e elt : E} {ρ : Nv} {S : Sto} {s : Cs} (f : Nat → PD) (hw : evE M e ρ S = .ok (.p (.str s)) S) (hl : s.length ≤ LINE)
    (h : ∀ c ∈ s, ∃ ρ1, asgT tg (.p (.str [c])) (wipeN ρ own) = some ρ1 ∧ ∀ l, evE M elt ρ1 (S ++ l) = .ok (.p (f c)) (S ++ l)) : evE M (.lc own tg (.of e) elt) ρ S = .ok (.ref S.length) (S ++ [.pl (s.map f)]) :=
  lc_ev (w := ⟨s.map fun c => .p (.str [c]), none⟩) (fun c : Nat => D.p (.str [c])) f s (by rw [evw_of, hw]; rfl) hl rfl (fun _ => rfl) h
theorem small_rg {i : Int} (h0 : 0 ≤ i) (h1 : i ≤ 1000000) : small i = true := by
  simp only [small, Bool.and_eq_true, decide_eq_true_eq]
  constructor <;> omega
@[simp] theorem get_app0 {α : Type} (S l : List α) : (S ++ l)[S.length]? = l[0]? := by rw [List.getElem?_append_right (Nat.le_refl _)]; simp
@[simp] theorem get_appk {α : Type} (S l : List α) (k : Nat) : (S ++ l)[S.length + k]? = l[k]? := by rw [List.getElem?_append_right (by omega)]; congr 1; omega
theorem cut_hi {α : Type} {xs : List α} {i : Int} (h0 : 0 ≤ i) (h1 : i ≤ xs.length) : cut xs none (some i) = xs.take i.toNat := by
  unfold cut
  have : HT.sIx xs.length xs.length (some i) = i.toNat := by
    show (if i < 0 then (i + (xs.length : Int)).toNat else min i.toNat xs.length) = _
    rw [if_neg (by omega)]; omega
  rw [this, HT.sIx_none]; simp
theorem cut_lo {α : Type} {xs : List α} {i : Int} (h0 : 0 ≤ i) : cut xs (some i) none = xs.drop i.toNat := by
  unfold cut
  have : HT.sIx xs.length 0 (some i) = min i.toNat xs.length := by
    show (if i < 0 then (i + (xs.length : Int)).toNat else min i.toNat xs.length) = _
    rw [if_neg (by omega)]
  rw [this, HT.sIx_none]
  rcases Nat.le_total i.toNat xs.length with h | h
  · rw [Nat.min_eq_left h, List.take_of_length_le (by simp)]
  · rw [Nat.min_eq_right h, List.drop_of_length_le h]; simp
theorem cut_map {α β : Type} (f : α → β) (xs : List α) (lo hi : Option Int) : cut (xs.map f) lo hi = (cut xs lo hi).map f := by
  unfold cut; simp [List.map_take, List.map_drop]
theorem sl_ref {S : Sto} {n : Nat} {xs : List PD} {lo hi : Option Int} (h : S[n]? = some (.pl xs)) : slI (.ref n) lo hi S = .ok (.ref S.length) (S ++ [.pl (cut xs lo hi)]) := by simp only [slI, h]; rfl
theorem split_at {α : Type} [Inhabited α] {xs : List α} {i : Nat} (h : i < xs.length) : xs = xs.take i ++ [xs[i]!] ++ xs.drop (i + 1) := by
  have : xs[i]! = xs[i] := by simp [h]
  rw [this, List.append_assoc, List.singleton_append, List.getElem_cons_drop, List.take_append_drop]
end PH

set_option maxHeartbeats 4000000
/-! PH, part R: a law's body, statement by statement, to True. -/
namespace PH
open L2 PySem PySem.Spec PyProof.Rows
/-- the rest of the body returns True -/
def Ends (M : Mo) (cs : Cz) (ρ : Nv) (S : Sto) : Prop := ∃ S', evCz M cs ρ S = .rt (.p (.bl true)) S'
theorem ends_step {M : Mo} {c : C} {cs : Cz} {ρ ρ1 : Nv} {S S1 : Sto} (h : evC M c ρ S = .nx ρ1 S1) (h2 : Ends M cs ρ1 S1) : Ends M (.cons c cs) ρ S := by
  obtain ⟨S', e⟩ := h2
  exact ⟨S', (evz_step h).trans e⟩
theorem ends_ret {M : Mo} {c : C} {cs : Cz} {ρ : Nv} {S S1 : Sto} (h : evC M c ρ S = .rt (.p (.bl true)) S1) : Ends M (.cons c cs) ρ S := ⟨S1, evz_end h⟩
theorem tidy_any (S S' : Sto) (x : PD) : ∃ S'', tidy S S' (.p x) = .ok (.p x) S'' := by
  unfold tidy
  split <;> exact ⟨_, rfl⟩
theorem ends_call {ents : List Ent} {gl : Nat → Option PD} {k f : Nat} {e : Ent} {ds : List D} {S : Sto} (he : ents[f]? = some e) (hl : ds.length = e.df.np) (h : Ends ⟨callI (dfs ents) gl k, gl⟩ e.df.body (ds.map some ++ List.replicate (e.df.n - e.df.np) none) S) :
    ∃ S', callI (dfs ents) gl (k + 1) f ds S = .ok (.p (.bl true)) S' := by
  obtain ⟨S', h⟩ := h
  obtain ⟨S'', h2⟩ := tidy_any S S' (.bl true)
  exact ⟨S'', call_of he hl (runB_rt h h2)⟩
theorem choice {α β : Type} {r : α → β → Prop} (h : ∀ x, ∃ y, r x y) : ∃ f : α → β, ∀ x, r x (f x) := ⟨fun x => (h x).choose, fun x => (h x).choose_spec⟩
/-- the numbers, called -/
theorem numbers_call {ents : List Ent} {gl : Nat → Option PD} {j f n : Nat} {e : Ent} {S : Sto} {ns : List Int} {k c : Int} (he : ents[f]? = some e) (hd : e.df = numDf) (hn : S[n]? = some (.fz (ns.map .int))) (hk : 0 ≤ k) (h0 : 0 ≤ c) (hc : c ≤ 1000) :
    ∃ xs : List Int, xs.length = c.toNat ∧ Low xs ∧ callI (dfs ents) gl (j + 1) f [.ref n, .p (.int k), .p (.int c)] S = .ok (.ref S.length) (S ++ [.pl (xs.map .int)]) := by
  obtain ⟨xs, h1, h2, h3⟩ := numbers_run ⟨callI (dfs ents) gl j, gl⟩ hn hk h0 hc
  exact ⟨xs, h1, h2, call_of he (by rw [hd]; rfl) (by rw [hd]; exact h3)⟩
theorem log_small {i : Int} (h0 : 0 ≤ i) (h1 : i < 1000000) : i.natAbs.log2 < 1920 := by
  by_cases z : i.natAbs = 0
  · rw [z]; decide
  · rw [Nat.log2_lt z]
    have : i.natAbs < 2 ^ 20 := by omega
    exact Nat.lt_of_lt_of_le this (Nat.pow_le_pow_right (by decide) (by decide))
theorem atI_mem {α : Type} {xs : List α} {i : Int} (h0 : 0 ≤ i) (h1 : i < xs.length) : ∃ x, atI xs i = some x ∧ x ∈ xs := by
  have hi : i.toNat < xs.length := by omega
  refine ⟨xs[i.toNat], ?_, List.getElem_mem hi⟩
  unfold atI ixN
  rw [if_pos h0, if_pos h1]
  simp [hi]
theorem ix_ml {S : Sto} {n : Nat} {xs : List D} {i : Int} {x : D} (h : S[n]? = some (.ml xs)) (hx : atI xs i = some x) : ixI (.ref n) (.p (.int i)) S = .ok x S := by simp only [ixI, Sto.lst, h, O.isL, O.ds, if_true, hx]
end PH

set_option maxHeartbeats 4000000
/-! PH, part S: texts in order, each once; all, any, sorted; writing into the store. -/
namespace PH
open L2 PySem PySem.Spec PyProof.Rows
section
variable {S : Sto}
@[simp] theorem set_appk {α : Type} (S l : List α) (k : Nat) (x : α) : (S ++ l).set (S.length + k) x = S ++ l.set k x := by rw [List.set_append_right _ _ (by omega)]; congr 2; omega
@[simp] theorem set_app0 {α : Type} (S l : List α) (x : α) : (S ++ l).set S.length x = S ++ l.set 0 x := by rw [List.set_append_right _ _ (by omega)]; congr 2; omega
theorem bools_map : ∀ bs : List Bool, boolsOf (bs.map .bl) = some bs
  | [] => rfl
  | b :: bs => by simp [boolsOf, bools_map bs]
theorem all_ref {n : Nat} {bs : List Bool} (h : S[n]? = some (.pl (bs.map .bl))) : bltI .all [.ref n] S = .ok (.p (.bl (bs.all id))) S := by simp only [bltI, h, bools_map]; rfl
theorem any_ref {n : Nat} {bs : List Bool} (h : S[n]? = some (.pl (bs.map .bl))) : bltI .any [.ref n] S = .ok (.p (.bl (bs.any id))) S := by simp only [bltI, h, bools_map]; rfl
/-- all([..]) and any([..]) over a fresh list of truth values -/
theorem all_new {α : Type} (xs : List α) (p : α → Bool) : bltI .all [.ref S.length] (S ++ [.pl (xs.map fun x => .bl (p x))]) = .ok (.p (.bl (xs.all p))) (S ++ [.pl (xs.map fun x => .bl (p x))]) := by
  rw [all_ref (bs := xs.map p) (by simp)]; simp [List.all_map, Function.comp_def]
theorem any_new {α : Type} (xs : List α) (p : α → Bool) : bltI .any [.ref S.length] (S ++ [.pl (xs.map fun x => .bl (p x))]) = .ok (.p (.bl (xs.any p))) (S ++ [.pl (xs.map fun x => .bl (p x))]) := by
  rw [any_ref (bs := xs.map p) (by simp)]; simp [List.any_map, Function.comp_def]

/-! ### each once -/
def add1 (f : List Cs) (w : Cs) : List Cs := if w ∈ f then f else f ++ [w]
def once (f xs : List Cs) : List Cs := xs.foldl add1 f
theorem once_snoc (f xs : List Cs) (x : Cs) : once f (xs ++ [x]) = add1 (once f xs) x := by simp [once]
theorem mem_add1 {f : List Cs} {w x : Cs} : x ∈ add1 f w ↔ x ∈ f ∨ x = w := by
  unfold add1
  split
  · constructor
    · exact .inl
    · rintro (h | rfl) <;> assumption
  · simp
theorem mem_once {f : List Cs} {x : Cs} : ∀ {xs : List Cs}, x ∈ once f xs ↔ x ∈ f ∨ x ∈ xs := fun {xs} => by
  unfold once
  induction xs generalizing f with
  | nil => simp
  | cons y ys ih => rw [List.foldl_cons, ih, mem_add1]; simp [or_assoc]
/-- what is new, after what was -/
theorem once_split (f : List Cs) (xs : List Cs) : ∀ n, ∀ ps : List Cs, ps.length = n → once f ps = f ++ (once [] ps).filter fun w => !decide (w ∈ f) := fun n => by
  induction n with
  | zero => intro ps h; cases ps with | nil => simp [once] | cons _ _ => simp at h
  | succ n ih =>
    intro ps h
    have hne : ps ≠ [] := fun z => by subst z; simp at h
    obtain ⟨qs, x, rfl⟩ : ∃ qs x, ps = qs ++ [x] := ⟨ps.dropLast, ps.getLast hne, (List.dropLast_concat_getLast hne).symm⟩
    have hq := ih qs (by simpa using h)
    rw [once_snoc, once_snoc]
    by_cases hf : x ∈ f
    · have h1 : x ∈ once f qs := mem_once.mpr (.inl hf)
      rw [add1, if_pos h1, hq]
      unfold add1
      split
      · rfl
      · simp [hf]
    · by_cases hx : x ∈ qs
      · have h1 : x ∈ once f qs := mem_once.mpr (.inr hx)
        have h2 : x ∈ once [] qs := mem_once.mpr (.inr hx)
        rw [add1, if_pos h1, add1, if_pos h2, hq]
      · have h1 : x ∉ once f qs := fun z => by rcases mem_once.mp z with z | z <;> contradiction
        have h2 : x ∉ once [] qs := fun z => by rcases mem_once.mp z with z | z <;> simp_all
        rw [add1, if_neg h1, add1, if_neg h2, hq]
        simp [hf]
theorem once_eq (f xs : List Cs) : once f xs = f ++ (once [] xs).filter fun w => !decide (w ∈ f) := once_split f xs xs.length xs rfl

/-! ### in order -/
def leC (a b : Cs) : Bool := PD.le (.str a) (.str b)
theorem leC_iff {a b : Cs} : leC a b = true ↔ a ≤ b := by
  unfold leC PD.le PD.lt
  have : PySem.W.dataLt (PD.str b).py (PD.str a).py = decide (b < a) := PySem.W.dataLt_str (mkS b) (mkS a)
  rw [this, Bool.not_eq_true', decide_eq_false_iff_not]
  exact List.not_lt
def srt (xs : List Cs) : List Cs := xs.mergeSort leC
theorem srt_pw (xs : List Cs) : (srt xs).Pairwise fun a b => a ≤ b := by
  have := List.pairwise_mergeSort (le := leC) (fun a b c h1 h2 => leC_iff.mpr (List.le_trans (leC_iff.mp h1) (leC_iff.mp h2))) (fun a b => by
    rcases List.le_total a b with h | h
    · rw [leC_iff.mpr h]; rfl
    · rw [leC_iff.mpr h, Bool.or_true]) xs
  exact this.imp fun h => leC_iff.mp h
theorem srtI_strs (xs : List Cs) : srtI (xs.map .str) = some ((srt xs).map .str) := by
  unfold srtI
  rw [if_pos]
  · congr 1
    unfold srt
    exact (List.map_mergeSort (f := PD.str) (r := leC) (s := PD.le) (fun a _ b _ => rfl)).symm
  · refine ⟨fun x hx y hy => ?_, .inr fun x hx => ?_, fun x hx => ?_⟩
    · obtain ⟨a, _, rfl⟩ := List.mem_map.mp hx
      obtain ⟨b, _, rfl⟩ := List.mem_map.mp hy
      show PySem.W.alike (.str (mkS a)) (.str (mkS b)) = true
      simp only [PySem.W.alike]
    · obtain ⟨a, _, rfl⟩ := List.mem_map.mp hx
      rfl
    · obtain ⟨a, _, rfl⟩ := List.mem_map.mp hx
      simp [PD.dep, PD.py, PyData.depth]
theorem sorted_strs {d : D} {xs : List Cs} (h : dataOf d S = some (xs.map .str)) : bltI .sorted [d] S = .ok (.ref S.length) (S ++ [.pl ((srt xs).map .str)]) := by
  have : bltI .sorted [d] S = (match dataOf d S with
    | some xs => match srtI xs with
      | some ys => new (.pl ys) S
      | none => .stuck
    | none => .stuck) := by
    cases d with
    | p x => cases x <;> rfl
    | _ => rfl
  rw [this, h]
  simp only [srtI_strs]
  rfl
/-- within a sorted row: what was before is the last -/
theorem last_iff {ps : List Cs} {x : Cs} {qs : List Cs} (h : (ps ++ x :: qs).Pairwise fun a b => a ≤ b) : x ∈ ps ↔ ps.getLast? = some x := by
  constructor
  · intro hx
    have hne : ps ≠ [] := fun z => by subst z; simp at hx
    have e := List.dropLast_concat_getLast hne
    rw [List.getLast?_eq_some_getLast hne]
    congr 1
    rw [List.pairwise_append] at h
    have h1 : ps.getLast hne ≤ x := h.2.2 _ (List.getLast_mem hne) _ List.mem_cons_self
    by_cases z : x = ps.getLast hne
    · exact z.symm
    · have hd : x ∈ ps.dropLast := by
        rw [← e] at hx
        rcases List.mem_append.mp hx with q | q
        · exact q
        · simp at q; exact absurd q z
      have h2 := h.1
      rw [← e, List.pairwise_append] at h2
      exact List.le_antisymm h1 (h2.2.2 x hd _ (by simp))
  · exact fun h => List.mem_of_getLast? h
theorem once_last {ps : List Cs} : ∀ n, ∀ ps : List Cs, ps.length = n → (ps.Pairwise fun a b => a ≤ b) → (once [] ps).getLast? = ps.getLast? := fun n => by
  induction n with
  | zero => intro ps h _; cases ps with | nil => rfl | cons _ _ => simp at h
  | succ n ih =>
    intro ps h hp
    have hne : ps ≠ [] := fun z => by subst z; simp at h
    obtain ⟨qs, x, rfl⟩ : ∃ qs x, ps = qs ++ [x] := ⟨ps.dropLast, ps.getLast hne, (List.dropLast_concat_getLast hne).symm⟩
    have hq := ih qs (by simpa using h) (List.pairwise_append.mp hp).1
    rw [once_snoc]
    unfold add1
    split
    · rename_i hm
      rw [hq]
      have : x ∈ qs := by rcases mem_once.mp hm with z | z; · cases z
                          · exact z
      rw [(last_iff (qs := []) hp).mp this]; simp
    · simp
theorem once_last' {ps : List Cs} (h : ps.Pairwise fun a b => a ≤ b) : (once [] ps).getLast? = ps.getLast? := once_last (ps := ps) ps.length ps rfl h
end
end PH

set_option maxHeartbeats 4000000
/-! PH, part T: rows in order, each once, for any data that are alike; merged. -/
namespace PH
open L2 PySem PySem.Spec PyProof.Rows
/-- a kind of data that can be put in order -/
structure Emb (α : Type) [DecidableEq α] where
  f : α → PD
  inj : ∀ a b, f a = f b → a = b
  n : Nat
  nice : ∀ a, (f a).nice n = true
  hn : n ≤ 60
  like : ∀ a b, PD.like (f a) (f b) = true
  flat : (∀ a, isTup1 (f a) = true) ∨ ∀ a, isFlat (f a) = true
  trans : ∀ a b c, PD.le (f a) (f b) = true → PD.le (f b) (f c) = true → PD.le (f a) (f c) = true
  total : ∀ a b, (PD.le (f a) (f b) || PD.le (f b) (f a)) = true
  anti : ∀ a b, PD.le (f a) (f b) = true → PD.le (f b) (f a) = true → a = b
section
variable {α : Type} [DecidableEq α] (E : Emb α) {S : Sto}
def gadd (f : List α) (w : α) : List α := if w ∈ f then f else f ++ [w]
def gonce (f xs : List α) : List α := xs.foldl gadd f
theorem gonce_snoc (f xs : List α) (x : α) : gonce f (xs ++ [x]) = gadd (gonce f xs) x := by simp [gonce]
theorem mem_gadd {f : List α} {w x : α} : x ∈ gadd f w ↔ x ∈ f ∨ x = w := by
  unfold gadd
  split
  · constructor
    · exact .inl
    · rintro (h | rfl) <;> assumption
  · simp
theorem mem_gonce {f : List α} {x : α} {xs : List α} : x ∈ gonce f xs ↔ x ∈ f ∨ x ∈ xs := by
  unfold gonce
  induction xs generalizing f with
  | nil => simp
  | cons y ys ih => rw [List.foldl_cons, ih, mem_gadd]; simp [or_assoc]
theorem gonce_len : ∀ (xs f : List α), (gonce f xs).length ≤ f.length + xs.length
  | [], f => by simp [gonce]
  | x :: xs, f => by
    have := gonce_len xs (gadd f x)
    have h2 : (gadd f x).length ≤ f.length + 1 := by unfold gadd; split <;> simp
    simp only [gonce, List.foldl_cons, List.length_cons] at this ⊢
    omega
def Emb.le (a b : α) : Bool := PD.le (E.f a) (E.f b)
def gsrt (xs : List α) : List α := xs.mergeSort E.le
theorem gsrt_len (xs : List α) : (gsrt E xs).length = xs.length := by simp [gsrt, List.length_mergeSort]
theorem mem_gsrt {xs : List α} {x : α} : x ∈ gsrt E xs ↔ x ∈ xs := List.mem_mergeSort
theorem gsrt_pw (xs : List α) : (gsrt E xs).Pairwise fun a b => E.le a b = true := List.pairwise_mergeSort (fun a b c => E.trans a b c) (fun a b => E.total a b) xs
theorem gsrtI (xs : List α) : srtI (xs.map E.f) = some ((gsrt E xs).map E.f) := by
  unfold srtI
  rw [if_pos]
  · congr 1
    unfold gsrt
    exact (List.map_mergeSort (f := E.f) (r := E.le) (s := PD.le) (fun a _ b _ => rfl)).symm
  · refine ⟨fun x hx y hy => ?_, ?_, fun x hx => ?_⟩
    · obtain ⟨a, _, rfl⟩ := List.mem_map.mp hx
      obtain ⟨b, _, rfl⟩ := List.mem_map.mp hy
      exact E.like a b
    · rcases E.flat with h | h
      · refine .inl fun x hx => ?_
        obtain ⟨a, _, rfl⟩ := List.mem_map.mp hx
        exact h a
      · refine .inr fun x hx => ?_
        obtain ⟨a, _, rfl⟩ := List.mem_map.mp hx
        exact h a
    · obtain ⟨a, _, rfl⟩ := List.mem_map.mp hx
      have := dep_nice E.n (E.f a) (E.nice a)
      have := E.hn
      show (E.f a).py.depth ≤ 64
      omega
theorem gsorted {d : D} {xs : List α} (h : dataOf d S = some (xs.map E.f)) : bltI .sorted [d] S = .ok (.ref S.length) (S ++ [.pl ((gsrt E xs).map E.f)]) := by
  have : bltI .sorted [d] S = (match dataOf d S with
    | some xs => match srtI xs with
      | some ys => new (.pl ys) S
      | none => .stuck
    | none => .stuck) := by
    cases d with
    | p x => cases x <;> rfl
    | _ => rfl
  rw [this, h]
  simp only [gsrtI]
  rfl
theorem glast_iff {ps : List α} {x : α} {qs : List α} (h : (ps ++ x :: qs).Pairwise fun a b => E.le a b = true) : x ∈ ps ↔ ps.getLast? = some x := by
  constructor
  · intro hx
    have hne : ps ≠ [] := fun z => by subst z; simp at hx
    have e := List.dropLast_concat_getLast hne
    rw [List.getLast?_eq_some_getLast hne]
    congr 1
    rw [List.pairwise_append] at h
    have h1 : E.le (ps.getLast hne) x = true := h.2.2 _ (List.getLast_mem hne) _ List.mem_cons_self
    by_cases z : x = ps.getLast hne
    · exact z.symm
    · have hd : x ∈ ps.dropLast := by
        rw [← e] at hx
        rcases List.mem_append.mp hx with q | q
        · exact q
        · simp at q; exact absurd q z
      have h2 := h.1
      rw [← e, List.pairwise_append] at h2
      exact E.anti _ _ h1 (h2.2.2 x hd _ (by simp))
  · exact fun h => List.mem_of_getLast? h
theorem gonce_last : ∀ n, ∀ ps : List α, ps.length = n → (ps.Pairwise fun a b => E.le a b = true) → (gonce [] ps).getLast? = ps.getLast? := fun n => by
  induction n with
  | zero => intro ps h _; cases ps with | nil => rfl | cons _ _ => simp at h
  | succ n ih =>
    intro ps h hp
    have hne : ps ≠ [] := fun z => by subst z; simp at h
    obtain ⟨qs, x, rfl⟩ : ∃ qs x, ps = qs ++ [x] := ⟨ps.dropLast, ps.getLast hne, (List.dropLast_concat_getLast hne).symm⟩
    have hq := ih qs (by simpa using h) (List.pairwise_append.mp hp).1
    rw [gonce_snoc]
    unfold gadd
    split
    · rename_i hm
      rw [hq]
      have : x ∈ qs := by rcases mem_gonce.mp hm with z | z; · cases z
                          · exact z
      rw [(glast_iff E (qs := []) hp).mp this]; simp
    · simp
/-- each once of a row in order: in strict order -/
theorem gonce_strict : ∀ n, ∀ ps : List α, ps.length = n → (ps.Pairwise fun a b => E.le a b = true) → (gonce [] ps).Pairwise fun a b => E.le a b = true ∧ a ≠ b := fun n => by
  induction n with
  | zero => intro ps h _; cases ps with | nil => simp [gonce] | cons _ _ => simp at h
  | succ n ih =>
    intro ps h hp
    have hne : ps ≠ [] := fun z => by subst z; simp at h
    obtain ⟨qs, x, rfl⟩ : ∃ qs x, ps = qs ++ [x] := ⟨ps.dropLast, ps.getLast hne, (List.dropLast_concat_getLast hne).symm⟩
    have hq := ih qs (by simpa using h) (List.pairwise_append.mp hp).1
    rw [gonce_snoc]
    unfold gadd
    split
    · exact hq
    · rename_i hm
      rw [List.pairwise_append]
      refine ⟨hq, by simp, fun a ha b hb => ?_⟩
      simp at hb; subst hb
      have haq : a ∈ qs := by rcases mem_gonce.mp ha with z | z; · cases z
                              · exact z
      exact ⟨(List.pairwise_append.mp hp).2.2 a haq b (by simp), fun z => hm (z ▸ ha)⟩
/-- rows in strict order with the same members are the same -/
theorem strict_ext : ∀ {xs ys : List α}, (xs.Pairwise fun a b => E.le a b = true ∧ a ≠ b) → (ys.Pairwise fun a b => E.le a b = true ∧ a ≠ b) → (∀ a, a ∈ xs ↔ a ∈ ys) → xs = ys
  | [], [], _, _, _ => rfl
  | [], y :: ys, _, _, h => absurd ((h y).mpr List.mem_cons_self) (by simp)
  | x :: xs, [], _, _, h => absurd ((h x).mp List.mem_cons_self) (by simp)
  | x :: xs, y :: ys, hx, hy, h => by
    rw [List.pairwise_cons] at hx hy
    have e : x = y := by
      rcases List.mem_cons.mp ((h x).mp List.mem_cons_self) with z | z
      · exact z
      · rcases List.mem_cons.mp ((h y).mpr List.mem_cons_self) with q | q
        · exact q.symm
        · exact E.anti _ _ (hx.1 y q).1 (hy.1 x z).1
    subst e
    congr 1
    refine strict_ext hx.2 hy.2 fun a => ?_
    have := h a
    simp only [List.mem_cons] at this
    constructor
    · intro ha
      rcases this.mp (.inr ha) with z | z
      · exact absurd z.symm (hx.1 a ha).2
      · exact z
    · intro ha
      rcases this.mpr (.inr ha) with z | z
      · exact absurd z.symm (hy.1 a ha).2
      · exact z
/-- in order, each once -/
def gset (xs : List α) : List α := gonce [] (gsrt E xs)
theorem gset_strict (xs : List α) : (gset E xs).Pairwise fun a b => E.le a b = true ∧ a ≠ b := gonce_strict E _ _ rfl (gsrt_pw E xs)
theorem mem_gset {xs : List α} {a : α} : a ∈ gset E xs ↔ a ∈ xs := by unfold gset; rw [mem_gonce, mem_gsrt]; simp
theorem gset_ext {xs ys : List α} (h : ∀ a, a ∈ xs ↔ a ∈ ys) : gset E xs = gset E ys := strict_ext E (gset_strict E xs) (gset_strict E ys) fun a => by rw [mem_gset, mem_gset]; exact h a
theorem gset_len (xs : List α) : (gset E xs).length ≤ xs.length := by
  have := gonce_len (gsrt E xs) []
  rw [gsrt_len] at this
  simpa [gset] using this
theorem tru_ref' {n : Nat} {o : O} (h : S[n]? = some o) (hl : o.isL = true) : truI (.ref n) S = .ok (!o.ds.isEmpty) S := by simp only [truI, Sto.lst, h, hl, if_true]
theorem app_at' {n : Nat} {xs : List PD} {y : PD} (h : S[n]? = some (.pl xs)) (hl : xs.length < LINE) : mthI .append (.ref n) [.p y] S = .ok (.p .non) (S.set n (.pl (xs ++ [y]))) := by
  simp only [mthI, h, O.ds, List.length_map, if_pos hl, O.push]; rfl
theorem ix_last' {n : Nat} {xs : List PD} {y : PD} (h : S[n]? = some (.pl (xs ++ [y]))) : ixI (.ref n) (.p (.int (-1))) S = .ok (.p y) S :=
  ix_data (xs := xs ++ [y]) (by simp only [dataOf, h]) (atI_last xs y)
def mergedDf : Df := ⟨1, 3, (.cons (.asg (.nm 1) (.ls .nil))
  (.cons (.forr (.nm 2) (.of (.blt .sorted (.cons (.v 0) .nil))) (.cons (.ite (.bo .Or (.cons (.no (.v 1)) (.cons (.cmp .NotEq (.ix (.v 1) (.neg (.k (.int 1)))) (.v 2)) .nil))) (.cons (.ex (.mth .append (.v 1) (.cons (.v 2) .nil)))
      .nil) .nil)
    .nil))
  (.cons (.ret (.blt .tuple (.cons (.v 1) .nil)))
  .nil)))⟩
theorem merged_run (M : Mo) {d : D} {xs : List α} (h : dataOf d S = some (xs.map E.f)) (hl : xs.length ≤ 10000) : runB M mergedDf [d] S = .ok (.p (.tup ((gset E xs).map E.f))) S := by
  have hw : wkOf (.ref (S.length + 1)) (S ++ [.pl [], .pl ((gsrt E xs).map E.f)]) = .ok ⟨((gsrt E xs).map E.f).map .p, some (S.length + 1, .pl ((gsrt E xs).map E.f))⟩ (S ++ [.pl [], .pl ((gsrt E xs).map E.f)]) := wk_ref (o := .pl ((gsrt E xs).map E.f)) (by rw [get_appk]; rfl) rfl
  obtain ⟨ρ', S', e, rfl, j, rfl⟩ := forI_list (w := ⟨((gsrt E xs).map E.f).map .p, some (S.length + 1, .pl ((gsrt E xs).map E.f))⟩) (tg := .nm 2) (body := evCz M (.cons (.ite (.bo .Or (.cons (.no (.v 1)) (.cons (.cmp .NotEq (.ix (.v 1) (.neg (.k (.int 1)))) (.v 2)) .nil))) (.cons (.ex (.mth .append (.v 1) (.cons (.v 2) .nil))) .nil) .nil) .nil))
    (ρ := [some d, some (.ref S.length), none]) (S := S ++ [.pl [], .pl ((gsrt E xs).map E.f)]) (fun x => D.p (E.f x)) (gsrt E xs) (fun ps ρ S' => S' = S ++ [.pl ((gonce [] ps).map E.f), .pl ((gsrt E xs).map E.f)] ∧ ∃ j, ρ = [some d, some (.ref S.length), j])
    (fun ps x qs ρ S' e ⟨h1, j, h2⟩ => by
      subst h1 h2
      have pw := gsrt_pw E xs
      rw [e] at pw
      have pl := gonce_last E ps.length ps rfl (List.pairwise_append.mp pw).1
      have li := glast_iff E pw
      have ol := gonce_len ps []
      have sl := gsrt_len E xs
      have pl2 : ps.length ≤ 10000 := by rw [e] at sl; simp at sl; omega
      refine ⟨by simp [Wk.still], _, rfl, [some d, some (.ref S.length), some (.p (E.f x))], S ++ [.pl ((gonce [] (ps ++ [x])).map E.f), .pl ((gsrt E xs).map E.f)], .inl ?_, rfl, _, rfl⟩
      have g0 : (S ++ [O.pl ((gonce [] ps).map E.f), O.pl ((gsrt E xs).map E.f)])[S.length]? = some (.pl ((gonce [] ps).map E.f)) := by simp
      have t0 := tru_ref' g0 rfl
      have ap := app_at' (y := E.f x) g0 (by simp [LINE] at ol ⊢; omega)
      have rv : recv .append (.ref S.length) (S ++ [O.pl ((gonce [] ps).map E.f), O.pl ((gsrt E xs).map E.f)]) = true := recv_new g0 rfl rfl
      have mo : x ∈ gonce [] ps ↔ x ∈ ps := by simp [mem_gonce]
      rw [gonce_snoc]
      unfold gadd
      generalize gonce [] ps = o at *
      by_cases ho : o = []
      · have t1 : truI (.ref S.length) (S ++ [O.pl (o.map E.f), O.pl ((gsrt E xs).map E.f)]) = .ok false (S ++ [O.pl (o.map E.f), O.pl ((gsrt E xs).map E.f)]) := by rw [t0, ho]; simp [O.ds]
        have : ¬ x ∈ o := by rw [ho]; simp
        simp [t1, rv, ap, this]
      · have ez := List.dropLast_concat_getLast ho
        generalize hz0 : o.getLast ho = z at ez
        have il : ixI (.ref S.length) (.p (.int (-1))) (S ++ [O.pl (o.map E.f), O.pl ((gsrt E xs).map E.f)]) = .ok (.p (E.f z)) (S ++ [O.pl (o.map E.f), O.pl ((gsrt E xs).map E.f)]) := ix_last' (xs := o.dropLast.map E.f) (by
          rw [get_app0, List.getElem?_cons_zero]
          conv => lhs; rw [← ez]
          simp)
        have lz : ps.getLast? = some z := by rw [← pl, ← ez]; simp
        rw [lz] at li
        have t1 : truI (.ref S.length) (S ++ [O.pl (o.map E.f), O.pl ((gsrt E xs).map E.f)]) = .ok true (S ++ [O.pl (o.map E.f), O.pl ((gsrt E xs).map E.f)]) := by rw [t0]; simp [O.ds, ho]
        have ne : ∀ S, cmpI .NotEq (.p (E.f z)) (.p (E.f x)) S = .ok (.p (.bl (!decide (E.f z = E.f x)))) S := fun S => ne_of (eqI_p (E.nice z) (E.nice x) (by have := E.hn; omega))
        by_cases hz : z = x
        · have : x ∈ o := mo.mpr (li.mpr (by rw [hz]))
          subst hz
          simp [t1, il, ne, this]
        · have hx : ¬ x ∈ o := fun q => hz (Option.some.inj (li.mp (mo.mp q)))
          have hf : ¬ E.f z = E.f x := fun q => hz (E.inj _ _ q)
          simp [t1, il, ne, hf, hx, rv, ap])
    (fun ρ S' ⟨h1, _⟩ => by subst h1; simp [Wk.still]) ⟨by simp [gonce], none, rfl⟩
  refine runB_rt (S' := S ++ [.pl ((gset E xs).map E.f), .pl ((gsrt E xs).map E.f)]) (d := .p (.tup ((gset E xs).map E.f))) ?_ (tidy_pa _ _)
  have hs' : bltI .sorted [d] (S ++ [.pl []]) = .ok (.ref (S.length + 1)) (S ++ [.pl [], .pl ((gsrt E xs).map E.f)]) := by simpa using gsorted E (data_app h [.pl []])
  have tp : bltI .tuple [.ref S.length] (S ++ [.pl ((gset E xs).map E.f), .pl ((gsrt E xs).map E.f)]) = .ok (.p (.tup ((gset E xs).map E.f))) (S ++ [.pl ((gset E xs).map E.f), .pl ((gsrt E xs).map E.f)]) := by simp [bltI, dataOf]
  have e' : (List.map (fun x => D.p (E.f x)) (gsrt E xs)) = ((gsrt E xs).map E.f).map .p := by simp
  rw [e'] at e
  simp [mergedDf, mkL, allP, hs', hw, -List.map_map]
  rw [e]
  simp only [Out.seq_nx]
  show evCz M _ _ (S ++ [.pl ((gset E xs).map E.f), .pl ((gsrt E xs).map E.f)]) = _
  simp [tp]
end
/-- whole numbers -/
def intE : Emb Int where
  f := .int
  inj _ _ h := by cases h; rfl
  n := 0
  nice _ := rfl
  hn := by decide
  like a b := by show PySem.W.alike (.int a) (.int b) = true; simp only [PySem.W.alike]
  flat := .inr fun _ => rfl
  trans a b c h1 h2 := by
    have e : ∀ a b : Int, PD.le (.int a) (.int b) = !decide (b < a) := fun a b => by
      unfold PD.le PD.lt; rw [show PySem.W.dataLt (PD.int b).py (PD.int a).py = decide (b < a) from PySem.W.dataLt_int b a]
    rw [e] at *
    simp at *
    omega
  total a b := by
    have e : ∀ a b : Int, PD.le (.int a) (.int b) = !decide (b < a) := fun a b => by
      unfold PD.le PD.lt; rw [show PySem.W.dataLt (PD.int b).py (PD.int a).py = decide (b < a) from PySem.W.dataLt_int b a]
    rw [e, e]
    by_cases h : b < a
    · have : ¬ a < b := by omega
      simp [h, this]
    · simp [h]
  anti a b h1 h2 := by
    have e : ∀ a b : Int, PD.le (.int a) (.int b) = !decide (b < a) := fun a b => by
      unfold PD.le PD.lt; rw [show PySem.W.dataLt (PD.int b).py (PD.int a).py = decide (b < a) from PySem.W.dataLt_int b a]
    rw [e] at *
    simp at *
    omega
theorem intE_le {a b : Int} : intE.le a b = true ↔ a ≤ b := by
  show PD.le (.int a) (.int b) = true ↔ _
  unfold PD.le PD.lt
  rw [show PySem.W.dataLt (PD.int b).py (PD.int a).py = decide (b < a) from PySem.W.dataLt_int b a]
  simp
end PH

set_option maxHeartbeats 4000000
/-! PH, part U: while, by a measure. -/
namespace PH
open L2 PySem PySem.Spec PyProof.Rows
section
variable {c : Nv → Sto → Res Bool} {body : Nv → Sto → Out}
theorem whlN_more : ∀ (n : Nat) (ρ : Nv) (S : Sto) (r : Out), whlN c body n ρ S = some r → ∀ m, n ≤ m → whlN c body m ρ S = some r
  | 0, _, _, _, h, _, _ => by cases h
  | n + 1, ρ, S, r, h, m, hm => by
    obtain ⟨m, rfl⟩ : ∃ m', m = m' + 1 := ⟨m - 1, by omega⟩
    unfold whlN at h ⊢
    cases q : c ρ S with
    | stuck => rw [q] at h; exact h
    | exc x S1 => rw [q] at h; exact h
    | ok b S1 =>
      rw [q] at h
      cases b with
      | false => exact h
      | true =>
        simp only at h ⊢
        cases q2 : body ρ S1 with
        | nx ρ2 S2 => rw [q2] at h; exact whlN_more n ρ2 S2 r h m (by omega)
        | ct ρ2 S2 => rw [q2] at h; exact whlN_more n ρ2 S2 r h m (by omega)
        | bk ρ2 S2 => rw [q2] at h; exact h
        | rt d S2 => rw [q2] at h; exact h
        | exc x ρ2 S2 => rw [q2] at h; exact h
        | stuck => rw [q2] at h; exact h
theorem whlI_of {n : Nat} {ρ : Nv} {S : Sto} {r : Out} (h : whlN c body n ρ S = some r) : whlI c body ρ S = r := by
  unfold whlI
  have hex : ∃ r n, whlN c body n ρ S = some r := ⟨r, n, h⟩
  rw [dif_pos hex]
  obtain ⟨m, hm⟩ := hex.choose_spec
  have h1 := whlN_more n ρ S r h (max n m) (Nat.le_max_left _ _)
  have h2 := whlN_more m ρ S _ hm (max n m) (Nat.le_max_right _ _)
  rw [h1] at h2
  exact (Option.some.inj h2).symm
/-- a while without an early end: P by a measure, at the end Q -/
theorem whl_nx (P : Nat → Nv → Sto → Prop) (Q : Nv → Sto → Prop)
    (h1 : ∀ m ρ S, P m ρ S → (∃ S1, c ρ S = .ok false S1 ∧ Q ρ S1) ∨ ∃ S1, c ρ S = .ok true S1 ∧ ∃ ρ2 S2, (body ρ S1 = .nx ρ2 S2 ∨ body ρ S1 = .ct ρ2 S2) ∧ ∃ m', m' < m ∧ P m' ρ2 S2) :
    ∀ (m : Nat) (ρ : Nv) (S : Sto), P m ρ S → ∃ n ρ' S', whlN c body n ρ S = some (.nx ρ' S') ∧ Q ρ' S' := fun m => by
  induction m using Nat.strongRecOn with
  | _ m ih =>
    intro ρ S hp
    rcases h1 m ρ S hp with ⟨S1, e, q⟩ | ⟨S1, e, ρ2, S2, hb, m', hm, hp2⟩
    · exact ⟨1, ρ, S1, by unfold whlN; rw [e], q⟩
    · obtain ⟨n, ρ', S', e2, q⟩ := ih m' hm ρ2 S2 hp2
      refine ⟨n + 1, ρ', S', ?_, q⟩
      unfold whlN
      rw [e]
      rcases hb with hb | hb <;> simp only [hb, e2]
theorem whl_rule (P : Nat → Nv → Sto → Prop) (Q : Nv → Sto → Prop) {m : Nat} {ρ : Nv} {S : Sto}
    (h1 : ∀ m ρ S, P m ρ S → (∃ S1, c ρ S = .ok false S1 ∧ Q ρ S1) ∨ ∃ S1, c ρ S = .ok true S1 ∧ ∃ ρ2 S2, (body ρ S1 = .nx ρ2 S2 ∨ body ρ S1 = .ct ρ2 S2) ∧ ∃ m', m' < m ∧ P m' ρ2 S2) (h : P m ρ S) :
    ∃ ρ' S', whlI c body ρ S = .nx ρ' S' ∧ Q ρ' S' := by
  obtain ⟨n, ρ', S', e, q⟩ := whl_nx P Q h1 m ρ S h
  exact ⟨ρ', S', whlI_of e, q⟩
end
/-! ### ranges by what they hold -/
end PH

set_option maxHeartbeats 8000000
/-! Steps by lemma: what an expression or a statement does, from what its parts do. -/
namespace PH
open L2 PySem PySem.Spec PyProof.Rows
section
variable {M : Mo} {ρ ρ1 : Nv} {S S1 S2 S3 S4 : Sto} {d d1 d2 d3 d4 : D}
theorem evv {i : Nat} {S : Sto} (h : ρ[i]? = some (some d)) : evE M (.v i) ρ S = .ok d S := by rw [ev_v, h]
theorem es0 : evEs M .nil ρ S = .ok [] S := evs_nil ..
theorem es1 {a : E} {as : Es} {ds : List D} (h1 : evE M a ρ S = .ok d1 S1) (h2 : evEs M as ρ S1 = .ok ds S2) : evEs M (.cons a as) ρ S = .ok (d1 :: ds) S2 := by rw [evs_cons, h1, Res.bind_ok', h2, Res.bind_ok']
theorem ecall {f : Nat} {as : Es} {ds : List D} {r : Res D} (h1 : evEs M as ρ S = .ok ds S1) (h2 : M.call f ds S1 = r) : evE M (.call f as) ρ S = r := by rw [ev_call, h1, Res.bind_ok', h2]
theorem ecall1 {f : Nat} {a : E} {r : Res D} (h1 : evE M a ρ S = .ok d1 S1) (h2 : M.call f [d1] S1 = r) : evE M (.call f (.cons a .nil)) ρ S = r := ecall (es1 h1 es0) h2
theorem ecall2 {f : Nat} {a b : E} {r : Res D} (h1 : evE M a ρ S = .ok d1 S1) (h2 : evE M b ρ S1 = .ok d2 S2) (h3 : M.call f [d1, d2] S2 = r) : evE M (.call f (.cons a (.cons b .nil))) ρ S = r := ecall (es1 h1 (es1 h2 es0)) h3
theorem ecall3 {f : Nat} {a b c : E} {r : Res D} (h1 : evE M a ρ S = .ok d1 S1) (h2 : evE M b ρ S1 = .ok d2 S2) (h3 : evE M c ρ S2 = .ok d3 S3) (h4 : M.call f [d1, d2, d3] S3 = r) : evE M (.call f (.cons a (.cons b (.cons c .nil)))) ρ S = r := ecall (es1 h1 (es1 h2 (es1 h3 es0))) h4
theorem eblt1 {b : Bf} {a : E} {r : Res D} (h1 : evE M a ρ S = .ok d1 S1) (h2 : bltI b [d1] S1 = r) : evE M (.blt b (.cons a .nil)) ρ S = r := by rw [ev_blt, es1 h1 es0, Res.bind_ok', h2]
theorem eblt2 {b : Bf} {a c : E} {r : Res D} (h1 : evE M a ρ S = .ok d1 S1) (h2 : evE M c ρ S1 = .ok d2 S2) (h3 : bltI b [d1, d2] S2 = r) : evE M (.blt b (.cons a (.cons c .nil))) ρ S = r := by rw [ev_blt, es1 h1 (es1 h2 es0), Res.bind_ok', h3]
theorem enot {a : E} {b : Bool} (h1 : evE M a ρ S = .ok (.p (.bl b)) S1) : evE M (.no a) ρ S = .ok (.p (.bl (!b))) S1 := by rw [ev_no, h1, Res.bind_ok', tru_bl, Res.bind_ok']
theorem eix {a b : E} {r : Res D} (h1 : evE M a ρ S = .ok d1 S1) (h2 : evE M b ρ S1 = .ok d2 S2) (h3 : ixI d1 d2 S2 = r) : evE M (.ix a b) ρ S = r := by rw [ev_ix, h1, Res.bind_ok', h2, Res.bind_ok', h3]
theorem ecmp {o : CmpOp} {a b : E} {r : Res D} (h1 : evE M a ρ S = .ok d1 S1) (h2 : evE M b ρ S1 = .ok d2 S2) (h3 : cmpI o d1 d2 S2 = r) : evE M (.cmp o a b) ρ S = r := by rw [ev_cmp, h1, Res.bind_ok', h2, Res.bind_ok', h3]
theorem ebin {o : Operator} {a b : E} {r : Res D} (h1 : evE M a ρ S = .ok d1 S1) (h2 : evE M b ρ S1 = .ok d2 S2) (h3 : binI o d1 d2 S2 = r) : evE M (.bin o a b) ρ S = r := by rw [ev_bin, h1, Res.bind_ok', h2, Res.bind_ok', h3]
theorem egd {t : List (Cs × PD)} {n : Nat} {a : E} {z : Cs} {x : PD} (h1 : evE M a ρ S = .ok (.p (.str z)) S1) (h2 : t.lookup z = some x) : evE M (.gd t n a) ρ S = .ok (.p x) S1 := by
  rw [evE, h1, Res.bind_ok']
  simp only [h2]
  rfl
theorem eor0 {a b : E} {bs : Es} {r : Res D} (h1 : evE M a ρ S = .ok (.p (.bl false)) S1) (h2 : evE M (.bo .Or (.cons b bs)) ρ S1 = r) : evE M (.bo .Or (.cons a (.cons b bs))) ρ S = r := by
  rw [ev_bo] at h2
  rw [ev_bo, evb_or, h1, Res.bind_ok', tru_bl, Res.bind_ok', if_neg (by decide), h2]
theorem eor1 {a b : E} {bs : Es} (h1 : evE M a ρ S = .ok (.p (.bl true)) S1) : evE M (.bo .Or (.cons a (.cons b bs))) ρ S = .ok (.p (.bl true)) S1 := by
  rw [ev_bo, evb_or, h1, Res.bind_ok', tru_bl, Res.bind_ok', if_pos rfl]
theorem eand1 {a b : E} {bs : Es} {r : Res D} (h1 : evE M a ρ S = .ok (.p (.bl true)) S1) (h2 : evE M (.bo .And (.cons b bs)) ρ S1 = r) : evE M (.bo .And (.cons a (.cons b bs))) ρ S = r := by
  rw [ev_bo] at h2
  rw [ev_bo, evb_and, h1, Res.bind_ok', tru_bl, Res.bind_ok', if_pos rfl, h2]
theorem eand0 {a b : E} {bs : Es} (h1 : evE M a ρ S = .ok (.p (.bl false)) S1) : evE M (.bo .And (.cons a (.cons b bs))) ρ S = .ok (.p (.bl false)) S1 := by
  rw [ev_bo, evb_and, h1, Res.bind_ok', tru_bl, Res.bind_ok', if_neg (by decide)]
theorem ebo1 {o : BoolOp} {a : E} {r : Res D} (h : evE M a ρ S = r) : evE M (.bo o (.cons a .nil)) ρ S = r := by rw [ev_bo, evb_one, h]
theorem eor2 {a b : E} {x y : Bool} (h1 : evE M a ρ S = .ok (.p (.bl x)) S) (h2 : evE M b ρ S = .ok (.p (.bl y)) S) : evE M (.bo .Or (.cons a (.cons b .nil))) ρ S = .ok (.p (.bl (x || y))) S := by
  cases x with
  | true => exact eor1 h1
  | false => exact eor0 h1 (ebo1 h2)
theorem eand2 {a b : E} {x y : Bool} (h1 : evE M a ρ S = .ok (.p (.bl x)) S) (h2 : evE M b ρ S = .ok (.p (.bl y)) S) : evE M (.bo .And (.cons a (.cons b .nil))) ρ S = .ok (.p (.bl (x && y))) S := by
  cases x with
  | true => exact eand1 h1 (ebo1 h2)
  | false => exact eand0 h1
theorem eisi {a : E} {t : Ty} {b : Bool} (h1 : evE M a ρ S = .ok d S1) (h2 : known d S1 = true) (h3 : isTy d S1 t = b) : evE M (.isi a t) ρ S = .ok (.p (.bl b)) S1 := by rw [ev_isi, h1, Res.bind_ok', if_pos h2, h3]
theorem eat {c f : String} {a : E} {n : Nat} {fs : List (String × D)} (h1 : evE M a ρ S = .ok (.ref n) S1) (h2 : S1[n]? = some (.ob c fs)) (h3 : fs.lookup f = some d) : evE M (.at c a f) ρ S = .ok d S1 := by
  rw [evE, h1, Res.bind_ok']
  unfold fldO
  simp only [h2, if_true, h3]
theorem emcl {c m : String} {fi n : Nat} {a : E} {as : Es} {ds : List D} {fs : List (String × D)} {r : Res D} (h1 : evE M a ρ S = .ok (.ref n) S1) (h2 : S1[n]? = some (.ob c fs)) (h3 : fs.lookup m = none) (h4 : evEs M as ρ S1 = .ok ds S2) (h5 : M.call fi (.ref n :: ds) S2 = r) :
    evE M (.mcl c m fi a as) ρ S = r := by
  rw [evE, h1, Res.bind_ok', if_pos (by unfold isOb; simp [h2, h3]), h4, Res.bind_ok', h5]
theorem emk {c : String} {fi : Nat} {as : Es} {ds : List D} (h1 : evEs M as ρ S = .ok ds S1) (h2 : M.call fi (.ref S1.length :: ds) (S1 ++ [.ob c []]) = .ok (.p .non) S2) : evE M (.mk c fi as) ρ S = .ok (.ref S1.length) S2 := by
  rw [evE, h1, Res.bind_ok']
  unfold mkO
  rw [h2]
  rfl
theorem stsat {c f : String} {a e : E} {n : Nat} {fs : List (String × D)} (h1 : evE M e ρ S = .ok d S1) (h2 : evE M a ρ S1 = .ok (.ref n) S2) (h3 : S2[n]? = some (.ob c fs)) (h4 : fs.length < 1000) :
    evC M (.sat c a f e) ρ S = .nx ρ (S2.set n (.ob c (putS f d fs))) := by
  rw [evC, h1, Res.out_ok, h2, Res.out_ok]
  unfold setO
  simp only [h3, h4, and_self, if_true]
theorem stex {e : E} (h : evE M e ρ S = .ok d S1) : evC M (.ex e) ρ S = .nx ρ S1 := by rw [evc_ex, h, Res.out_ok]
theorem stexX {e : E} {x : Ex} (h : evE M e ρ S = .exc x S1) : evC M (.ex e) ρ S = .exc x ρ S1 := by rw [evc_ex, h, Res.out_exc]
theorem stasgX {tg : Tg} {e : E} {x : Ex} (h : evE M e ρ S = .exc x S1) : evC M (.asg tg e) ρ S = .exc x ρ S1 := by rw [evc_asg, h, Res.out_exc]
theorem stifX {c : E} {t f : Cz} {x : Ex} (h : evE M c ρ S = .exc x S1) : evC M (.ite c t f) ρ S = .exc x ρ S1 := by rw [evc_ite, h, Res.bind_exc, Res.out_exc]
theorem strse {c : Nat} {fs : List String} {es : Es} {ds : List D} (h : evEs M es ρ S = .ok ds S1) (hl : ds.length = fs.length) : evC M (.rse c fs es) ρ S = .exc ⟨c, fs.zip ds⟩ ρ S1 := by rw [evc_rse, h, Res.out_ok, if_pos hl]
theorem stif0 {c : E} {t : Cz} (h : evE M c ρ S = .ok (.p (.bl false)) S1) : evC M (.ite c t .nil) ρ S = .nx ρ S1 := by
  rw [evc_ite, h, Res.bind_ok', tru_bl, Res.out_ok, if_neg (by decide), evz_nil]
theorem stif1 {c : E} {t f : Cz} {r : Out} (h : evE M c ρ S = .ok (.p (.bl true)) S1) (h2 : evCz M t ρ S1 = r) : evC M (.ite c t f) ρ S = r := by
  rw [evc_ite, h, Res.bind_ok', tru_bl, Res.out_ok, if_pos rfl, h2]
theorem stif2 {c : E} {t f : Cz} {r : Out} (h : evE M c ρ S = .ok (.p (.bl false)) S1) (h2 : evCz M f ρ S1 = r) : evC M (.ite c t f) ρ S = r := by
  rw [evc_ite, h, Res.bind_ok', tru_bl, Res.out_ok, if_neg (by decide), h2]
theorem stasg {i : Nat} {e : E} (h : evE M e ρ S = .ok d S1) (hr : ρ1 = ρ.set i (some d)) : evC M (.asg (.nm i) e) ρ S = .nx ρ1 S1 := by
  rw [evc_asg, h, Res.out_ok, asg_nm, hr]
theorem stret {e : E} (h : evE M e ρ S = .ok d S1) : evC M (.ret e) ρ S = .rt d S1 := by rw [evc_ret, h, Res.out_ok]
theorem rg1_ev {e : E} {z : Int} (he : evE M e ρ S = .ok (.p (.int z)) S) (h : small z = true) : evW M (.rg1 e) ρ S = .ok ⟨rgS 0 1 z.toNat, none⟩ S := by
  rw [evw_rg1, he]
  simp only [Res.bind_ok', h, if_true]
/-- the same, the turns counted -/
theorem rg1_nat {e : E} {n : Nat} (he : evE M e ρ S = .ok (.p (.int (n : Int))) S) (h : n ≤ 1000000) : evW M (.rg1 e) ρ S = .ok ⟨rgS 0 1 n, none⟩ S := by
  have := rg1_ev he (small_rg (by omega) (by omega))
  rw [this, Int.toNat_natCast]
theorem rgL_ev {e : E} {n : Nat} (he : evE M e ρ S = .ok d S) (h : bltI .len [d] S = .ok (.p (.int (n : Int))) S) : evW M (.rgL e) ρ S = .ok ⟨rgS 0 1 n, none⟩ S := by
  rw [evw_rgL, he]
  simp only [Res.bind_ok', h, Int.toNat_natCast]
theorem of_ev {e : E} {w : Wk} (he : evE M e ρ S = .ok d S1) (h : wkOf d S1 = .ok w S2) : evW M (.of e) ρ S = .ok w S2 := by rw [evw_of, he, Res.bind_ok', h]
theorem stfor {tg : Tg} {it : W} {body : Cz} {w : Wk} {r : Out} (hw : evW M it ρ S = .ok w S1) (h : forI w tg (evCz M body) w.ds ρ S1 = r) : evC M (.forr tg it body) ρ S = r := by rw [evc_for, hw, Res.out_ok, h]
section
variable {w : Wk} {tg : Tg} {body : Nv → Sto → Out} {ds : List D} {ρ2 : Nv}
theorem forI_nx1 (hs : w.still S = true) (ha : asgT tg d ρ = some ρ1) (h : body ρ1 S = .nx ρ2 S2) : forI w tg body (d :: ds) ρ S = forI w tg body ds ρ2 S2 := by
  rw [forI, if_pos hs, ha]
  simp only [h]
theorem forI_rt1 (hs : w.still S = true) (ha : asgT tg d ρ = some ρ1) (h : body ρ1 S = .rt d2 S2) : forI w tg body (d :: ds) ρ S = .rt d2 S2 := by
  rw [forI, if_pos hs, ha]
  simp only [h]
theorem forI_exc1 {x : Ex} (hs : w.still S = true) (ha : asgT tg d ρ = some ρ1) (h : body ρ1 S = .exc x ρ2 S2) : forI w tg body (d :: ds) ρ S = .exc x ρ2 S2 := by
  rw [forI, if_pos hs, ha]
  simp only [h]
end
/-- a row of truth values -/
def rowB (m : Nat) (f : Nat → Bool) : List PD := (List.range m).map fun i => .bl (f i)
theorem rowB_len (m : Nat) (f : Nat → Bool) : (rowB m f).length = m := by simp [rowB]
theorem ix_rowB {m i : Nat} {f : Nat → Bool} (h : dataOf d S = some (rowB m f)) (hi : i < m) : ixI d (.p (.int (i : Int))) S = .ok (.p (.bl (f i))) S := by
  refine ix_data h (atI_nat ?_)
  simp [rowB, hi]
theorem list_ev {xs : List PD} (h : dataOf d S = some xs) : bltI .list [d] S = .ok (.ref S.length) (S ++ [.pl xs]) := by simp only [bltI, h]; rfl
theorem tuple_ev {xs : List PD} (h : dataOf d S = some xs) : bltI .tuple [d] S = .ok (.p (.tup xs)) S := by simp only [bltI, h]; rfl
end
end PH

namespace PH
open L2 PySem PySem.Spec PyProof.Rows
/-- the text, statement by statement -/
abbrev k01_top (i : Nat) : Stmt := PySem.Challenge.pw_pinharbor_k01_version_text.main.body.getD i (.Pass ⟨0, 0, 0, 0⟩)
def k01_is_integer : Df := ⟨1, 1, (.cons (.ret (.bo .And (.cons (.isi (.v 0) .int) (.cons (.no (.isi (.v 0) .bool)) .nil))))
  .nil)⟩
def k01_E_is_integer : Ent := ⟨"is_integer", k01_top 16, ["value"], ["value"], k01_is_integer, "", "is_integer"⟩
def k01_is_number : Df := ⟨3, 3, (.cons (.ret (.bo .And (.cons (.call 0 (.cons (.v 0) .nil)) (.cons (.chn .LtE .LtE (.v 1) (.v 0) (.v 2)) .nil))))
  .nil)⟩
def k01_E_is_number : Ent := ⟨"is_number", k01_top 17, ["value", "least", "most"], ["value", "least", "most"], k01_is_number, "", "is_number"⟩
def k01_is_version : Df := ⟨1, 2, (.cons (.ite (.bo .Or (.cons (.no (.isi (.v 0) .tuple)) (.cons (.cmp .NotEq (.blt .len (.cons (.v 0) .nil)) (.k (.int 4))) .nil))) (.cons (.ret (.k (.bl false)))
    .nil) .nil)
  (.cons (.ret (.blt .all (.cons (.lc [1] (.nm 1) (.of (.v 0)) (.call 1 (.cons (.v 1) (.cons (.k (.int 0)) (.cons (.g 1) .nil))))) .nil)))
  .nil))⟩
def k01_E_is_version : Ent := ⟨"is_version", k01_top 23, ["value", "part"], ["value"], k01_is_version, "", "is_version"⟩
def k01_is_final : Df := ⟨1, 1, (.cons (.ret (.cmp .Eq (.ix (.v 0) (.k (.int 3))) (.g 1)))
  .nil)⟩
def k01_E_is_final : Ent := ⟨"is_final", k01_top 24, ["version"], ["version"], k01_is_final, "", "is_final"⟩
def k01_version_code : Df := ⟨1, 5, (.cons (.asg (.tp [(.nm 1), (.nm 2), (.nm 3), (.nm 4)]) (.v 0))
  (.cons (.ret (.bin .Add (.bin .Mult (.bin .Add (.bin .Mult (.bin .Add (.bin .Mult (.v 1) (.k (.int 1000))) (.v 2)) (.k (.int 1000))) (.v 3)) (.k (.int 1000))) (.v 4)))
  .nil))⟩
def k01_E_version_code : Ent := ⟨"version_code", k01_top 25, ["version", "major", "minor", "patch", "early"], ["version"], k01_version_code, "", "version_code"⟩
def k01_version_at : Df := ⟨1, 1, (.cons (.ite (.no (.call 1 (.cons (.v 0) (.cons (.k (.int 0)) (.cons (.bin .Sub (.g 2) (.k (.int 1))) .nil))))) (.cons (.rse 1 ["name"] (.cons (.k (.str [99, 111, 100, 101])) .nil))
    .nil) .nil)
  (.cons (.ret (.tp (.cons (.bin .FloorDiv (.v 0) (.k (.int 1000000000))) (.cons (.bin .Mod (.bin .FloorDiv (.v 0) (.k (.int 1000000))) (.k (.int 1000))) (.cons (.bin .Mod (.bin .FloorDiv (.v 0) (.k (.int 1000))) (.k (.int 1000))) (.cons (.bin .Mod (.v 0) (.k (.int 1000))) .nil))))))
  .nil))⟩
def k01_E_version_at : Ent := ⟨"version_at", k01_top 26, ["code"], ["code"], k01_version_at, "", "version_at"⟩
def k01_version_text : Df := ⟨1, 6, (.cons (.asg (.tp [(.nm 1), (.nm 2), (.nm 3), (.nm 4)]) (.v 0))
  (.cons (.asg (.nm 5) (.bin .Add (.bin .Add (.bin .Add (.bin .Add (.blt .str (.cons (.v 1) .nil)) (.k (.str [46]))) (.blt .str (.cons (.v 2) .nil))) (.k (.str [46]))) (.blt .str (.cons (.v 3) .nil))))
  (.cons (.ite (.cmp .Eq (.v 4) (.g 1)) (.cons (.ret (.v 5))
    .nil) .nil)
  (.cons (.ret (.bin .Add (.bin .Add (.v 5) (.k (.str [45]))) (.blt .str (.cons (.v 4) .nil))))
  .nil))))⟩
def k01_E_version_text : Ent := ⟨"version_text", k01_top 27, ["version", "major", "minor", "patch", "early", "text"], ["version"], k01_version_text, "", "version_text"⟩
def k01_parse_version : Df := ⟨1, 6, (.cons (.asg (.nm 1) (.mk "Scanner" 26 (.cons (.k (.str [118, 101, 114, 115, 105, 111, 110])) (.cons (.v 0) .nil))))
  (.cons (.asg (.nm 2) (.mcl "Scanner" "number" 31 (.v 1) (.cons (.k (.int 999)) .nil)))
  (.cons (.ex (.mcl "Scanner" "take" 29 (.v 1) (.cons (.k (.str [46])) .nil)))
  (.cons (.asg (.nm 3) (.mcl "Scanner" "number" 31 (.v 1) (.cons (.k (.int 999)) .nil)))
  (.cons (.ex (.mcl "Scanner" "take" 29 (.v 1) (.cons (.k (.str [46])) .nil)))
  (.cons (.asg (.nm 4) (.mcl "Scanner" "number" 31 (.v 1) (.cons (.k (.int 999)) .nil)))
  (.cons (.asg (.nm 5) (.g 1))
  (.cons (.ite (.mcl "Scanner" "skip" 28 (.v 1) (.cons (.k (.str [45])) .nil)) (.cons (.asg (.nm 5) (.mcl "Scanner" "number" 31 (.v 1) (.cons (.k (.int 998)) .nil)))
    .nil) .nil)
  (.cons (.ex (.mcl "Scanner" "end" 30 (.v 1) .nil))
  (.cons (.ret (.tp (.cons (.v 2) (.cons (.v 3) (.cons (.v 4) (.cons (.v 5) .nil))))))
  .nil))))))))))⟩
def k01_E_parse_version : Ent := ⟨"parse_version", k01_top 28, ["text", "scanner", "major", "minor", "patch", "early"], ["text"], k01_parse_version, "", "parse_version"⟩
def k01_law_numbers : Df := ⟨3, 9, (.cons (.asg (.nm 3) (.k (.int 0)))
  (.cons (.ite (.cmp .Lt (.v 1) (.blt .len (.cons (.v 0) .nil))) (.cons (.asg (.nm 3) (.ix (.v 0) (.v 1)))
    .nil) .nil)
  (.cons (.asg (.nm 4) (.ls .nil))
  (.cons (.ite (.cmp .GtE (.v 3) (.bin .Pow (.k (.int 10)) (.k (.int 18)))) (.cons (.asg (.nm 5) (.bin .Sub (.v 3) (.bin .Pow (.k (.int 10)) (.k (.int 18)))))
    (.cons (.forr (.nm 6) (.rg1 (.v 2)) (.cons (.ex (.mth .append (.v 4) (.cons (.bin .Mod (.blt .int (.cons (.v 5) .nil)) (.k (.int 1000000))) .nil)))
      (.cons (.asg (.nm 5) (.bin .FloorDiv (.v 5) (.k (.int 1000000))))
      .nil)))
    (.cons (.ret (.v 4))
    .nil))) .nil)
  (.cons (.asg (.nm 7) (.k (.int 0)))
  (.cons (.ite (.cmp .Gt (.blt .len (.cons (.v 0) .nil)) (.k (.int 0))) (.cons (.asg (.nm 7) (.bin .Mod (.blt .int (.cons (.ix (.v 0) (.k (.int 0))) .nil)) (.k (.int 2147483647))))
    .nil) .nil)
  (.cons (.asg (.nm 8) (.bin .Mod (.blt .int (.cons (.bin .Add (.bin .Add (.bin .Mult (.bin .Mod (.blt .int (.cons (.v 3) .nil)) (.k (.int 2147483647))) (.k (.int 69621))) (.bin .Mult (.bin .Add (.v 1) (.k (.int 1))) (.k (.int 40692)))) (.bin .Mult (.v 7) (.k (.int 16807)))) .nil)) (.k (.int 2147483647))))
  (.cons (.forr (.nm 6) (.rg1 (.v 2)) (.cons (.asg (.nm 8) (.bin .Mod (.blt .int (.cons (.bin .Add (.bin .Mult (.v 8) (.k (.int 48271))) (.k (.int 30011))) .nil)) (.k (.int 2147483647))))
    (.cons (.ex (.mth .append (.v 4) (.cons (.bin .Mod (.bin .FloorDiv (.v 8) (.k (.int 1024))) (.k (.int 1000000))) .nil)))
    .nil)))
  (.cons (.ret (.v 4))
  .nil)))))))))⟩
def k01_E_law_numbers : Ent := ⟨"_law_numbers", k01_top 30, ["script", "k", "count", "cell", "found", "rest", "j", "first", "state"], ["script", "k", "count"], k01_law_numbers, "", "_law_numbers"⟩
def k01_law_is_integer : Df := ⟨1, 1, (.cons (.ret (.bo .And (.cons (.isi (.v 0) .int) (.cons (.no (.isi (.v 0) .bool)) .nil))))
  .nil)⟩
def k01_E_law_is_integer : Ent := ⟨"_law_is_integer", k01_top 31, ["actual"], ["actual"], k01_law_is_integer, "", "_law_is_integer"⟩
def k01_law_is_version : Df := ⟨1, 2, (.cons (.ite (.bo .Or (.cons (.no (.isi (.v 0) .tuple)) (.cons (.cmp .NotEq (.blt .len (.cons (.v 0) .nil)) (.k (.int 4))) .nil))) (.cons (.ret (.k (.bl false)))
    .nil) .nil)
  (.cons (.ret (.blt .all (.cons (.lc [1] (.nm 1) (.of (.v 0)) (.call 9 (.cons (.v 1) .nil))) .nil)))
  .nil))⟩
def k01_E_law_is_version : Ent := ⟨"_law_is_version", k01_top 32, ["actual", "part"], ["actual"], k01_law_is_version, "", "_law_is_version"⟩
def k01_law_part : Df := ⟨2, 2, (.cons (.ite (.cmp .Eq (.bin .Mod (.blt .int (.cons (.v 0) .nil)) (.k (.int 2))) (.k (.int 0))) (.cons (.ret (.ix (.ls (.cons (.k (.int 0)) (.cons (.k (.int 1)) (.cons (.k (.int 9)) (.cons (.k (.int 10)) (.cons (.k (.int 99)) (.cons (.k (.int 100)) (.cons (.k (.int 998)) (.cons (.k (.int 999)) .nil))))))))) (.bin .Mod (.blt .int (.cons (.v 1) .nil)) (.k (.int 8)))))
    .nil) .nil)
  (.cons (.ret (.bin .Mod (.blt .int (.cons (.v 1) .nil)) (.k (.int 1000))))
  .nil))⟩
def k01_E_law_part : Ent := ⟨"_law_part", k01_top 33, ["a", "b"], ["a", "b"], k01_law_part, "", "_law_part"⟩
def k01_law_drawn : Df := ⟨2, 3, (.cons (.asg (.nm 2) (.tp (.cons (.call 11 (.cons (.ix (.v 0) (.v 1)) (.cons (.ix (.v 0) (.bin .Add (.v 1) (.k (.int 1)))) .nil))) (.cons (.call 11 (.cons (.ix (.v 0) (.bin .Add (.v 1) (.k (.int 2)))) (.cons (.ix (.v 0) (.bin .Add (.v 1) (.k (.int 3)))) .nil))) .nil))))
  (.cons (.ret (.bin .Add (.v 2) (.tp (.cons (.call 11 (.cons (.ix (.v 0) (.bin .Add (.v 1) (.k (.int 4)))) (.cons (.ix (.v 0) (.bin .Add (.v 1) (.k (.int 5)))) .nil))) (.cons (.call 11 (.cons (.ix (.v 0) (.bin .Add (.v 1) (.k (.int 6)))) (.cons (.ix (.v 0) (.bin .Add (.v 1) (.k (.int 7)))) .nil))) .nil)))))
  .nil))⟩
def k01_E_law_drawn : Ent := ⟨"_law_drawn", k01_top 34, ["row", "at", "first"], ["row", "at"], k01_law_drawn, "", "_law_drawn"⟩
def k01_law_text : Df := ⟨1, 2, (.cons (.asg (.nm 1) (.bin .Add (.bin .Add (.bin .Add (.bin .Add (.blt .str (.cons (.ix (.v 0) (.k (.int 0))) .nil)) (.k (.str [46]))) (.blt .str (.cons (.ix (.v 0) (.k (.int 1))) .nil))) (.k (.str [46]))) (.blt .str (.cons (.ix (.v 0) (.k (.int 2))) .nil))))
  (.cons (.ite (.cmp .NotEq (.ix (.v 0) (.k (.int 3))) (.k (.int 999))) (.cons (.asg (.nm 1) (.bin .Add (.bin .Add (.v 1) (.k (.str [45]))) (.blt .str (.cons (.ix (.v 0) (.k (.int 3))) .nil))))
    .nil) .nil)
  (.cons (.ret (.v 1))
  .nil)))⟩
def k01_E_law_text : Ent := ⟨"_law_text", k01_top 35, ["version", "text"], ["version"], k01_law_text, "", "_law_text"⟩
def k01_law_number : Df := ⟨2, 5, (.cons (.ite (.bo .Or (.cons (.cmp .Eq (.v 0) (.k (.str []))) (.cons (.cmp .Gt (.blt .len (.cons (.v 0) .nil)) (.k (.int 3))) (.cons (.bo .And (.cons (.cmp .Gt (.blt .len (.cons (.v 0) .nil)) (.k (.int 1))) (.cons (.cmp .Eq (.ix (.v 0) (.k (.int 0))) (.k (.str [48]))) .nil))) .nil)))) (.cons (.ret (.neg (.k (.int 1))))
    .nil) .nil)
  (.cons (.asg (.nm 2) (.k (.int 0)))
  (.cons (.forr (.nm 3) (.of (.v 0)) (.cons (.asg (.nm 4) (.mth .find (.k (.str [48, 49, 50, 51, 52, 53, 54, 55, 56, 57])) (.cons (.v 3) .nil)))
    (.cons (.ite (.cmp .Lt (.v 4) (.k (.int 0))) (.cons (.ret (.neg (.k (.int 1))))
      .nil) .nil)
    (.cons (.asg (.nm 2) (.bin .Add (.bin .Mult (.v 2) (.k (.int 10))) (.v 4)))
    .nil))))
  (.cons (.ite (.cmp .Gt (.v 2) (.v 1)) (.cons (.ret (.neg (.k (.int 1))))
    .nil) .nil)
  (.cons (.ret (.v 2))
  .nil)))))⟩
def k01_E_law_number : Ent := ⟨"_law_number", k01_top 36, ["text", "most", "found", "char", "digit"], ["text", "most"], k01_law_number, "", "_law_number"⟩
def k01_law_parts : Df := ⟨1, 3, (.cons (.asg (.nm 1) (.mth .split (.v 0) (.cons (.k (.str [46])) .nil)))
  (.cons (.ite (.cmp .Gt (.blt .len (.cons (.v 1) .nil)) (.k (.int 3))) (.cons (.ret (.bin .Mult (.ls (.cons (.k (.str [])) .nil)) (.k (.int 5))))
    .nil) .nil)
  (.cons (.ite (.bo .And (.cons (.cmp .Eq (.blt .len (.cons (.v 1) .nil)) (.k (.int 3))) (.cons (.cmp .In (.k (.str [45])) (.ix (.v 1) (.k (.int 2)))) .nil))) (.cons (.asg (.nm 2) (.mth .find (.ix (.v 1) (.k (.int 2))) (.cons (.k (.str [45])) .nil)))
    (.cons (.ret (.bin .Add (.slH (.v 1) (.k (.int 2))) (.ls (.cons (.slH (.ix (.v 1) (.k (.int 2))) (.v 2)) (.cons (.slL (.ix (.v 1) (.k (.int 2))) (.bin .Add (.v 2) (.k (.int 1)))) .nil)))))
    .nil)) .nil)
  (.cons (.ret (.v 1))
  .nil))))⟩
def k01_E_law_parts : Ent := ⟨"_law_parts", k01_top 37, ["text", "parts", "at"], ["text"], k01_law_parts, "", "_law_parts"⟩
def k01_law_begins : Df := ⟨1, 3, (.cons (.asg (.nm 1) (.call 15 (.cons (.v 0) .nil)))
  (.cons (.forr (.nm 2) (.rgL (.v 1)) (.cons (.ite (.bo .And (.cons (.cmp .Lt (.call 14 (.cons (.ix (.v 1) (.v 2)) (.cons (.bin .Sub (.k (.int 999)) (.blt .int (.cons (.cmp .Eq (.v 2) (.k (.int 3))) .nil))) .nil))) (.k (.int 0))) (.cons (.bo .Or (.cons (.cmp .NotEq (.ix (.v 1) (.v 2)) (.k (.str []))) (.cons (.cmp .Lt (.v 2) (.bin .Sub (.blt .len (.cons (.v 1) .nil)) (.k (.int 1)))) .nil))) .nil))) (.cons (.ret (.k (.bl false)))
      .nil) .nil)
    .nil))
  (.cons (.ret (.k (.bl true)))
  .nil)))⟩
def k01_E_law_begins : Ent := ⟨"_law_begins", k01_top 38, ["text", "parts", "k"], ["text"], k01_law_begins, "", "_law_begins"⟩
def k01_law_due : Df := ⟨1, 6, (.cons (.asg (.nm 1) (.call 15 (.cons (.v 0) .nil)))
  (.cons (.asg (.nm 2) (.lc [3] (.nm 3) (.rgL (.v 1)) (.call 14 (.cons (.ix (.v 1) (.v 3)) (.cons (.bin .Sub (.k (.int 999)) (.blt .int (.cons (.cmp .Eq (.v 3) (.k (.int 3))) .nil))) .nil)))))
  (.cons (.ite (.bo .And (.cons (.cmp .Gt (.blt .len (.cons (.v 2) .nil)) (.k (.int 2))) (.cons (.cmp .GtE (.blt .min (.cons (.v 2) .nil)) (.k (.int 0))) .nil))) (.cons (.ite (.cmp .Eq (.blt .len (.cons (.v 2) .nil)) (.k (.int 3))) (.cons (.ex (.mth .append (.v 2) (.cons (.k (.int 999)) .nil)))
      .nil) .nil)
    (.cons (.ret (.tp (.cons (.k (.str [114, 101, 97, 100])) (.cons (.blt .tuple (.cons (.v 2) .nil)) .nil))))
    .nil)) .nil)
  (.cons (.asg (.nm 4) (.k (.int 0)))
  (.cons (.forr (.nm 5) (.rg1 (.bin .Add (.blt .len (.cons (.v 0) .nil)) (.k (.int 1)))) (.cons (.ite (.call 16 (.cons (.slH (.v 0) (.v 5)) .nil)) (.cons (.asg (.nm 4) (.v 5))
      .nil) .nil)
    .nil))
  (.cons (.ret (.tp (.cons (.k (.str [114, 101, 102, 117, 115, 101, 100])) (.cons (.k (.str [118, 101, 114, 115, 105, 111, 110])) (.cons (.v 4) .nil)))))
  .nil))))))⟩
def k01_E_law_due : Ent := ⟨"_law_due", k01_top 39, ["text", "parts", "numbers", "k", "place", "size"], ["text"], k01_law_due, "", "_law_due"⟩
def k01_law_parsed : Df := ⟨1, 3, (.cons (.trx (.cons (.asg (.nm 1) (.call 7 (.cons (.v 0) .nil)))
    .nil) [0, 1, 2, 3, 4, 5, 6, 7, 8, 9, 10, 11] 0 2 (.cons (.ite (.bo .Or (.cons (.no (.isx 2 [1000])) (.cons (.no (.isx 2 [1001])) .nil))) (.cons (.ret (.tp (.cons (.k (.str [111, 116, 104, 101, 114])) .nil)))
      .nil) .nil)
    (.cons (.ite (.isx 2 [1, 2, 3, 4, 5, 6]) (.cons (.ret (.tp (.cons (.k (.str [111, 116, 104, 101, 114])) .nil)))
      .nil) .nil)
    (.cons (.ite (.isx 2 [7, 8, 9, 10, 11]) (.cons (.ret (.tp (.cons (.k (.str [111, 116, 104, 101, 114])) .nil)))
      .nil) .nil)
    (.cons (.ret (.tp (.cons (.k (.str [114, 101, 102, 117, 115, 101, 100])) (.cons (.fld 2 "kind") (.cons (.fld 2 "place") .nil)))))
    .nil)))))
  (.cons (.ret (.tp (.cons (.k (.str [114, 101, 97, 100])) (.cons (.v 1) .nil))))
  .nil))⟩
def k01_E_law_parsed : Ent := ⟨"_law_parsed", k01_top 40, ["text", "found", "e"], ["text"], k01_law_parsed, "", "_law_parsed"⟩
def k01_law_same : Df := ⟨2, 2, (.cons (.ite (.bo .And (.cons (.cmp .Eq (.ix (.v 0) (.k (.int 0))) (.k (.str [114, 101, 97, 100]))) (.cons (.cmp .Eq (.ix (.v 1) (.k (.int 0))) (.k (.str [114, 101, 97, 100]))) .nil))) (.cons (.ret (.bo .And (.cons (.call 10 (.cons (.ix (.v 0) (.k (.int 1))) .nil)) (.cons (.cmp .Eq (.ix (.v 0) (.k (.int 1))) (.ix (.v 1) (.k (.int 1)))) .nil))))
    .nil) .nil)
  (.cons (.ite (.bo .And (.cons (.cmp .Eq (.ix (.v 0) (.k (.int 0))) (.k (.str [114, 101, 102, 117, 115, 101, 100]))) (.cons (.cmp .Eq (.ix (.v 1) (.k (.int 0))) (.k (.str [114, 101, 102, 117, 115, 101, 100]))) .nil))) (.cons (.ret (.bo .And (.cons (.isi (.ix (.v 0) (.k (.int 1))) .str) (.cons (.call 9 (.cons (.ix (.v 0) (.k (.int 2))) .nil)) (.cons (.cmp .Eq (.v 0) (.v 1)) .nil)))))
    .nil) .nil)
  (.cons (.ret (.k (.bl false)))
  .nil)))⟩
def k01_E_law_same : Ent := ⟨"_law_same", k01_top 41, ["actual", "due"], ["actual", "due"], k01_law_same, "", "_law_same"⟩
def k01_law_sign : Df := ⟨1, 3, (.cons (.asg (.nm 1) (.k (.str [48, 49, 50, 51, 52, 53, 54, 55, 56, 57, 46, 45])))
  (.cons (.asg (.nm 2) (.k (.str [32, 33, 34, 35, 36, 38, 39, 40, 41, 42, 43, 44, 45, 46, 47, 48, 49, 50, 51, 52, 53, 54, 55, 56, 57, 58, 59, 60, 61, 62, 63, 64, 65, 90, 91, 92, 93, 94, 95, 97, 98, 99, 100, 101, 102, 103, 104, 105, 106, 107, 108, 109, 110, 111, 112, 113, 114, 115, 116, 117, 118, 119, 120, 121, 122, 123, 124, 125, 126, 10])))
  (.cons (.ite (.cmp .Lt (.bin .Mod (.blt .int (.cons (.v 0) .nil)) (.k (.int 5))) (.k (.int 4))) (.cons (.ret (.ix (.v 1) (.bin .Mod (.bin .FloorDiv (.v 0) (.k (.int 5))) (.blt .len (.cons (.v 1) .nil)))))
    .nil) .nil)
  (.cons (.ret (.ix (.v 2) (.bin .Mod (.bin .FloorDiv (.v 0) (.k (.int 5))) (.blt .len (.cons (.v 2) .nil)))))
  .nil))))⟩
def k01_E_law_sign : Ent := ⟨"_law_sign", k01_top 42, ["number", "common", "signs"], ["number"], k01_law_sign, "", "_law_sign"⟩
def k01_law_spoilt : Df := ⟨4, 10, (.cons (.asg (.nm 4) (.call 13 (.cons (.v 0) .nil)))
  (.cons (.asg (.nm 5) (.bin .Mod (.blt .int (.cons (.ix (.v 1) (.v 2)) .nil)) (.k (.int 8))))
  (.cons (.asg (.nm 6) (.bin .Mod (.blt .int (.cons (.ix (.v 1) (.bin .Add (.v 2) (.k (.int 1)))) .nil)) (.bin .Add (.blt .len (.cons (.v 4) .nil)) (.k (.int 1)))))
  (.cons (.asg (.nm 7) (.call 20 (.cons (.ix (.v 1) (.bin .Add (.v 2) (.k (.int 2)))) .nil)))
  (.cons (.ite (.cmp .Eq (.v 5) (.k (.int 0))) (.cons (.ret (.v 4))
    .nil) .nil)
  (.cons (.ite (.bo .Or (.cons (.cmp .Eq (.v 5) (.k (.int 1))) (.cons (.cmp .Eq (.v 5) (.k (.int 2))) .nil))) (.cons (.ret (.bin .Add (.bin .Add (.slH (.v 4) (.v 6)) (.v 7)) (.slL (.v 4) (.v 6))))
    .nil) .nil)
  (.cons (.ite (.cmp .Eq (.v 5) (.k (.int 3))) (.cons (.ret (.bin .Add (.slH (.v 4) (.v 6)) (.slL (.v 4) (.bin .Add (.v 6) (.k (.int 1))))))
    .nil) .nil)
  (.cons (.ite (.bo .Or (.cons (.cmp .Eq (.v 5) (.k (.int 4))) (.cons (.cmp .Eq (.v 5) (.k (.int 5))) .nil))) (.cons (.ret (.bin .Add (.bin .Add (.slH (.v 4) (.v 6)) (.v 7)) (.slL (.v 4) (.bin .Add (.v 6) (.k (.int 1))))))
    .nil) .nil)
  (.cons (.ite (.cmp .Eq (.v 5) (.k (.int 6))) (.cons (.asg (.nm 8) (.ls (.cons (.k (.str [])) (.cons (.k (.str [48])) (.cons (.k (.str [48, 48])) (.cons (.k (.str [48, 57])) (.cons (.k (.str [57, 57, 56])) (.cons (.k (.str [57, 57, 57])) (.cons (.k (.str [49, 48, 48, 48])) (.cons (.k (.str [55, 45, 55])) (.cons (.k (.str [55, 46, 55])) .nil)))))))))))
    (.cons (.ret (.bin .Add (.bin .Add (.call 13 (.cons (.bin .Add (.slH (.v 0) (.k (.int 3))) (.tp (.cons (.k (.int 999)) .nil))) .nil)) (.k (.str [45]))) (.ix (.v 8) (.bin .Mod (.blt .int (.cons (.ix (.v 1) (.bin .Add (.v 2) (.k (.int 2)))) .nil)) (.blt .len (.cons (.v 8) .nil))))))
    .nil)) .nil)
  (.cons (.ret (.mth .join (.k (.str [])) (.cons (.lc [9] (.nm 9) (.of (.v 3)) (.call 20 (.cons (.v 9) .nil))) .nil)))
  .nil))))))))))⟩
def k01_E_law_spoilt : Ent := ⟨"_law_spoilt", k01_top 43, ["version", "row", "at", "more", "text", "way", "place", "sign", "tails", "number"], ["version", "row", "at", "more"], k01_law_spoilt, "", "_law_spoilt"⟩
def k01_law_near : Df := ⟨3, 6, (.cons (.asg (.nm 3) (.bin .Mod (.blt .int (.cons (.v 1) .nil)) (.k (.int 4))))
  (.cons (.asg (.nm 4) (.bin .Mod (.blt .int (.cons (.v 2) .nil)) (.k (.int 12))))
  (.cons (.asg (.nm 5) (.ls (.cons (.bin .Add (.k (.int 1000)) (.v 1)) (.cons (.bin .Sub (.neg (.k (.int 1))) (.v 1)) (.cons (.k (.bl true)) (.cons (.k (.bl false)) (.cons (.k (.non)) (.cons (.blt .str (.cons (.ix (.v 0) (.v 3)) .nil)) (.cons (.tp (.cons (.ix (.v 0) (.v 3)) .nil)) .nil)))))))))
  (.cons (.ite (.cmp .Lt (.v 4) (.k (.int 7))) (.cons (.ret (.bin .Add (.bin .Add (.slH (.v 0) (.v 3)) (.tp (.cons (.ix (.v 5) (.v 4)) .nil))) (.slL (.v 0) (.bin .Add (.v 3) (.k (.int 1))))))
    .nil) .nil)
  (.cons (.ite (.cmp .Eq (.v 4) (.k (.int 7))) (.cons (.ret (.blt .list (.cons (.v 0) .nil)))
    .nil) .nil)
  (.cons (.ite (.cmp .Eq (.v 4) (.k (.int 8))) (.cons (.ret (.slH (.v 0) (.k (.int 3))))
    .nil) .nil)
  (.cons (.ite (.cmp .Eq (.v 4) (.k (.int 9))) (.cons (.ret (.bin .Add (.v 0) (.tp (.cons (.ix (.v 0) (.v 3)) .nil))))
    .nil) .nil)
  (.cons (.ite (.cmp .Eq (.v 4) (.k (.int 10))) (.cons (.ret (.call 13 (.cons (.v 0) .nil)))
    .nil) .nil)
  (.cons (.ret (.ix (.ls (.cons (.k (.non)) (.cons (.tp .nil) (.cons (.ls .nil) (.cons (.k (.int 7)) (.cons .d0 (.cons (.tp (.cons (.v 0) .nil)) .nil))))))) (.bin .Mod (.bin .FloorDiv (.v 1) (.k (.int 4))) (.k (.int 6)))))
  .nil)))))))))⟩
def k01_E_law_near : Ent := ⟨"_law_near", k01_top 44, ["version", "a", "b", "j", "way", "wrong"], ["version", "a", "b"], k01_law_near, "", "_law_near"⟩
def k01_law_no_code : Df := ⟨2, 4, (.cons (.asg (.nm 2) (.ls (.cons (.neg (.k (.int 1))) (.cons (.bin .Sub (.neg (.k (.int 1))) (.v 0)) (.cons (.bin .Pow (.k (.int 10)) (.k (.int 12))) (.cons (.bin .Add (.bin .Pow (.k (.int 10)) (.k (.int 12))) (.v 0)) (.cons (.k (.bl true)) (.cons (.k (.bl false)) (.cons (.k (.non)) (.cons (.blt .str (.cons (.v 0) .nil)) (.cons (.tp (.cons (.v 0) .nil)) (.cons (.ls (.cons (.v 0) .nil)) .nil))))))))))))
  (.cons (.trx (.cons (.ex (.call 5 (.cons (.ix (.v 2) (.bin .Mod (.blt .int (.cons (.v 1) .nil)) (.k (.int 10)))) .nil)))
    .nil) [0, 1, 2, 3, 4, 5, 6, 7, 8, 9, 10, 11] 1 3 (.cons (.ret (.bo .And (.cons (.isx 3 [1000]) (.cons (.no (.isx 3 [0])) (.cons (.cmp .Eq (.fld 3 "name") (.k (.str [99, 111, 100, 101]))) .nil)))))
    .nil))
  (.cons (.ret (.k (.bl false)))
  .nil)))⟩
def k01_E_law_no_code : Ent := ⟨"_law_no_code", k01_top 45, ["a", "b", "wrong", "e"], ["a", "b"], k01_law_no_code, "", "_law_no_code"⟩
def k01_law_holds : Df := ⟨1, 6, (.cons (.asg (.nm 1) (.bin .Add (.bin .Add (.bin .Add (.bin .Mult (.ix (.v 0) (.k (.int 0))) (.bin .Pow (.k (.int 10)) (.k (.int 9)))) (.bin .Mult (.ix (.v 0) (.k (.int 1))) (.bin .Pow (.k (.int 10)) (.k (.int 6))))) (.bin .Mult (.ix (.v 0) (.k (.int 2))) (.k (.int 1000)))) (.ix (.v 0) (.k (.int 3)))))
  (.cons (.asg (.nm 2) (.call 4 (.cons (.v 0) .nil)))
  (.cons (.ite (.bo .Or (.cons (.no (.call 9 (.cons (.v 2) .nil))) (.cons (.cmp .NotEq (.v 2) (.v 1)) (.cons (.cmp .IsNot (.call 2 (.cons (.v 0) .nil)) (.k (.bl true))) .nil)))) (.cons (.ret (.k (.bl false)))
    .nil) .nil)
  (.cons (.asg (.nm 3) (.call 5 (.cons (.v 1) .nil)))
  (.cons (.ite (.bo .Or (.cons (.no (.call 10 (.cons (.v 3) .nil))) (.cons (.cmp .NotEq (.v 3) (.v 0)) .nil))) (.cons (.ret (.k (.bl false)))
    .nil) .nil)
  (.cons (.asg (.nm 4) (.call 3 (.cons (.v 0) .nil)))
  (.cons (.ite (.bo .Or (.cons (.no (.isi (.v 4) .bool)) (.cons (.cmp .NotEq (.v 4) (.cmp .Eq (.ix (.v 0) (.k (.int 3))) (.k (.int 999)))) .nil))) (.cons (.ret (.k (.bl false)))
    .nil) .nil)
  (.cons (.asg (.nm 5) (.call 6 (.cons (.v 0) .nil)))
  (.cons (.ite (.bo .Or (.cons (.no (.isi (.v 5) .str)) (.cons (.cmp .NotEq (.v 5) (.call 13 (.cons (.v 0) .nil))) .nil))) (.cons (.ret (.k (.bl false)))
    .nil) .nil)
  (.cons (.ret (.call 19 (.cons (.call 18 (.cons (.v 5) .nil)) (.cons (.tp (.cons (.k (.str [114, 101, 97, 100])) (.cons (.v 0) .nil))) .nil))))
  .nil))))))))))⟩
def k01_E_law_holds : Ent := ⟨"_law_holds", k01_top 46, ["version", "code", "found", "back", "last", "text"], ["version"], k01_law_holds, "", "_law_holds"⟩
def k01_law : Df := ⟨1, 7, (.cons (.asg (.nm 1) (.call 8 (.cons (.v 0) (.cons (.k (.int 0)) (.cons (.k (.int 32)) .nil)))))
  (.cons (.asg (.nm 2) (.call 8 (.cons (.v 0) (.cons (.k (.int 1)) (.cons (.k (.int 16)) .nil)))))
  (.cons (.asg (.nm 3) (.call 12 (.cons (.v 1) (.cons (.k (.int 0)) .nil))))
  (.cons (.asg (.nm 4) (.call 12 (.cons (.v 1) (.cons (.k (.int 8)) .nil))))
  (.cons (.ite (.bo .Or (.cons (.cmp .NotEq (.g 2) (.bin .Pow (.k (.int 10)) (.k (.int 12)))) (.cons (.cmp .NotEq (.g 1) (.k (.int 999))) .nil))) (.cons (.ret (.k (.bl false)))
    .nil) .nil)
  (.cons (.ite (.bo .Or (.cons (.no (.call 24 (.cons (.v 3) .nil))) (.cons (.no (.call 24 (.cons (.v 4) .nil))) .nil))) (.cons (.ret (.k (.bl false)))
    .nil) .nil)
  (.cons (.ite (.cmp .NotEq (.cmp .Lt (.call 4 (.cons (.v 3) .nil)) (.call 4 (.cons (.v 4) .nil))) (.cmp .Lt (.v 3) (.v 4))) (.cons (.ret (.k (.bl false)))
    .nil) .nil)
  (.cons (.ite (.cmp .IsNot (.call 2 (.cons (.call 22 (.cons (.v 3) (.cons (.ix (.v 1) (.k (.int 16))) (.cons (.ix (.v 1) (.k (.int 17))) .nil)))) .nil)) (.k (.bl false))) (.cons (.ret (.k (.bl false)))
    .nil) .nil)
  (.cons (.ite (.no (.call 23 (.cons (.ix (.v 1) (.k (.int 18))) (.cons (.ix (.v 1) (.k (.int 19))) .nil)))) (.cons (.ret (.k (.bl false)))
    .nil) .nil)
  (.cons (.forr (.nm 5) (.rg1 (.k (.int 3))) (.cons (.asg (.nm 6) (.call 21 (.cons (.v 3) (.cons (.v 1) (.cons (.bin .Add (.k (.int 20)) (.bin .Mult (.k (.int 3)) (.v 5))) (.cons (.slH (.v 2) (.bin .Mod (.blt .int (.cons (.ix (.v 1) (.k (.int 29))) .nil)) (.k (.int 17)))) .nil))))))
    (.cons (.ite (.no (.call 19 (.cons (.call 18 (.cons (.v 6) .nil)) (.cons (.call 17 (.cons (.v 6) .nil)) .nil)))) (.cons (.ret (.k (.bl false)))
      .nil) .nil)
    .nil)))
  (.cons (.ret (.k (.bl true)))
  .nil)))))))))))⟩
def k01_E_law : Ent := ⟨"law", k01_top 47, ["script", "row", "more", "version", "other", "k", "text"], ["script"], k01_law, "", "law"⟩
def k01_Scanner_init : Df := ⟨3, 3, (.cons (.sat "Scanner" (.v 0) "kind" (.v 1))
  (.cons (.sat "Scanner" (.v 0) "signs" (.v 2))
  (.cons (.sat "Scanner" (.v 0) "spot" (.k (.int 0)))
  .nil)))⟩
def k01_E_Scanner_init : Ent := ⟨"__init__", (clsBody (k01_top 19)).getD 0 (.Pass ⟨0, 0, 0, 0⟩), ["self", "kind", "signs"], ["self", "kind", "signs"], k01_Scanner_init, "Scanner", "Scanner.__init__"⟩
def k01_Scanner_here : Df := ⟨1, 1, (.cons (.ret (.sl (.at "Scanner" (.v 0) "signs") (.at "Scanner" (.v 0) "spot") (.bin .Add (.at "Scanner" (.v 0) "spot") (.k (.int 1)))))
  .nil)⟩
def k01_E_Scanner_here : Ent := ⟨"here", (clsBody (k01_top 19)).getD 1 (.Pass ⟨0, 0, 0, 0⟩), ["self"], ["self"], k01_Scanner_here, "Scanner", "Scanner.here"⟩
def k01_Scanner_skip : Df := ⟨2, 2, (.cons (.ite (.cmp .NotEq (.mcl "Scanner" "here" 27 (.v 0) .nil) (.v 1)) (.cons (.ret (.k (.bl false)))
    .nil) .nil)
  (.cons (.sat "Scanner" (.v 0) "spot" (.bin .Add (.at "Scanner" (.v 0) "spot") (.k (.int 1))))
  (.cons (.ret (.k (.bl true)))
  .nil)))⟩
def k01_E_Scanner_skip : Ent := ⟨"skip", (clsBody (k01_top 19)).getD 2 (.Pass ⟨0, 0, 0, 0⟩), ["self", "char"], ["self", "char"], k01_Scanner_skip, "Scanner", "Scanner.skip"⟩
def k01_Scanner_take : Df := ⟨2, 2, (.cons (.ite (.no (.mcl "Scanner" "skip" 28 (.v 0) (.cons (.v 1) .nil))) (.cons (.rse 0 ["kind", "place"] (.cons (.at "Scanner" (.v 0) "kind") (.cons (.at "Scanner" (.v 0) "spot") .nil)))
    .nil) .nil)
  .nil)⟩
def k01_E_Scanner_take : Ent := ⟨"take", (clsBody (k01_top 19)).getD 3 (.Pass ⟨0, 0, 0, 0⟩), ["self", "char"], ["self", "char"], k01_Scanner_take, "Scanner", "Scanner.take"⟩
def k01_Scanner_end : Df := ⟨1, 1, (.cons (.ite (.cmp .NotEq (.mcl "Scanner" "here" 27 (.v 0) .nil) (.k (.str []))) (.cons (.rse 0 ["kind", "place"] (.cons (.at "Scanner" (.v 0) "kind") (.cons (.at "Scanner" (.v 0) "spot") .nil)))
    .nil) .nil)
  .nil)⟩
def k01_E_Scanner_end : Ent := ⟨"end", (clsBody (k01_top 19)).getD 4 (.Pass ⟨0, 0, 0, 0⟩), ["self"], ["self"], k01_Scanner_end, "Scanner", "Scanner.end"⟩
def k01_Scanner_number : Df := ⟨2, 5, (.cons (.asg (.nm 2) (.at "Scanner" (.v 0) "spot"))
  (.cons (.asg (.nm 3) (.k (.int 0)))
  (.cons (.whl (.bo .And (.cons (.cmp .NotEq (.mcl "Scanner" "here" 27 (.v 0) .nil) (.k (.str []))) (.cons (.cmp .In (.mcl "Scanner" "here" 27 (.v 0) .nil) (.g 0)) .nil))) (.cons (.asg (.nm 4) (.mth .index (.g 0) (.cons (.mcl "Scanner" "here" 27 (.v 0) .nil) .nil)))
    (.cons (.ite (.bo .And (.cons (.cmp .Gt (.at "Scanner" (.v 0) "spot") (.v 2)) (.cons (.cmp .Eq (.v 3) (.k (.int 0))) .nil))) (.cons (.rse 0 ["kind", "place"] (.cons (.at "Scanner" (.v 0) "kind") (.cons (.at "Scanner" (.v 0) "spot") .nil)))
      .nil) .nil)
    (.cons (.ite (.cmp .Gt (.bin .Add (.bin .Mult (.v 3) (.k (.int 10))) (.v 4)) (.v 1)) (.cons (.rse 0 ["kind", "place"] (.cons (.at "Scanner" (.v 0) "kind") (.cons (.at "Scanner" (.v 0) "spot") .nil)))
      .nil) .nil)
    (.cons (.asg (.nm 3) (.bin .Add (.bin .Mult (.v 3) (.k (.int 10))) (.v 4)))
    (.cons (.sat "Scanner" (.v 0) "spot" (.bin .Add (.at "Scanner" (.v 0) "spot") (.k (.int 1))))
    .nil))))))
  (.cons (.ite (.cmp .Eq (.at "Scanner" (.v 0) "spot") (.v 2)) (.cons (.rse 0 ["kind", "place"] (.cons (.at "Scanner" (.v 0) "kind") (.cons (.at "Scanner" (.v 0) "spot") .nil)))
    .nil) .nil)
  (.cons (.ret (.v 3))
  .nil)))))⟩
def k01_E_Scanner_number : Ent := ⟨"number", (clsBody (k01_top 19)).getD 5 (.Pass ⟨0, 0, 0, 0⟩), ["self", "most", "begin", "value", "digit"], ["self", "most"], k01_Scanner_number, "Scanner", "Scanner.number"⟩
abbrev k01_ents : List Ent := [k01_E_is_integer, k01_E_is_number, k01_E_is_version, k01_E_is_final, k01_E_version_code, k01_E_version_at, k01_E_version_text, k01_E_parse_version, k01_E_law_numbers, k01_E_law_is_integer, k01_E_law_is_version, k01_E_law_part, k01_E_law_drawn, k01_E_law_text, k01_E_law_number, k01_E_law_parts, k01_E_law_begins, k01_E_law_due, k01_E_law_parsed, k01_E_law_same, k01_E_law_sign, k01_E_law_spoilt, k01_E_law_near, k01_E_law_no_code, k01_E_law_holds, k01_E_law, k01_E_Scanner_init, k01_E_Scanner_here, k01_E_Scanner_skip, k01_E_Scanner_take, k01_E_Scanner_end, k01_E_Scanner_number]
abbrev k01_gl : List (Str × PD) := [("DIGITS", .str [48, 49, 50, 51, 52, 53, 54, 55, 56, 57]), ("FINAL", .int 999), ("CODES", .int 1000000000000)]
abbrev k01_cl : List (Str × Nat × List String) := [("HarborError", 1000, []), ("BadText", 0, ["kind", "place"]), ("BadValue", 1, ["name"]), ("TooMany", 2, ["limit"]), ("Missing", 3, ["name", "version"]), ("Duplicate", 4, ["name", "version"]), ("Ring", 5, ["name"]), ("NoSolution", 6, ["refutation"]), ("BadSeal", 7, ["name", "version"]), ("Broken", 8, ["names"]), ("NoHistory", 9, ["way"]), ("NotReady", 10, ["what"]), ("Stale", 11, ["slot"])]
abbrev k01_gd : List (Str × List (Cs × PD)) := []
abbrev k01_oc : List (String × List String × List (String × Nat)) := [("Scanner", ["kind", "signs", "spot"], [("__init__", 26), ("here", 27), ("skip", 28), ("take", 29), ("end", 30), ("number", 31)])]
abbrev k01_T : Tab := ⟨k01_ents.map Ent.top, k01_gl.map (·.1), k01_cl, k01_gd, k01_oc, false⟩
end PH
set_option maxHeartbeats 8000000
namespace PH
open L2 PySem PySem.Spec PyProof.Rows
noncomputable abbrev k01C := callI (dfs k01_ents) (glOf k01_gl)
/-! ### versions as four numbers -/
abbrev Q4 := Int × Int × Int × Int
def q4 (x : Q4) : PD := .tup [.int x.1, .int x.2.1, .int x.2.2.1, .int x.2.2.2]
def cd (x : Q4) : Int := ((x.1 * 1000 + x.2.1) * 1000 + x.2.2.1) * 1000 + x.2.2.2
def at4 (n : Int) : Q4 := (n / 1000000000, n / 1000000 % 1000, n / 1000 % 1000, n % 1000)
structure R4 (x : Q4) : Prop where
  a0 : 0 ≤ x.1
  a1 : x.1 ≤ 999
  b0 : 0 ≤ x.2.1
  b1 : x.2.1 ≤ 999
  c0 : 0 ≤ x.2.2.1
  c1 : x.2.2.1 ≤ 999
  e0 : 0 ≤ x.2.2.2
  e1 : x.2.2.2 ≤ 999
def K12 : Int := 1000000000000
theorem cd_at4 (n : Int) : cd (at4 n) = n := by unfold cd at4; dsimp only; omega
theorem at4_R {n : Int} (h0 : 0 ≤ n) (h1 : n < K12) : R4 (at4 n) := by
  unfold K12 at h1
  constructor <;> unfold at4 <;> dsimp only <;> omega
theorem cd_b {x : Q4} (h : R4 x) : 0 ≤ cd x ∧ cd x < K12 := by
  obtain ⟨a0, a1, b0, b1, c0, c1, e0, e1⟩ := h
  unfold cd K12; omega
theorem cd_inj {x y : Q4} (hx : R4 x) (hy : R4 y) (h : cd x = cd y) : x = y := by
  obtain ⟨a0, a1, b0, b1, c0, c1, e0, e1⟩ := hx
  obtain ⟨f0, f1, g0, g1, h0, h1, i0, i1⟩ := hy
  obtain ⟨xa, xb, xc, xe⟩ := x
  obtain ⟨ya, yb, yc, ye⟩ := y
  simp only [cd] at *
  have : xa = ya := by omega
  have : xb = yb := by omega
  have : xc = yc := by omega
  have : xe = ye := by omega
  subst_vars; rfl
theorem q4_lt {x y : Q4} (hx : R4 x) (hy : R4 y) : PD.lt (q4 x) (q4 y) = decide (cd x < cd y) := by
  have h : PD.lt (q4 x) (q4 y) = decide ([x.1, x.2.1, x.2.2.1, x.2.2.2] < [y.1, y.2.1, y.2.2.1, y.2.2.2]) := by
    show PySem.W.dataLt (.tuple ([x.1, x.2.1, x.2.2.1, x.2.2.2].map PyData.int)) (.tuple ([y.1, y.2.1, y.2.2.1, y.2.2.2].map PyData.int)) = _
    rw [PySem.W.dataLt_tuple]
    exact PySem.W.dataLt_ints _ _
  rw [h]
  obtain ⟨a0, a1, b0, b1, c0, c1, e0, e1⟩ := hx
  obtain ⟨f0, f1, g0, g1, h0, h1, i0, i1⟩ := hy
  refine decide_eq_decide.mpr ?_
  simp only [List.cons_lt_cons_iff, List.not_lt_nil, and_false, or_false, cd]
  omega
theorem q4_like (x y : Q4) : PD.like (q4 x) (q4 y) = true := by
  show PySem.W.alike (.tuple _) (.tuple _) = true
  simp only [PySem.W.alike, PD.pys, PD.py, PySem.W.alikeAll]
  rfl
theorem q4_inj {x y : Q4} (h : q4 x = q4 y) : x = y := by
  simp only [q4, PD.tup.injEq, List.cons.injEq, PD.int.injEq, and_true] at h
  obtain ⟨xa, xb, xc, xe⟩ := x
  obtain ⟨ya, yb, yc, ye⟩ := y
  simp only at h
  obtain ⟨rfl, rfl, rfl, rfl⟩ := h; rfl
section
variable {S : Sto} {k n : Nat}
theorem q4_cmp_lt {x y : Q4} (hx : R4 x) (hy : R4 y) : cmpI .Lt (.p (q4 x)) (.p (q4 y)) S = .ok (.p (.bl (decide (cd x < cd y)))) S := by
  show lift (ltP (q4 x) (q4 y)) S = _
  unfold ltP
  rw [if_pos ⟨q4_like x y, (fun h => nomatch h), Nat.le_trans (dep_nice 1 (q4 x) rfl) (by decide)⟩, q4_lt hx hy]; rfl
theorem q4_cmp_gt {x y : Q4} (hx : R4 x) (hy : R4 y) : cmpI .Gt (.p (q4 x)) (.p (q4 y)) S = .ok (.p (.bl (decide (cd y < cd x)))) S := by
  show lift (gtP (q4 x) (q4 y)) S = _
  unfold gtP
  rw [if_pos ⟨q4_like x y, (fun h => nomatch h), Nat.le_trans (dep_nice 1 (q4 x) rfl) (by decide)⟩, q4_lt hy hx]; rfl
theorem q4_nice (x : Q4) : (q4 x).nice 1 = true := rfl
/-! ### the program's functions -/
theorem k01_isint (i : Int) : k01C (k + 1) 0 [.p (.int i)] S = .ok (.p (.bl true)) S := by
  refine call_of (e := k01_E_is_integer) rfl rfl (runB_rt (S' := S) (d := .p (.bl true)) ?_ (tidy_p _))
  simp [k01_E_is_integer, k01_is_integer, known, isTy]
theorem k01_num (i a b : Int) : k01C (k + 2) 1 [.p (.int i), .p (.int a), .p (.int b)] S = .ok (.p (.bl (decide (a ≤ i) && decide (i ≤ b)))) S := by
  refine call_of (e := k01_E_is_number) rfl rfl (runB_rt (S' := S) (d := .p (.bl (decide (a ≤ i) && decide (i ≤ b)))) ?_ (tidy_p _))
  have h := k01_isint (k := k) (S := S) i
  by_cases h0 : a ≤ i <;> simp [k01_E_is_number, k01_is_number, h, h0]
theorem k01_at {c : Int} (h0 : 0 ≤ c) (h1 : c < K12) : k01C (k + 3) 5 [.p (.int c)] S = .ok (.p (q4 (at4 c))) S := by
  refine call_of (e := k01_E_version_at) rfl rfl (runB_rt (S' := S) (d := .p (q4 (at4 c))) ?_ (tidy_p _))
  have h := k01_num (k := k) (S := S) c 0 (K12 - 1)
  rw [decide_eq_true h0, decide_eq_true (by omega : c ≤ K12 - 1)] at h
  show evCz ⟨k01C (k + 2), glOf k01_gl⟩ k01_version_at.body [some (.p (.int c))] S = _
  unfold k01_version_at
  dsimp only
  rw [evz_step (stif0 (enot (b := true) (ecall3 (evv rfl) (ev_k ..) (ebin (by rw [ev_g]; rfl) (ev_k ..) (bin_sub ..)) h)))]
  refine evz_end (stret ?_)
  simp only [ev_tp, ev_bin, ev_v, ev_k, evs_cons, evs_nil, List.getElem?_cons_zero, Res.bind_ok', bin_div (show (0 : Int) < 1000000000 ∧ (1000000000 : Int) < 1073741824 by decide), bin_div (show (0 : Int) < 1000000 ∧ (1000000 : Int) < 1073741824 by decide), bin_div (show (0 : Int) < 1000 ∧ (1000 : Int) < 1073741824 by decide), bin_mod (show (0 : Int) < 1000 by decide)]
  rfl
theorem k01_code (x : Q4) : k01C (k + 1) 4 [.p (q4 x)] S = .ok (.p (.int (cd x))) S := by
  refine call_of (e := k01_E_version_code) rfl rfl (runB_rt (S' := S) (d := .p (.int (cd x))) ?_ (tidy_p _))
  simp [k01_E_version_code, k01_version_code, q4, asgT, asgTs, bin_mulR _ (show (1000 : Int).natAbs < 2 ^ 64 by decide), cd]
theorem k01_final (x : Q4) : k01C (k + 1) 3 [.p (q4 x)] S = .ok (.p (.bl (decide (x.2.2.2 = 999)))) S := by
  refine call_of (e := k01_E_is_final) rfl rfl (runB_rt (S' := S) (d := .p (.bl (decide (x.2.2.2 = 999)))) ?_ (tidy_p _))
  exact evz_end (stret (ecmp (eix (evv rfl) (ev_k ..) rfl) (by rw [ev_g]; rfl) (eq_int ..)))
/-- what no number is -/
def NoInt (d : D) (S : Sto) : Prop := known d S = true ∧ (isTy d S .int = false ∨ isTy d S .bool = true)
theorem k01_isint_no {d : D} (h : NoInt d S) : k01C (k + 1) 0 [d] S = .ok (.p (.bl false)) S := by
  refine call_of (e := k01_E_is_integer) rfl rfl (runB_rt (S' := S) (d := .p (.bl false)) ?_ (tidy_p _))
  show evCz ⟨k01C k, glOf k01_gl⟩ k01_is_integer.body [some d] S = _
  unfold k01_is_integer
  dsimp only
  refine evz_end (stret ?_)
  obtain ⟨hk, h⟩ := h
  cases q : isTy d S .int with
  | false => exact eand0 (eisi (evv rfl) hk q)
  | true =>
    rcases h with h | h
    · rw [q] at h; cases h
    · exact eand1 (eisi (evv rfl) hk q) (ebo1 (enot (b := true) (eisi (evv rfl) hk h)))
theorem k01_num_no {d : D} {a b : Int} (h : NoInt d S) : k01C (k + 2) 1 [d, .p (.int a), .p (.int b)] S = .ok (.p (.bl false)) S := by
  refine call_of (e := k01_E_is_number) rfl rfl (runB_rt (S' := S) (d := .p (.bl false)) ?_ (tidy_p _))
  show evCz ⟨k01C (k + 1), glOf k01_gl⟩ k01_is_number.body [some d, some (.p (.int a)), some (.p (.int b))] S = _
  unfold k01_is_number
  dsimp only
  exact evz_end (stret (eand0 (ecall1 (evv rfl) (k01_isint_no h))))
def badC : Ex := ⟨1, [("name", .p (.str [99, 111, 100, 101]))]⟩
theorem k01_at_no {d : D} (h : k01C (k + 2) 1 [d, .p (.int 0), .p (.int (K12 - 1))] S = .ok (.p (.bl false)) S) : k01C (k + 3) 5 [d] S = .exc badC S := by
  refine call_of (e := k01_E_version_at) rfl rfl (runB_exc (S' := S) (x := badC) (ρ' := [some d]) ?_ (by have := tidyX_same (S := S) (x := badC) [] rfl; simpa using this))
  show evCz ⟨k01C (k + 2), glOf k01_gl⟩ k01_version_at.body [some d] S = _
  unfold k01_version_at
  dsimp only
  refine evz_exc (stif1 (enot (b := false) (ecall3 (evv rfl) (ev_k ..) (ebin (by rw [ev_g]; rfl) (ev_k ..) (bin_sub ..)) h)) (evz_exc ?_))
  exact strse (es1 (ev_k ..) es0) rfl
/-! ### is_version -/
def okP : PD → Bool
  | .int i => decide (0 ≤ i) && decide (i ≤ 999)
  | _ => false
theorem k01_part_is (x : PD) : k01C (k + 2) 1 [.p x, .p (.int 0), .p (.int 999)] S = .ok (.p (.bl (okP x))) S := by
  cases x with
  | int i => exact k01_num i 0 999
  | bl b => exact k01_num_no ⟨rfl, .inr rfl⟩
  | non => exact k01_num_no ⟨rfl, .inl rfl⟩
  | str s => exact k01_num_no ⟨rfl, .inl rfl⟩
  | tup xs => exact k01_num_no ⟨rfl, .inl rfl⟩
theorem k01_isver (xs : List PD) (hl : xs.length ≤ 100) : k01C (k + 3) 2 [.p (.tup xs)] S = .ok (.p (.bl (decide (xs.length = 4) && xs.all okP))) S := by
  by_cases h4 : xs.length = 4
  · rw [decide_eq_true h4, Bool.true_and]
    refine call_of (e := k01_E_is_version) rfl rfl (runB_rt (S' := S ++ [.pl (xs.map fun x => .bl (okP x))]) (d := .p (.bl (xs.all okP))) ?_ (tidy_pa _ _))
    show evCz ⟨k01C (k + 2), glOf k01_gl⟩ k01_is_version.body [some (.p (.tup xs)), none] S = _
    unfold k01_is_version
    dsimp only
    rw [evz_step (stif0 (eor0 (enot (b := true) (eisi (evv rfl) rfl rfl)) (ebo1 (ecmp (eblt1 (evv rfl) (len_tup ..)) (ev_k ..) (by rw [ne_int, h4]; rfl)))))]
    have e : evE ⟨k01C (k + 2), glOf k01_gl⟩ (.lc [1] (.nm 1) (.of (.v 0)) (.call 1 (.cons (.v 1) (.cons (.k (.int 0)) (.cons (.g 1) .nil))))) [some (.p (.tup xs)), none] S = .ok (.ref S.length) (S ++ [.pl (xs.map fun x => .bl (okP x))]) :=
      lc_ev (w := ⟨xs.map .p, none⟩) (fun x : PD => D.p x) (fun x => .bl (okP x)) xs (of_ev (evv rfl) (wk_tup ..)) (by show xs.length ≤ LINE; unfold LINE; omega) rfl (fun _ => rfl) fun x _ => ⟨_, rfl, fun l => ecall3 (evv rfl) (ev_k ..) (by rw [ev_g]; rfl) (k01_part_is x)⟩
    exact evz_end (stret (eblt1 e (all_new xs okP)))
  · rw [decide_eq_false h4, Bool.false_and]
    refine call_of (e := k01_E_is_version) rfl rfl (runB_rt (S' := S) (d := .p (.bl false)) ?_ (tidy_p _))
    show evCz ⟨k01C (k + 2), glOf k01_gl⟩ k01_is_version.body [some (.p (.tup xs)), none] S = _
    unfold k01_is_version
    dsimp only
    exact evz_end (stif1 (eor0 (enot (b := true) (eisi (evv rfl) rfl rfl)) (ebo1 (ecmp (eblt1 (evv rfl) (len_tup ..)) (ev_k ..) (by rw [ne_int, decide_eq_false (by omega : ¬ ((xs.length : Int) = 4))]; rfl)))) (evz_end (stret (ev_k ..))))
theorem k01_isver_no {d : D} (hk : known d S = true) (h : isTy d S .tuple = false) : k01C (k + 3) 2 [d] S = .ok (.p (.bl false)) S := by
  refine call_of (e := k01_E_is_version) rfl rfl (runB_rt (S' := S) (d := .p (.bl false)) ?_ (tidy_p _))
  show evCz ⟨k01C (k + 2), glOf k01_gl⟩ k01_is_version.body [some d, none] S = _
  unfold k01_is_version
  dsimp only
  exact evz_end (stif1 (eor1 (enot (b := false) (eisi (evv rfl) hk h))) (evz_end (stret (ev_k ..))))
end
end PH

set_option maxHeartbeats 8000000
namespace PH
open L2 PySem PySem.Spec PyProof.Rows
/-! ### the scanner, plainly -/
def dg (c : Nat) : Bool := decide (48 ≤ c) && decide (c ≤ 57)
def dI (c : Nat) : Int := (c : Int) - 48
def stp (most : Int) (v : Option Int) (c : Nat) : Option Int := if v = some 0 ∨ v.getD 0 * 10 + dI c > most then none else some (v.getD 0 * 10 + dI c)
/-- digits read: where it ends, the number so far, whether a digit was refused -/
def numP (most : Int) : Option Int → Nat → Cs → Nat × Option Int × Bool
  | v, p, [] => (p, v, false)
  | v, p, c :: w => if dg c then (match stp most v c with
    | none => (p, v, true)
    | some n => numP most (some n) (p + 1) w) else (p, v, false)
def obS (kd t : Cs) (p : Nat) : O := .ob "Scanner" [("kind", .p (.str kd)), ("signs", .p (.str t)), ("spot", .p (.int (p : Int)))]
def badT (kd : Cs) (p : Nat) : Ex := ⟨0, [("kind", .p (.str kd)), ("place", .p (.int (p : Int)))]⟩
def digits : Cs := [48, 49, 50, 51, 52, 53, 54, 55, 56, 57]
theorem dg_mem (c : Nat) : decide (c ∈ digits) = dg c := by
  unfold digits dg
  rw [Bool.eq_iff_iff]
  simp only [decide_eq_true_eq, Bool.and_eq_true, List.mem_cons, List.not_mem_nil, or_false]
  omega
theorem set_same {S : Sto} {n : Nat} {o : O} (h : S[n]? = some o) : S.set n o = S := by
  apply List.ext_getElem?
  intro i
  by_cases e : n = i
  · subst e
    rw [List.getElem?_set_self (List.getElem?_eq_some_iff.mp h).1, h]
  · rw [List.getElem?_set_ne e]
theorem tidy_len {S S' : Sto} {x : PD} (h : S'.length = S.length) : tidy S S' (.p x) = .ok (.p x) S' := by
  unfold tidy
  rw [← h, List.take_length]
  split <;> rfl
theorem tidyX_len {S S' : Sto} {x : Ex} (h : S'.length = S.length) : tidyX S S' x = .exc x S' := by
  unfold tidyX
  rw [← h, List.take_length]
  split <;> rfl
theorem cut_one (t : Cs) (p : Nat) (h : p ≤ t.length) : cut t (some (p : Int)) (some ((p : Int) + 1)) = (t.drop p).take 1 := by
  unfold cut
  rw [show ((p : Int) + 1) = ((p + 1 : Nat) : Int) by omega, HT.sIx_nat, HT.sIx_nat, Nat.min_eq_left h]
  rcases Nat.lt_or_ge p t.length with h1 | h1
  · rw [Nat.min_eq_left (by omega)]; congr 1; omega
  · have : p = t.length := by omega
    subst this
    simp
theorem drop_cons {α : Type} {t w : List α} {p : Nat} {c : α} (h : t.drop p = c :: w) : t.drop (p + 1) = w ∧ p < t.length := by
  have h1 : p < t.length := by
    rcases Nat.lt_or_ge p t.length with z | z
    · exact z
    · rw [List.drop_of_length_le z] at h; cases h
  rw [List.drop_eq_getElem_cons h1] at h
  exact ⟨(List.cons.inj h).2, h1⟩
theorem drop_nil {α : Type} {t : List α} {p : Nat} (h : t.drop p = []) (hp : p ≤ t.length) : p = t.length := by
  have := congrArg List.length h
  simp at this; omega
section
variable {S : Sto} {k n : Nat} {kd t : Cs} {p : Nat} {ρ : Nv} {i : Nat}
theorem at_kind {M : Mo} (hv : ρ[i]? = some (some (.ref n))) (hS : S[n]? = some (obS kd t p)) : evE M (.at "Scanner" (.v i) "kind") ρ S = .ok (.p (.str kd)) S := eat (evv hv) hS rfl
theorem at_signs {M : Mo} (hv : ρ[i]? = some (some (.ref n))) (hS : S[n]? = some (obS kd t p)) : evE M (.at "Scanner" (.v i) "signs") ρ S = .ok (.p (.str t)) S := eat (evv hv) hS rfl
theorem at_spot {M : Mo} (hv : ρ[i]? = some (some (.ref n))) (hS : S[n]? = some (obS kd t p)) : evE M (.at "Scanner" (.v i) "spot") ρ S = .ok (.p (.int (p : Int))) S := eat (evv hv) hS rfl
theorem rse_text {M : Mo} (hv : ρ[i]? = some (some (.ref n))) (hS : S[n]? = some (obS kd t p)) : evC M (.rse 0 ["kind", "place"] (.cons (.at "Scanner" (.v i) "kind") (.cons (.at "Scanner" (.v i) "spot") .nil))) ρ S = .exc (badT kd p) ρ S :=
  strse (es1 (at_kind hv hS) (es1 (at_spot hv hS) es0)) rfl
theorem inc_spot {M : Mo} (hv : ρ[i]? = some (some (.ref n))) (hS : S[n]? = some (obS kd t p)) : evC M (.sat "Scanner" (.v i) "spot" (.bin .Add (.at "Scanner" (.v i) "spot") (.k (.int 1)))) ρ S = .nx ρ (S.set n (obS kd t (p + 1))) := by
  rw [stsat (ebin (at_spot hv hS) (ev_k ..) (bin_add ..)) (evv hv) hS (by show 3 < 1000; decide)]
  congr 1
theorem k01_init (hn : S[n]? = some (.ob "Scanner" [])) : k01C (k + 1) 26 [.ref n, .p (.str kd), .p (.str t)] S = .ok (.p .non) (S.set n (obS kd t 0)) := by
  have hl : n < S.length := (List.getElem?_eq_some_iff.mp hn).1
  unfold k01C
  unfold callI
  rw [show dfs k01_ents 26 = some k01_Scanner_init from rfl]
  dsimp only
  rw [if_pos (by rfl)]
  unfold runB
  show (match evCz ⟨k01C k, glOf k01_gl⟩ k01_Scanner_init.body [some (.ref n), some (.p (.str kd)), some (.p (.str t))] S with
    | .nx _ S' => tidy S S' (.p .non) | .rt d S' => tidy S S' d | .exc x _ S' => tidyX S S' x | _ => .stuck) = _
  unfold k01_Scanner_init
  dsimp only
  rw [evz_step (stsat (evv rfl) (evv rfl) hn (by show 0 < 1000; decide)), evz_step (stsat (evv rfl) (evv rfl) (List.getElem?_set_self hl) (by show 1 < 1000; decide)), evz_step (stsat (ev_k ..) (evv rfl) (List.getElem?_set_self (by simpa using hl)) (by show 2 < 1000; decide)), evz_nil]
  dsimp only
  rw [tidy_len (by simp), List.set_set, List.set_set]
  rfl
theorem k01_here (hS : S[n]? = some (obS kd t p)) (hp : p ≤ t.length) : k01C (k + 1) 27 [.ref n] S = .ok (.p (.str ((t.drop p).take 1))) S := by
  refine call_of (e := k01_E_Scanner_here) rfl rfl (runB_rt (S' := S) (d := .p (.str ((t.drop p).take 1))) ?_ (tidy_p _))
  show evCz ⟨k01C k, glOf k01_gl⟩ k01_Scanner_here.body [some (.ref n)] S = _
  unfold k01_Scanner_here
  dsimp only
  refine evz_end (stret ?_)
  rw [ev_sl, at_signs rfl hS, Res.bind_ok', at_spot rfl hS, Res.bind_ok', asInt_int, ebin (at_spot rfl hS) (ev_k ..) (bin_add ..), Res.bind_ok', asInt_int]
  show ret1 (.str (cut t _ _)) S = _
  rw [cut_one t p hp]; rfl
theorem here_ev (hv : ρ[i]? = some (some (.ref n))) (hS : S[n]? = some (obS kd t p)) (hp : p ≤ t.length) : evE ⟨k01C (k + 1), glOf k01_gl⟩ (.mcl "Scanner" "here" 27 (.v i) .nil) ρ S = .ok (.p (.str ((t.drop p).take 1))) S :=
  emcl (evv hv) hS rfl es0 (k01_here hS hp)
theorem k01_skip (c : Nat) (hS : S[n]? = some (obS kd t p)) (hp : p ≤ t.length) : k01C (k + 2) 28 [.ref n, .p (.str [c])] S = if (t.drop p).take 1 = [c] then .ok (.p (.bl true)) (S.set n (obS kd t (p + 1))) else .ok (.p (.bl false)) S := by
  have run : evCz ⟨k01C (k + 1), glOf k01_gl⟩ k01_Scanner_skip.body [some (.ref n), some (.p (.str [c]))] S = if (t.drop p).take 1 = [c] then .rt (.p (.bl true)) (S.set n (obS kd t (p + 1))) else .rt (.p (.bl false)) S := by
    unfold k01_Scanner_skip
    dsimp only
    by_cases h : (t.drop p).take 1 = [c]
    · rw [if_pos h, evz_step (stif0 (ecmp (here_ev rfl hS hp) (evv rfl) (by rw [ne_str, decide_eq_true h]; rfl))), evz_step (inc_spot rfl hS)]
      exact evz_end (stret (ev_k ..))
    · rw [if_neg h]
      exact evz_end (stif1 (ecmp (here_ev rfl hS hp) (evv rfl) (by rw [ne_str, decide_eq_false h]; rfl)) (evz_end (stret (ev_k ..))))
  by_cases h : (t.drop p).take 1 = [c]
  · rw [if_pos h] at run ⊢
    exact call_of (e := k01_E_Scanner_skip) rfl rfl (runB_rt run (tidy_len (by simp)))
  · rw [if_neg h] at run ⊢
    exact call_of (e := k01_E_Scanner_skip) rfl rfl (runB_rt run (tidy_p _))
theorem skip_ev (c : Nat) {x : PD} (hx : x = .str [c]) (hv : ρ[i]? = some (some (.ref n))) (hS : S[n]? = some (obS kd t p)) (hp : p ≤ t.length) {a : E} (ha : evE ⟨k01C (k + 2), glOf k01_gl⟩ a ρ S = .ok (.p x) S) :
    evE ⟨k01C (k + 2), glOf k01_gl⟩ (.mcl "Scanner" "skip" 28 (.v i) (.cons a .nil)) ρ S = if (t.drop p).take 1 = [c] then .ok (.p (.bl true)) (S.set n (obS kd t (p + 1))) else .ok (.p (.bl false)) S := by
  subst hx
  exact emcl (evv hv) hS rfl (es1 ha es0) (k01_skip c hS hp)
theorem k01_take (c : Nat) (hS : S[n]? = some (obS kd t p)) (hp : p ≤ t.length) : k01C (k + 3) 29 [.ref n, .p (.str [c])] S = if (t.drop p).take 1 = [c] then .ok (.p .non) (S.set n (obS kd t (p + 1))) else .exc (badT kd p) S := by
  have sk := skip_ev (k := k) c rfl (ρ := [some (.ref n), some (.p (.str [c]))]) (i := 0) rfl hS hp (a := .v 1) (evv rfl)
  by_cases h : (t.drop p).take 1 = [c]
  · rw [if_pos h] at sk ⊢
    unfold k01C
    unfold callI
    rw [show dfs k01_ents 29 = some k01_Scanner_take from rfl]
    dsimp only
    rw [if_pos (by rfl)]
    unfold runB
    have run : evCz ⟨k01C (k + 2), glOf k01_gl⟩ k01_Scanner_take.body [some (.ref n), some (.p (.str [c]))] S = .nx [some (.ref n), some (.p (.str [c]))] (S.set n (obS kd t (p + 1))) := by
      unfold k01_Scanner_take
      dsimp only
      rw [evz_step (stif0 (enot sk)), evz_nil]
    show (match evCz ⟨k01C (k + 2), glOf k01_gl⟩ k01_Scanner_take.body [some (.ref n), some (.p (.str [c]))] S with
      | .nx _ S' => tidy S S' (.p .non) | .rt d S' => tidy S S' d | .exc x _ S' => tidyX S S' x | _ => .stuck) = _
    rw [run]
    exact tidy_len (by simp)
  · rw [if_neg h] at sk ⊢
    refine call_of (e := k01_E_Scanner_take) rfl rfl (runB_exc (S' := S) (x := badT kd p) (ρ' := [some (.ref n), some (.p (.str [c]))]) ?_ (tidyX_len rfl))
    show evCz ⟨k01C (k + 2), glOf k01_gl⟩ k01_Scanner_take.body [some (.ref n), some (.p (.str [c]))] S = _
    unfold k01_Scanner_take
    dsimp only
    exact evz_exc (stif1 (enot sk) (evz_exc (rse_text rfl hS)))
theorem k01_end (hS : S[n]? = some (obS kd t p)) (hp : p ≤ t.length) : k01C (k + 2) 30 [.ref n] S = if t.drop p = [] then .ok (.p .non) S else .exc (badT kd p) S := by
  have h1 : (t.drop p).take 1 = [] ↔ t.drop p = [] := by cases t.drop p <;> simp
  by_cases h : t.drop p = []
  · rw [if_pos h]
    unfold k01C
    unfold callI
    rw [show dfs k01_ents 30 = some k01_Scanner_end from rfl]
    dsimp only
    rw [if_pos (by rfl)]
    unfold runB
    have run : evCz ⟨k01C (k + 1), glOf k01_gl⟩ k01_Scanner_end.body [some (.ref n)] S = .nx [some (.ref n)] S := by
      unfold k01_Scanner_end
      dsimp only
      rw [evz_step (stif0 (ecmp (here_ev rfl hS hp) (ev_k ..) (by rw [ne_str, decide_eq_true (h1.mpr h)]; rfl))), evz_nil]
    show (match evCz ⟨k01C (k + 1), glOf k01_gl⟩ k01_Scanner_end.body [some (.ref n)] S with
      | .nx _ S' => tidy S S' (.p .non) | .rt d S' => tidy S S' d | .exc x _ S' => tidyX S S' x | _ => .stuck) = _
    rw [run]
    exact tidy_len rfl
  · rw [if_neg h]
    refine call_of (e := k01_E_Scanner_end) rfl rfl (runB_exc (S' := S) (x := badT kd p) (ρ' := [some (.ref n)]) ?_ (tidyX_len rfl))
    show evCz ⟨k01C (k + 1), glOf k01_gl⟩ k01_Scanner_end.body [some (.ref n)] S = _
    unfold k01_Scanner_end
    dsimp only
    exact evz_exc (stif1 (ecmp (here_ev rfl hS hp) (ev_k ..) (by rw [ne_str, decide_eq_false (fun z => h (h1.mp z))]; rfl)) (evz_exc (rse_text rfl hS)))
/-! ### number -/
theorem index_dg {c : Nat} (h : dg c = true) : mthI .index (.p (.str digits)) [.p (.str [c])] S = .ok (.p (.int (dI c))) S := by
  have : c = 48 ∨ c = 49 ∨ c = 50 ∨ c = 51 ∨ c = 52 ∨ c = 53 ∨ c = 54 ∨ c = 55 ∨ c = 56 ∨ c = 57 := by
    unfold dg at h
    simp only [Bool.and_eq_true, decide_eq_true_eq] at h
    omega
  have all : ∀ i < 10, Builtin.Str.occurrences (mkS digits) (mkS [48 + i]) 0 digits.length 1 = [i] := by decide +kernel
  have go : ∀ i < 10, mthI .index (.p (.str digits)) [.p (.str [48 + i])] S = .ok (.p (.int (i : Nat))) S := fun i hi => by
    simp only [mthI, all i hi]; rfl
  rcases this with rfl | rfl | rfl | rfl | rfl | rfl | rfl | rfl | rfl | rfl
  · exact go 0 (by decide)
  · exact go 1 (by decide)
  · exact go 2 (by decide)
  · exact go 3 (by decide)
  · exact go 4 (by decide)
  · exact go 5 (by decide)
  · exact go 6 (by decide)
  · exact go 7 (by decide)
  · exact go 8 (by decide)
  · exact go 9 (by decide)
def nCond : E := .bo .And (.cons (.cmp .NotEq (.mcl "Scanner" "here" 27 (.v 0) .nil) (.k (.str []))) (.cons (.cmp .In (.mcl "Scanner" "here" 27 (.v 0) .nil) (.g 0)) .nil))
def nBody : Cz := (.cons (.asg (.nm 4) (.mth .index (.g 0) (.cons (.mcl "Scanner" "here" 27 (.v 0) .nil) .nil)))
    (.cons (.ite (.bo .And (.cons (.cmp .Gt (.at "Scanner" (.v 0) "spot") (.v 2)) (.cons (.cmp .Eq (.v 3) (.k (.int 0))) .nil))) (.cons (.rse 0 ["kind", "place"] (.cons (.at "Scanner" (.v 0) "kind") (.cons (.at "Scanner" (.v 0) "spot") .nil)))
      .nil) .nil)
    (.cons (.ite (.cmp .Gt (.bin .Add (.bin .Mult (.v 3) (.k (.int 10))) (.v 4)) (.v 1)) (.cons (.rse 0 ["kind", "place"] (.cons (.at "Scanner" (.v 0) "kind") (.cons (.at "Scanner" (.v 0) "spot") .nil)))
      .nil) .nil)
    (.cons (.asg (.nm 3) (.bin .Add (.bin .Mult (.v 3) (.k (.int 10))) (.v 4)))
    (.cons (.sat "Scanner" (.v 0) "spot" (.bin .Add (.at "Scanner" (.v 0) "spot") (.k (.int 1))))
    .nil)))))
def nR (n : Nat) (most : Int) (b : Nat) (v : Int) (x : Option D) : Nv := [some (.ref n), some (.p (.int most)), some (.p (.int (b : Int))), some (.p (.int v)), x]
theorem g0_ev : evE ⟨k01C k, glOf k01_gl⟩ (.g 0) ρ S = .ok (.p (.str digits)) S := by rw [ev_g]; rfl
theorem ncond {most : Int} {b : Nat} {v : Int} {x : Option D} (hS : S[n]? = some (obS kd t p)) (hp : p ≤ t.length) :
    (evE ⟨k01C (k + 1), glOf k01_gl⟩ nCond (nR n most b v x) S).bind truI = .ok (match t.drop p with | [] => false | c :: _ => dg c) S := by
  have h := here_ev (k := k) (ρ := nR n most b v x) (i := 0) rfl hS hp
  unfold nCond
  cases q : t.drop p with
  | nil =>
    rw [q] at h
    rw [eand0 (ecmp h (ev_k ..) (ne_str ..))]; rfl
  | cons c w =>
    rw [q] at h
    have h1 : (c :: w).take 1 = [c] := rfl
    rw [h1] at h
    rw [eand1 (ecmp h (ev_k ..) (by rw [ne_str, decide_eq_false (by simp)]; rfl)) (ebo1 (ecmp h g0_ev (cmp_in1 c digits))), dg_mem]; rfl
theorem num_loop (most : Int) (b : Nat) (hn : n < 2 ^ 60) : ∀ (w : Cs) (p : Nat) (v : Option Int) (x : Option D) (S : Sto), S[n]? = some (obS kd t p) → t.drop p = w → p ≤ t.length → (v = none → p = b) → ((∃ i, v = some i) → b < p) →
    ∃ x', whlN (fun ρ S => (evE ⟨k01C (k + 1), glOf k01_gl⟩ nCond ρ S).bind truI) (evCz ⟨k01C (k + 1), glOf k01_gl⟩ nBody) (w.length + 1) (nR n most b (v.getD 0) x) S =
      some (if (numP most v p w).2.2 = true then .exc (badT kd (numP most v p w).1) (nR n most b ((numP most v p w).2.1.getD 0) x') (S.set n (obS kd t (numP most v p w).1))
        else .nx (nR n most b ((numP most v p w).2.1.getD 0) x') (S.set n (obS kd t (numP most v p w).1)))
  | [], p, v, x, S, hS, hw, hp, h1, h2 => by
    refine ⟨x, ?_⟩
    have hc := ncond (k := k) (most := most) (b := b) (v := v.getD 0) (x := x) hS hp
    rw [hw] at hc
    unfold whlN
    rw [hc]
    simp only [numP, set_same hS]
    rfl
  | c :: w, p, v, x, S, hS, hw, hp, h1, h2 => by
    have hc := ncond (k := k) (most := most) (b := b) (v := v.getD 0) (x := x) hS hp
    rw [hw] at hc
    obtain ⟨hd, hlt⟩ := drop_cons hw
    cases hdg : dg c with
    | false =>
      refine ⟨x, ?_⟩
      unfold whlN
      rw [hc]
      have e : numP most v p (c :: w) = (p, v, false) := by simp [numP, hdg]
      simp only [e, set_same hS, hdg, Bool.false_eq_true, if_false]
    | true =>
      have hh := here_ev (k := k) (ρ := nR n most b (v.getD 0) x) (i := 0) rfl hS hp
      rw [hw] at hh
      have hix : evE ⟨k01C (k + 1), glOf k01_gl⟩ (.mth .index (.g 0) (.cons (.mcl "Scanner" "here" 27 (.v 0) .nil) .nil)) (nR n most b (v.getD 0) x) S = .ok (.p (.int (dI c))) S := by
        rw [ev_mth, g0_ev, Res.bind_ok', if_pos (show recv .index (.p (.str digits)) S = true from rfl), es1 hh es0, Res.bind_ok']
        exact index_dg hdg
      have s1 : evC ⟨k01C (k + 1), glOf k01_gl⟩ (.asg (.nm 4) (.mth .index (.g 0) (.cons (.mcl "Scanner" "here" 27 (.v 0) .nil) .nil))) (nR n most b (v.getD 0) x) S = .nx (nR n most b (v.getD 0) (some (.p (.int (dI c))))) S := stasg hix rfl
      have gt : evE ⟨k01C (k + 1), glOf k01_gl⟩ (.cmp .Gt (.at "Scanner" (.v 0) "spot") (.v 2)) (nR n most b (v.getD 0) (some (.p (.int (dI c))))) S = .ok (.p (.bl (decide ((b : Int) < p)))) S := ecmp (at_spot rfl hS) (evv rfl) (cmp_gt ..)
      have ez : evE ⟨k01C (k + 1), glOf k01_gl⟩ (.cmp .Eq (.v 3) (.k (.int 0))) (nR n most b (v.getD 0) (some (.p (.int (dI c))))) S = .ok (.p (.bl (decide (v.getD 0 = 0)))) S := ecmp (evv rfl) (ev_k ..) (eq_int ..)
      have sm : evE ⟨k01C (k + 1), glOf k01_gl⟩ (.bin .Add (.bin .Mult (.v 3) (.k (.int 10))) (.v 4)) (nR n most b (v.getD 0) (some (.p (.int (dI c))))) S = .ok (.p (.int (v.getD 0 * 10 + dI c))) S := ebin (ebin (evv rfl) (ev_k ..) (bin_mulR _ (by decide))) (evv rfl) (bin_add ..)
      have hz : (decide ((b : Int) < p) && decide (v.getD 0 = 0)) = decide (v = some 0) := by
        cases v with
        | none => have := h1 rfl; subst this; simp
        | some i => have := h2 ⟨i, rfl⟩; rw [decide_eq_true (by omega : (b : Int) < p), Bool.true_and]; simp
      have s2 := eand2 gt ez
      rw [hz] at s2
      by_cases hv0 : v = some 0
      · refine ⟨some (.p (.int (dI c))), ?_⟩
        rw [decide_eq_true hv0] at s2
        have hb : evCz ⟨k01C (k + 1), glOf k01_gl⟩ nBody (nR n most b (v.getD 0) x) S = .exc (badT kd p) (nR n most b (v.getD 0) (some (.p (.int (dI c))))) S := by
          unfold nBody
          rw [evz_step s1]
          exact evz_exc (stif1 s2 (evz_exc (rse_text rfl hS)))
        have hst : stp most v c = none := by unfold stp; rw [if_pos (.inl hv0)]
        unfold whlN
        rw [hc]
        simp only [hdg, hb, numP, if_true, hst, set_same hS]
      · rw [decide_eq_false hv0] at s2
        have s3 : evE ⟨k01C (k + 1), glOf k01_gl⟩ (.cmp .Gt (.bin .Add (.bin .Mult (.v 3) (.k (.int 10))) (.v 4)) (.v 1)) (nR n most b (v.getD 0) (some (.p (.int (dI c))))) S = .ok (.p (.bl (decide (most < v.getD 0 * 10 + dI c)))) S := ecmp sm (evv rfl) (cmp_gt ..)
        by_cases hm : most < v.getD 0 * 10 + dI c
        · refine ⟨some (.p (.int (dI c))), ?_⟩
          rw [decide_eq_true hm] at s3
          have hb : evCz ⟨k01C (k + 1), glOf k01_gl⟩ nBody (nR n most b (v.getD 0) x) S = .exc (badT kd p) (nR n most b (v.getD 0) (some (.p (.int (dI c))))) S := by
            unfold nBody
            rw [evz_step s1, evz_step (stif0 s2)]
            exact evz_exc (stif1 s3 (evz_exc (rse_text rfl hS)))
          have hst : stp most v c = none := by unfold stp; rw [if_pos (.inr hm)]
          unfold whlN
          rw [hc]
          simp only [hdg, hb, numP, if_true, hst, set_same hS]
        · rw [decide_eq_false hm] at s3
          have hb : evCz ⟨k01C (k + 1), glOf k01_gl⟩ nBody (nR n most b (v.getD 0) x) S = .nx (nR n most b (v.getD 0 * 10 + dI c) (some (.p (.int (dI c))))) (S.set n (obS kd t (p + 1))) := by
            unfold nBody
            rw [evz_step s1, evz_step (stif0 s2), evz_step (stif0 s3), evz_step (stasg (ρ1 := nR n most b (v.getD 0 * 10 + dI c) (some (.p (.int (dI c))))) sm rfl), evz_step (inc_spot rfl hS), evz_nil]
          have hst : stp most v c = some (v.getD 0 * 10 + dI c) := by unfold stp; rw [if_neg (by rintro (z | z); exact hv0 z; exact hm z)]
          have hS' : (S.set n (obS kd t (p + 1)))[n]? = some (obS kd t (p + 1)) := List.getElem?_set_self (List.getElem?_eq_some_iff.mp hS).1
          obtain ⟨x', ih⟩ := num_loop most b hn w (p + 1) (some (v.getD 0 * 10 + dI c)) (some (.p (.int (dI c)))) (S.set n (obS kd t (p + 1))) hS' hd (by omega) (fun z => nomatch z) (fun _ => by
            cases v with
            | none => have := h1 rfl; omega
            | some i => have := h2 ⟨i, rfl⟩; omega)
          refine ⟨x', ?_⟩
          rw [List.length_cons]
          unfold whlN
          rw [hc]
          simp only [hdg, hb]
          simp only [numP, hdg, if_true, hst]
          rw [show (some (v.getD 0 * 10 + dI c) : Option Int).getD 0 = v.getD 0 * 10 + dI c from rfl, List.set_set] at ih
          exact ih
end
end PH

set_option maxHeartbeats 8000000
namespace PH
open L2 PySem PySem.Spec PyProof.Rows
theorem numP_inv (most : Int) : ∀ (w : Cs) (v : Option Int) (p : Nat), p ≤ (numP most v p w).1 ∧ (numP most v p w).1 ≤ p + w.length ∧ (((numP most v p w).2.1 = v ∧ (numP most v p w).1 = p) ∨ (p < (numP most v p w).1 ∧ ∃ i, (numP most v p w).2.1 = some i))
  | [], v, p => by simp [numP]
  | c :: w, v, p => by
    cases h : dg c with
    | false => simp [numP, h]
    | true =>
      cases q : stp most v c with
      | none => simp [numP, h, q]
      | some n =>
        obtain ⟨h1, h2, h3⟩ := numP_inv most w (some n) (p + 1)
        simp only [numP, h, if_true, q, List.length_cons]
        refine ⟨by omega, by omega, .inr ⟨by omega, ?_⟩⟩
        rcases h3 with h3 | h3
        · exact ⟨n, h3.1⟩
        · exact h3.2
section
variable {S : Sto} {k n : Nat} {kd t : Cs} {p : Nat} {ρ : Nv} {i : Nat}
theorem k01_number (most : Int) (hn : n < 2 ^ 60) (hS : S[n]? = some (obS kd t p)) (hp : p ≤ t.length) : k01C (k + 2) 31 [.ref n, .p (.int most)] S =
    if (numP most none p (t.drop p)).2.2 = true ∨ (numP most none p (t.drop p)).2.1 = none then .exc (badT kd (numP most none p (t.drop p)).1) (S.set n (obS kd t (numP most none p (t.drop p)).1))
    else .ok (.p (.int ((numP most none p (t.drop p)).2.1.getD 0))) (S.set n (obS kd t (numP most none p (t.drop p)).1)) := by
  obtain ⟨x', hw⟩ := num_loop (k := k) (kd := kd) (t := t) most p hn (t.drop p) p none none S hS rfl hp (fun _ => rfl) (fun z => by obtain ⟨i, z⟩ := z; cases z)
  obtain ⟨i1, i2, i3⟩ := numP_inv most (t.drop p) none p
  generalize numP most none p (t.drop p) = r at hw i1 i2 i3 ⊢
  obtain ⟨p', v, bad⟩ := r
  dsimp only at hw i1 i2 i3 ⊢
  have hlt : n < S.length := (List.getElem?_eq_some_iff.mp hS).1
  have hS' : (S.set n (obS kd t p'))[n]? = some (obS kd t p') := List.getElem?_set_self hlt
  have s1 : evC ⟨k01C (k + 1), glOf k01_gl⟩ (.asg (.nm 2) (.at "Scanner" (.v 0) "spot")) [some (.ref n), some (.p (.int most)), none, none, none] S = .nx [some (.ref n), some (.p (.int most)), some (.p (.int (p : Int))), none, none] S := stasg (at_spot rfl hS) rfl
  have s2 : evC ⟨k01C (k + 1), glOf k01_gl⟩ (.asg (.nm 3) (.k (.int 0))) [some (.ref n), some (.p (.int most)), some (.p (.int (p : Int))), none, none] S = .nx (nR n most p 0 none) S := stasg (ev_k ..) rfl
  have wl : evC ⟨k01C (k + 1), glOf k01_gl⟩ (.whl nCond nBody) (nR n most p 0 none) S = if bad = true then .exc (badT kd p') (nR n most p (v.getD 0) x') (S.set n (obS kd t p')) else .nx (nR n most p (v.getD 0) x') (S.set n (obS kd t p')) := by
    rw [evc_whl]; exact whlI_of hw
  have sp : evE ⟨k01C (k + 1), glOf k01_gl⟩ (.cmp .Eq (.at "Scanner" (.v 0) "spot") (.v 2)) (nR n most p (v.getD 0) x') (S.set n (obS kd t p')) = .ok (.p (.bl (decide ((p' : Int) = p)))) (S.set n (obS kd t p')) := ecmp (at_spot rfl hS') (evv rfl) (eq_int ..)
  have body : k01_Scanner_number.body = .cons (.asg (.nm 2) (.at "Scanner" (.v 0) "spot")) (.cons (.asg (.nm 3) (.k (.int 0))) (.cons (.whl nCond nBody)
    (.cons (.ite (.cmp .Eq (.at "Scanner" (.v 0) "spot") (.v 2)) (.cons (.rse 0 ["kind", "place"] (.cons (.at "Scanner" (.v 0) "kind") (.cons (.at "Scanner" (.v 0) "spot") .nil))) .nil) .nil) (.cons (.ret (.v 3)) .nil)))) := rfl
  cases bad with
  | true =>
    rw [if_pos rfl] at wl
    rw [if_pos (.inl rfl)]
    refine call_of (e := k01_E_Scanner_number) rfl rfl (runB_exc (S' := S.set n (obS kd t p')) (x := badT kd p') (ρ' := nR n most p (v.getD 0) x') ?_ (tidyX_len (by simp)))
    show evCz ⟨k01C (k + 1), glOf k01_gl⟩ k01_Scanner_number.body [some (.ref n), some (.p (.int most)), none, none, none] S = _
    rw [body, evz_step s1, evz_step s2]
    exact evz_exc wl
  | false =>
    rw [if_neg (by decide)] at wl
    rcases i3 with ⟨e1, e2⟩ | ⟨e1, j, e2⟩
    · rw [if_pos (.inr e1)]
      rw [decide_eq_true (by omega)] at sp
      refine call_of (e := k01_E_Scanner_number) rfl rfl (runB_exc (S' := S.set n (obS kd t p')) (x := badT kd p') (ρ' := nR n most p (v.getD 0) x') ?_ (tidyX_len (by simp)))
      show evCz ⟨k01C (k + 1), glOf k01_gl⟩ k01_Scanner_number.body [some (.ref n), some (.p (.int most)), none, none, none] S = _
      rw [body, evz_step s1, evz_step s2, evz_step wl]
      exact evz_exc (stif1 sp (evz_exc (rse_text rfl hS')))
    · rw [if_neg (by rintro (z | z); exact Bool.false_ne_true z; rw [e2] at z; cases z)]
      rw [decide_eq_false (by omega)] at sp
      refine call_of (e := k01_E_Scanner_number) rfl rfl (runB_rt (S' := S.set n (obS kd t p')) (d := .p (.int (v.getD 0))) ?_ (tidy_len (by simp)))
      show evCz ⟨k01C (k + 1), glOf k01_gl⟩ k01_Scanner_number.body [some (.ref n), some (.p (.int most)), none, none, none] S = _
      rw [body, evz_step s1, evz_step s2, evz_step wl, evz_step (stif0 sp)]
      exact evz_end (stret (evv rfl))
end
/-! ### parse_version, plainly -/
abbrev Pr := Nat ⊕ Q4
def numK (most : Int) (t : Cs) (p : Nat) (f : Int → Nat → Pr) : Pr := if (numP most none p (t.drop p)).2.2 = true ∨ (numP most none p (t.drop p)).2.1 = none then .inl (numP most none p (t.drop p)).1 else f ((numP most none p (t.drop p)).2.1.getD 0) (numP most none p (t.drop p)).1
def takK (c : Nat) (t : Cs) (p : Nat) (f : Nat → Pr) : Pr := if (t.drop p).take 1 = [c] then f (p + 1) else .inl p
def endK (t : Cs) (p : Nat) (x : Q4) : Pr := if t.drop p = [] then .inr x else .inl p
def parseF (t : Cs) : Pr := numK 999 t 0 fun a p => takK 46 t p fun p => numK 999 t p fun b p => takK 46 t p fun p => numK 999 t p fun c p =>
  if (t.drop p).take 1 = [45] then numK 998 t (p + 1) fun e p => endK t p (a, b, c, e) else endK t p (a, b, c, 999)
def wVer : Cs := [118, 101, 114, 115, 105, 111, 110]
section
variable {S : Sto} {k : Nat} {t : Cs} {p : Nat} {ρ : Nv} {cs : Cz}
/-- what is wanted of the rest of the body -/
def Good (k : Nat) (S : Sto) (t : Cs) (cs : Cz) (ρ : Nv) (p : Nat) (r : Pr) : Prop := match r with
  | .inl q => ∃ ρ' l, evCz ⟨k01C (k + 4), glOf k01_gl⟩ cs ρ (S ++ [obS wVer t p]) = .exc (badT wVer q) ρ' (S ++ l)
  | .inr x => ∃ l, evCz ⟨k01C (k + 4), glOf k01_gl⟩ cs ρ (S ++ [obS wVer t p]) = .rt (.p (q4 x)) (S ++ l)
theorem good_step {c : C} {ρ1 : Nv} {p1 : Nat} {r : Pr} (h : evC ⟨k01C (k + 4), glOf k01_gl⟩ c ρ (S ++ [obS wVer t p]) = .nx ρ1 (S ++ [obS wVer t p1])) (g : Good k S t cs ρ1 p1 r) : Good k S t (.cons c cs) ρ p r := by
  cases r with
  | inl q => obtain ⟨ρ', l, e⟩ := g; exact ⟨ρ', l, (evz_step h).trans e⟩
  | inr x => obtain ⟨l, e⟩ := g; exact ⟨l, (evz_step h).trans e⟩
theorem good_exc {c : C} {ρ1 : Nv} {l : Sto} {q : Nat} (h : evC ⟨k01C (k + 4), glOf k01_gl⟩ c ρ (S ++ [obS wVer t p]) = .exc (badT wVer q) ρ1 (S ++ l)) : Good k S t (.cons c cs) ρ p (.inl q) := ⟨ρ1, l, evz_exc h⟩
theorem ob_at (S : Sto) (o : O) : (S ++ [o])[S.length]? = some o := by simp
theorem ob_set (S : Sto) (o u : O) : (S ++ [o]).set S.length u = S ++ [u] := by simp
theorem num_ev {j : Nat} (most : Int) (hn : S.length < 2 ^ 60) (h1 : ρ[1]? = some (some (.ref S.length))) (hp : p ≤ t.length) (f : Int → Nat → Pr)
    (g : ∀ (i : Int) (p' : Nat), p' ≤ t.length → Good k S t cs (ρ.set j (some (.p (.int i)))) p' (f i p')) : Good k S t (.cons (.asg (.nm j) (.mcl "Scanner" "number" 31 (.v 1) (.cons (.k (.int most)) .nil))) cs) ρ p (numK most t p f) := by
  obtain ⟨i1, i2, i3⟩ := numP_inv most (t.drop p) none p
  have h := k01_number (k := k + 2) (S := S ++ [obS wVer t p]) (n := S.length) (kd := wVer) (t := t) (p := p) most hn (ob_at ..) hp
  unfold numK
  rw [ob_set] at h
  by_cases hc : (numP most none p (t.drop p)).2.2 = true ∨ (numP most none p (t.drop p)).2.1 = none
  · rw [if_pos hc] at h ⊢
    exact good_exc (stasgX (emcl (evv h1) (ob_at ..) rfl (es1 (ev_k ..) es0) h))
  · rw [if_neg hc] at h ⊢
    refine good_step (stasg (emcl (evv h1) (ob_at ..) rfl (es1 (ev_k ..) es0) h) rfl) (g _ _ ?_)
    simp at i2; omega
theorem take_ev (c : Nat) (h1 : ρ[1]? = some (some (.ref S.length))) (hp : p ≤ t.length) (f : Nat → Pr)
    (g : p + 1 ≤ t.length → Good k S t cs ρ (p + 1) (f (p + 1))) : Good k S t (.cons (.ex (.mcl "Scanner" "take" 29 (.v 1) (.cons (.k (.str [c])) .nil))) cs) ρ p (takK c t p f) := by
  have h := k01_take (k := k + 1) (S := S ++ [obS wVer t p]) (n := S.length) (kd := wVer) (t := t) (p := p) c (ob_at ..) hp
  unfold takK
  rw [ob_set] at h
  by_cases hc : (t.drop p).take 1 = [c]
  · rw [if_pos hc] at h ⊢
    refine good_step (stex (emcl (evv h1) (ob_at ..) rfl (es1 (ev_k ..) es0) h)) (g ?_)
    rcases Nat.lt_or_ge p t.length with z | z
    · omega
    · rw [List.drop_of_length_le z] at hc; cases hc
  · rw [if_neg hc] at h ⊢
    exact good_exc (stexX (emcl (evv h1) (ob_at ..) rfl (es1 (ev_k ..) es0) h))
theorem end_ev (x : Q4) (h1 : ρ[1]? = some (some (.ref S.length))) (hp : p ≤ t.length) (h2 : ρ[2]? = some (some (.p (.int x.1)))) (h3 : ρ[3]? = some (some (.p (.int x.2.1)))) (h4 : ρ[4]? = some (some (.p (.int x.2.2.1)))) (h5 : ρ[5]? = some (some (.p (.int x.2.2.2)))) :
    Good k S t (.cons (.ex (.mcl "Scanner" "end" 30 (.v 1) .nil)) (.cons (.ret (.tp (.cons (.v 2) (.cons (.v 3) (.cons (.v 4) (.cons (.v 5) .nil)))))) .nil)) ρ p (endK t p x) := by
  have h := k01_end (k := k + 2) (S := S ++ [obS wVer t p]) (n := S.length) (kd := wVer) (t := t) (p := p) (ob_at ..) hp
  unfold endK
  by_cases hc : t.drop p = []
  · rw [if_pos hc] at h ⊢
    refine good_step (stex (emcl (evv h1) (ob_at ..) rfl es0 h)) ⟨[obS wVer t p], ?_⟩
    refine evz_end (stret ?_)
    rw [ev_tp, es1 (evv h2) (es1 (evv h3) (es1 (evv h4) (es1 (evv h5) es0)))]
    rfl
  · rw [if_neg hc] at h ⊢
    exact good_exc (stexX (emcl (evv h1) (ob_at ..) rfl es0 h))
theorem parse_good (hn : S.length < 2 ^ 60) : ∃ cs, k01_parse_version.body = .cons (.asg (.nm 1) (.mk "Scanner" 26 (.cons (.k (.str wVer)) (.cons (.v 0) .nil)))) cs ∧
    Good k S t cs [some (.p (.str t)), some (.ref S.length), none, none, none, none] 0 (parseF t) := by
  refine ⟨_, rfl, ?_⟩
  unfold parseF
  refine num_ev 999 hn rfl (Nat.zero_le _) _ fun a p1 hp1 => ?_
  refine take_ev 46 rfl hp1 _ fun hp1' => ?_
  refine num_ev 999 hn rfl hp1' _ fun b p2 hp2 => ?_
  refine take_ev 46 rfl hp2 _ fun hp2' => ?_
  refine num_ev 999 hn rfl hp2' _ fun c p3 hp3 => ?_
  refine good_step (p1 := p3) (ρ1 := [some (.p (.str t)), some (.ref S.length), some (.p (.int a)), some (.p (.int b)), some (.p (.int c)), some (.p (.int 999))]) (stasg (d := .p (.int 999)) (by rw [ev_g]; rfl) rfl) ?_
  have sk := skip_ev (k := k + 2) (S := S ++ [obS wVer t p3]) (n := S.length) (kd := wVer) (t := t) (p := p3) 45 rfl (ρ := [some (.p (.str t)), some (.ref S.length), some (.p (.int a)), some (.p (.int b)), some (.p (.int c)), some (.p (.int 999))]) (i := 1) rfl (ob_at ..) hp3 (a := .k (.str [45])) (ev_k ..)
  rw [ob_set] at sk
  by_cases hc : (t.drop p3).take 1 = [45]
  · rw [if_pos hc] at sk ⊢
    have hp3' : p3 + 1 ≤ t.length := by
      rcases Nat.lt_or_ge p3 t.length with z | z
      · omega
      · rw [List.drop_of_length_le z] at hc; cases hc
    have g := num_ev (k := k) (S := S) (t := t) (cs := .nil) (p := p3 + 1) (ρ := [some (.p (.str t)), some (.ref S.length), some (.p (.int a)), some (.p (.int b)), some (.p (.int c)), some (.p (.int 999))]) (j := 5) 998 hn rfl hp3'
    obtain ⟨i1, i2, i3⟩ := numP_inv 998 (t.drop (p3 + 1)) none (p3 + 1)
    have h := k01_number (k := k + 2) (S := S ++ [obS wVer t (p3 + 1)]) (n := S.length) (kd := wVer) (t := t) (p := p3 + 1) 998 hn (ob_at ..) hp3'
    unfold numK
    rw [ob_set] at h
    by_cases hb : (numP 998 none (p3 + 1) (t.drop (p3 + 1))).2.2 = true ∨ (numP 998 none (p3 + 1) (t.drop (p3 + 1))).2.1 = none
    · rw [if_pos hb] at h ⊢
      exact good_exc (stif1 sk (evz_exc (stasgX (emcl (evv rfl) (ob_at ..) rfl (es1 (ev_k ..) es0) h))))
    · rw [if_neg hb] at h ⊢
      refine good_step (stif1 sk ((evz_step (stasg (emcl (evv rfl) (ob_at ..) rfl (es1 (ev_k ..) es0) h) rfl)).trans (evz_nil ..))) ?_
      exact end_ev (a, b, c, _) rfl (by simp at i2; omega) rfl rfl rfl rfl
  · rw [if_neg hc] at sk ⊢
    refine good_step (stif0 sk) ?_
    exact end_ev (a, b, c, 999) rfl hp3 rfl rfl rfl rfl
theorem k01_parse (hn : S.length < 2 ^ 60) (t : Cs) : k01C (k + 5) 7 [.p (.str t)] S = match parseF t with
    | .inl p => .exc (badT wVer p) S
    | .inr x => .ok (.p (q4 x)) S := by
  obtain ⟨cs, hb, g⟩ := parse_good (k := k) (t := t) hn
  have s1 : evC ⟨k01C (k + 4), glOf k01_gl⟩ (.asg (.nm 1) (.mk "Scanner" 26 (.cons (.k (.str wVer)) (.cons (.v 0) .nil)))) [some (.p (.str t)), none, none, none, none, none] S = .nx [some (.p (.str t)), some (.ref S.length), none, none, none, none] (S ++ [obS wVer t 0]) := by
    refine stasg (emk (es1 (ev_k ..) (es1 (evv rfl) es0)) ?_) rfl
    have := k01_init (k := k + 3) (S := S ++ [.ob "Scanner" []]) (n := S.length) (kd := wVer) (t := t) (ob_at ..)
    rw [ob_set] at this
    exact this
  cases q : parseF t with
  | inl p =>
    rw [q] at g
    obtain ⟨ρ', l, e⟩ := g
    refine call_of (e := k01_E_parse_version) rfl rfl (runB_exc (S' := S ++ l) (x := badT wVer p) (ρ' := ρ') ?_ (tidyX_same l rfl))
    show evCz ⟨k01C (k + 4), glOf k01_gl⟩ k01_parse_version.body [some (.p (.str t)), none, none, none, none, none] S = _
    rw [hb, evz_step s1]; exact e
  | inr x =>
    rw [q] at g
    obtain ⟨l, e⟩ := g
    refine call_of (e := k01_E_parse_version) rfl rfl (runB_rt (S' := S ++ l) (d := .p (q4 x)) ?_ (tidy_pa _ _))
    show evCz ⟨k01C (k + 4), glOf k01_gl⟩ k01_parse_version.body [some (.p (.str t)), none, none, none, none, none] S = _
    rw [hb, evz_step s1]; exact e
end
end PH

set_option maxHeartbeats 8000000
namespace PH
open L2 PySem PySem.Spec PyProof.Rows
/-! ### one sign found -/
theorem find1 (s : Cs) (c : Nat) : (c ∉ s ∧ Txt.find (mkS s) (mkS [c]) = -1) ∨ ∃ a b, s = a ++ c :: b ∧ c ∉ a ∧ Txt.find (mkS s) (mkS [c]) = (a.length : Int) := by
  have at1 : ∀ i, StrLaws.At (mkS s) (mkS [c]) (mkS s).length i ↔ s[i]? = some c := fun i => StrLaws.subAt_one (mkS s) c i
  rcases StrLaws.occ_head (mkS s) (mkS [c]) 1 (Nat.le_refl 1) with ⟨h1, h2⟩ | ⟨i, r, h1, h2, h3⟩
  · refine .inl ⟨fun h => ?_, by unfold Txt.find; rw [h1]⟩
    obtain ⟨i, hi⟩ := List.getElem?_of_mem h
    exact h2 i ((at1 i).mpr hi)
  · have hi := (at1 i).mp h2
    have hl : i < s.length := (List.getElem?_eq_some_iff.mp hi).1
    refine .inr ⟨s.take i, s.drop (i + 1), ?_, fun h => ?_, ?_⟩
    · have := (List.getElem?_eq_some_iff.mp hi).2
      rw [← this, ← List.drop_eq_getElem_cons hl, List.take_append_drop]
    · obtain ⟨k, hk⟩ := List.getElem?_of_mem h
      rw [List.getElem?_take] at hk
      split at hk
      · exact h3 k (by assumption) ((at1 k).mpr hk)
      · cases hk
    · unfold Txt.find; rw [h1]; simp [Nat.min_eq_left (Nat.le_of_lt hl)]
theorem find_dg (c : Nat) : Txt.find (mkS digits) (mkS [c]) = if dg c = true then dI c else -1 := by
  have dm := dg_mem c
  cases h : dg c with
  | false =>
    rw [h] at dm
    have hn : c ∉ digits := by simpa using dm
    rcases find1 digits c with ⟨_, e⟩ | ⟨a, b, e, _⟩
    · exact e
    · exact absurd (by rw [e]; simp) hn
  | true =>
    have : c = 48 ∨ c = 49 ∨ c = 50 ∨ c = 51 ∨ c = 52 ∨ c = 53 ∨ c = 54 ∨ c = 55 ∨ c = 56 ∨ c = 57 := by
      unfold dg at h
      simp only [Bool.and_eq_true, decide_eq_true_eq] at h
      omega
    have all : ∀ i < 10, Txt.find (mkS digits) (mkS [48 + i]) = (i : Int) := by decide +kernel
    rw [if_pos rfl]
    rcases this with rfl | rfl | rfl | rfl | rfl | rfl | rfl | rfl | rfl | rfl
    · exact all 0 (by decide)
    · exact all 1 (by decide)
    · exact all 2 (by decide)
    · exact all 3 (by decide)
    · exact all 4 (by decide)
    · exact all 5 (by decide)
    · exact all 6 (by decide)
    · exact all 7 (by decide)
    · exact all 8 (by decide)
    · exact all 9 (by decide)
/-! ### the law's number -/
def dfold : Int → Cs → Option Int
  | f, [] => some f
  | f, c :: w => if dg c then dfold (f * 10 + dI c) w else none
def badL (w : Cs) : Bool := decide (w = []) || (decide (3 < w.length) || (decide (1 < w.length) && decide (w.head? = some 48)))
def numI (w : Cs) (most : Int) : Int := if badL w = true then -1 else match dfold 0 w with
  | none => -1
  | some g => if g > most then -1 else g
section
variable {S : Sto} {k n : Nat}
def lnBody : Cz := (.cons (.asg (.nm 4) (.mth .find (.k (.str [48, 49, 50, 51, 52, 53, 54, 55, 56, 57])) (.cons (.v 3) .nil)))
    (.cons (.ite (.cmp .Lt (.v 4) (.k (.int 0))) (.cons (.ret (.neg (.k (.int 1))))
      .nil) .nil)
    (.cons (.asg (.nm 2) (.bin .Add (.bin .Mult (.v 2) (.k (.int 10))) (.v 4)))
    .nil)))
theorem ln_for {M : Mo} {t : PD} {m : Int} {ds : List D} : ∀ (w : Cs) (f : Int) (x y : Option D), ∃ x' y', forI ⟨ds, none⟩ (.nm 3) (evCz M lnBody) (w.map fun c => .p (.str [c])) [some (.p t), some (.p (.int m)), some (.p (.int f)), x, y] S = match dfold f w with
    | none => .rt (.p (.int (-1))) S
    | some g => .nx [some (.p t), some (.p (.int m)), some (.p (.int g)), x', y'] S
  | [], f, x, y => ⟨x, y, rfl⟩
  | c :: w, f, x, y => by
    have s1 : evC M (.asg (.nm 4) (.mth .find (.k (.str [48, 49, 50, 51, 52, 53, 54, 55, 56, 57])) (.cons (.v 3) .nil))) [some (.p t), some (.p (.int m)), some (.p (.int f)), some (.p (.str [c])), y] S = .nx [some (.p t), some (.p (.int m)), some (.p (.int f)), some (.p (.str [c])), some (.p (.int (if dg c = true then dI c else -1)))] S := by
      refine stasg ?_ rfl
      rw [ev_mth, ev_k, Res.bind_ok', if_pos (recv_str2 _), es1 (evv rfl) es0, Res.bind_ok', ← find_dg]; rfl
    cases h : dg c with
    | false =>
      refine ⟨x, y, ?_⟩
      have e : dfold f (c :: w) = none := by simp [dfold, h]
      rw [e]
      rw [h, if_neg (by decide)] at s1
      refine forI_rt1 rfl rfl ?_
      unfold lnBody
      refine (evz_step s1).trans (evz_end (stif1 (ecmp (evv rfl) (ev_k ..) (cmp_lt ..)) (evz_end (stret ?_))))
      rw [ev_neg, ev_k]; rfl
    | true =>
      obtain ⟨x', y', ih⟩ := ln_for (ds := ds) w (f * 10 + dI c) (some (.p (.str [c]))) (some (.p (.int (dI c))))
      refine ⟨x', y', ?_⟩
      have e : dfold f (c :: w) = dfold (f * 10 + dI c) w := by simp [dfold, h]
      rw [e, ← ih]
      rw [h, if_pos rfl] at s1
      have hd : 0 ≤ dI c := by
        unfold dg at h
        simp only [Bool.and_eq_true, decide_eq_true_eq] at h
        unfold dI; omega
      refine forI_nx1 rfl rfl ?_
      unfold lnBody
      show evCz M _ [some (.p t), some (.p (.int m)), some (.p (.int f)), some (.p (.str [c])), y] S = _
      rw [evz_step s1, evz_step (stif0 (ecmp (evv rfl) (ev_k ..) (by rw [cmp_lt, decide_eq_false (by omega)]))), evz_step (stasg (ebin (ebin (evv rfl) (ev_k ..) (bin_mulR _ (by decide))) (evv rfl) (bin_add ..)) rfl), evz_nil]
      rfl
theorem k01_lnum (w : Cs) (most : Int) : k01C (k + 1) 14 [.p (.str w), .p (.int most)] S = .ok (.p (.int (numI w most))) S := by
  refine call_of (e := k01_E_law_number) rfl rfl (runB_rt (S' := S) (d := .p (.int (numI w most))) ?_ (tidy_p _))
  show evCz ⟨k01C k, glOf k01_gl⟩ k01_law_number.body [some (.p (.str w)), some (.p (.int most)), none, none, none] S = _
  have c1 : evE ⟨k01C k, glOf k01_gl⟩ (.bo .Or (.cons (.cmp .Eq (.v 0) (.k (.str []))) (.cons (.cmp .Gt (.blt .len (.cons (.v 0) .nil)) (.k (.int 3))) (.cons (.bo .And (.cons (.cmp .Gt (.blt .len (.cons (.v 0) .nil)) (.k (.int 1))) (.cons (.cmp .Eq (.ix (.v 0) (.k (.int 0))) (.k (.str [48]))) .nil))) .nil)))) [some (.p (.str w)), some (.p (.int most)), none, none, none] S = .ok (.p (.bl (badL w))) S := by
    have a1 : evE ⟨k01C k, glOf k01_gl⟩ (.cmp .Eq (.v 0) (.k (.str []))) [some (.p (.str w)), some (.p (.int most)), none, none, none] S = .ok (.p (.bl (decide (w = [])))) S := ecmp (evv rfl) (ev_k ..) (eq_str ..)
    have a2 : ∀ m : Nat, evE ⟨k01C k, glOf k01_gl⟩ (.cmp .Gt (.blt .len (.cons (.v 0) .nil)) (.k (.int (m : Int)))) [some (.p (.str w)), some (.p (.int most)), none, none, none] S = .ok (.p (.bl (decide (m < w.length)))) S := fun m =>
      ecmp (eblt1 (evv rfl) (len_str ..)) (ev_k ..) (by rw [cmp_gt]; congr 3; rw [decide_eq_decide]; omega)
    have a3 : 1 < w.length → evE ⟨k01C k, glOf k01_gl⟩ (.cmp .Eq (.ix (.v 0) (.k (.int 0))) (.k (.str [48]))) [some (.p (.str w)), some (.p (.int most)), none, none, none] S = .ok (.p (.bl (decide (w.head? = some 48)))) S := fun h => by
      refine ecmp (eix (evv rfl) (ev_k ..) (ix_str (by decide) (by omega))) (ev_k ..) ?_
      rw [eq_str]
      cases w with
      | nil => simp at h
      | cons c r => simp
    have a4 : evE ⟨k01C k, glOf k01_gl⟩ (.bo .And (.cons (.cmp .Gt (.blt .len (.cons (.v 0) .nil)) (.k (.int 1))) (.cons (.cmp .Eq (.ix (.v 0) (.k (.int 0))) (.k (.str [48]))) .nil))) [some (.p (.str w)), some (.p (.int most)), none, none, none] S = .ok (.p (.bl (decide (1 < w.length) && decide (w.head? = some 48)))) S := by
      by_cases h : 1 < w.length
      · exact eand2 (a2 1) (a3 h)
      · rw [decide_eq_false h, Bool.false_and]
        have := a2 1
        rw [decide_eq_false h] at this
        exact eand0 this
    unfold badL
    by_cases h : w = []
    · rw [decide_eq_true h] at a1 ⊢; exact eor1 a1
    · rw [decide_eq_false h] at a1 ⊢
      refine eor0 a1 ?_
      rw [Bool.false_or]
      exact eor2 (a2 3) a4
  unfold k01_law_number
  dsimp only
  unfold numI
  cases hb : badL w with
  | true =>
    rw [hb] at c1
    refine evz_end (stif1 c1 (evz_end (stret ?_)))
    rw [ev_neg, ev_k]; rfl
  | false =>
    rw [hb] at c1
    rw [if_neg (by decide), evz_step (stif0 c1), evz_step (stasg (ρ1 := [some (.p (.str w)), some (.p (.int most)), some (.p (.int 0)), none, none]) (ev_k ..) rfl)]
    obtain ⟨x', y', hf⟩ := ln_for (S := S) (M := ⟨k01C k, glOf k01_gl⟩) (t := .str w) (m := most) (ds := w.map fun c => .p (.str [c])) w 0 none none
    cases hd : dfold 0 w with
    | none =>
      rw [hd] at hf
      exact evz_end (stfor (of_ev (evv rfl) (wk_str ..)) hf)
    | some g =>
      rw [hd] at hf
      refine (evz_step (stfor (of_ev (evv rfl) (wk_str ..)) hf)).trans ?_
      by_cases hg : most < g
      · dsimp only
        rw [if_pos (show g > most from hg)]
        refine evz_end (stif1 (ecmp (evv rfl) (evv rfl) (by rw [cmp_gt, decide_eq_true hg])) (evz_end (stret ?_)))
        rw [ev_neg, ev_k]; rfl
      · dsimp only
        rw [if_neg (show ¬ g > most from hg), evz_step (stif0 (ecmp (evv rfl) (evv rfl) (by rw [cmp_gt, decide_eq_false hg])))]
        exact evz_end (stret (evv rfl))
end
end PH

set_option maxHeartbeats 8000000
namespace PH
open L2 PySem PySem.Spec PyProof.Rows
/-! ### the law's parts -/
def ps (s : Cs) : List Cs := TL.spl [46] 0 [] s
theorem spl_cons (acc : Cs) (c : Nat) (r : Cs) : TL.spl [46] 0 acc (c :: r) = if c = 46 then acc :: TL.spl [46] 0 [] r else TL.spl [46] 0 (acc ++ [c]) r := by
  by_cases h : c = 46
  · rw [if_pos h, TL.spl_hit (by rw [h]; exact TL.pre_self [46] r)]; rfl
  · rw [if_neg h, TL.spl_miss (TL.pre_of_head [] r h)]
theorem spl_lenk : ∀ (r acc : Cs), (TL.spl [46] 0 acc r).length ≤ r.length + 1 ∧ 0 < (TL.spl [46] 0 acc r).length
  | [], acc => by rw [TL.spl_nil]; simp
  | c :: r, acc => by
    rw [spl_cons]
    split
    · have := spl_lenk r []
      simp only [List.length_cons]; omega
    · have := spl_lenk r (acc ++ [c])
      simp only [List.length_cons]; omega
def dA (w : Cs) : Cs := w.takeWhile (fun c => decide (c ≠ 45))
def dB (w : Cs) : Cs := (w.dropWhile (fun c => decide (c ≠ 45))).drop 1
theorem dA_of : ∀ {a b : Cs}, 45 ∉ a → dA (a ++ 45 :: b) = a ∧ dB (a ++ 45 :: b) = b
  | [], b, _ => by simp [dA, dB]
  | c :: a, b, h => by
    have hc : c ≠ 45 := fun z => h (by rw [z]; simp)
    have ha : 45 ∉ a := fun z => h (by simp [z])
    obtain ⟨h1, h2⟩ := dA_of (b := b) ha
    simp [dA, dB, hc] at h1 h2 ⊢
    exact ⟨h1, h2⟩
def partsF (s : Cs) : List Cs := if 3 < (ps s).length then List.replicate 5 [] else
  if (ps s).length = 3 ∧ 45 ∈ (ps s)[2]! then (ps s).take 2 ++ [dA (ps s)[2]!, dB (ps s)[2]!] else ps s
theorem partsF_len (s : Cs) : (partsF s).length ≤ 5 := by
  unfold partsF
  split
  · simp
  · split
    · simp; omega
    · omega
section
variable {S : Sto} {k n : Nat}
theorem bin_rep {n : Nat} {a : List PD} {m : Int} (h : S[n]? = some (.pl a)) (h0 : 0 ≤ m) (h1 : m < 2 ^ 62) (h2 : a.length * m.toNat ≤ LINE) : binI .Mult (.ref n) (.p (.int m)) S = .ok (.ref S.length) (S ++ [.pl (List.replicate m.toNat a).flatten]) := by
  simp only [binI, h, if_pos (show 0 ≤ m ∧ m < 2 ^ 62 ∧ a.length * m.toNat ≤ LINE from ⟨h0, h1, h2⟩)]; rfl
theorem at2 {l : List Cs} (h : l.length = 3) : l = [l[0]!, l[1]!, l[2]!] := by
  match l, h with
  | [a, b, c], _ => rfl
theorem k01_lparts {s : Cs} (hs : s.length ≤ 10000) : k01C (k + 1) 15 [.p (.str s)] S = .ok (.ref S.length) (S ++ [.pl ((partsF s).map .str)]) := by
  have g0 : ∀ {l : Sto} {q : Nat} {o : O}, l[q]? = some o → (S ++ l)[S.length + q]? = some o := fun {l q o} h => by rw [List.getElem?_append_right (by omega), Nat.add_sub_cancel_left]; exact h
  have body : ∀ S' d, evCz ⟨k01C k, glOf k01_gl⟩ k01_law_parts.body [some (.p (.str s)), none, none] S = .rt d S' → tidy S S' d = .ok (.ref S.length) (S ++ [.pl ((partsF s).map .str)]) → k01C (k + 1) 15 [.p (.str s)] S = .ok (.ref S.length) (S ++ [.pl ((partsF s).map .str)]) := fun S' d h ht =>
    call_of (e := k01_E_law_parts) rfl rfl (runB_rt h ht)
  have s1 : evC ⟨k01C k, glOf k01_gl⟩ (.asg (.nm 1) (.mth .split (.v 0) (.cons (.k (.str [46])) .nil))) [some (.p (.str s)), none, none] S = .nx [some (.p (.str s)), some (.ref S.length), none] (S ++ [.pl ((ps s).map .str)]) := by
    refine stasg ?_ rfl
    rw [ev_mth, evv rfl, Res.bind_ok', if_pos (show recv .split (.p (.str s)) S = true from rfl), es1 (ev_k ..) es0, Res.bind_ok']
    show (if _ then new _ S else .stuck) = _
    rw [if_pos ⟨by decide, by decide, by unfold LINE; omega⟩]; rfl
  have hP : (S ++ [.pl ((ps s).map .str)])[S.length]? = some (O.pl ((ps s).map .str)) := ob_at ..
  have ln : bltI .len [.ref S.length] (S ++ [.pl ((ps s).map .str)]) = .ok (.p (.int (ps s).length)) (S ++ [.pl ((ps s).map .str)]) := by rw [len_ref hP rfl]; simp [O.ds]
  have c1 : evE ⟨k01C k, glOf k01_gl⟩ (.cmp .Gt (.blt .len (.cons (.v 1) .nil)) (.k (.int 3))) [some (.p (.str s)), some (.ref S.length), none] (S ++ [.pl ((ps s).map .str)]) = .ok (.p (.bl (decide (3 < (ps s).length)))) (S ++ [.pl ((ps s).map .str)]) :=
    ecmp (eblt1 (evv rfl) ln) (ev_k ..) (by rw [cmp_gt]; congr 3; rw [decide_eq_decide]; omega)
  by_cases h3 : 3 < (ps s).length
  · rw [decide_eq_true h3] at c1
    refine body (S ++ [.pl ((ps s).map .str), .pl [.str []], .pl (List.replicate 5 (.str []))]) (.ref (S.length + 2)) ?_ ?_
    · unfold k01_law_parts
      dsimp only
      rw [evz_step s1]
      refine evz_end (stif1 c1 (evz_end (stret ?_)))
      have e1 : evE ⟨k01C k, glOf k01_gl⟩ (.ls (.cons (.k (.str [])) .nil)) [some (.p (.str s)), some (.ref S.length), none] (S ++ [.pl ((ps s).map .str)]) = .ok (.ref (S.length + 1)) (S ++ [.pl ((ps s).map .str), .pl [.str []]]) := by
        rw [ev_ls, es1 (ev_k ..) es0]; simp [mkL, allP]
      rw [ebin e1 (ev_k ..) (bin_rep (g0 rfl) (by decide) (by decide) (by decide))]
      simp
    · rw [tidy_new' (xs := List.replicate 5 (.str [])) (by omega) (g0 rfl)]
      unfold partsF
      rw [if_pos h3]; rfl
  · rw [decide_eq_false h3] at c1
    have e3 : evE ⟨k01C k, glOf k01_gl⟩ (.cmp .Eq (.blt .len (.cons (.v 1) .nil)) (.k (.int 3))) [some (.p (.str s)), some (.ref S.length), none] (S ++ [.pl ((ps s).map .str)]) = .ok (.p (.bl (decide ((ps s).length = 3)))) (S ++ [.pl ((ps s).map .str)]) :=
      ecmp (eblt1 (evv rfl) ln) (ev_k ..) (by rw [eq_int]; congr 3; rw [decide_eq_decide]; omega)
    have keep : ¬ ((ps s).length = 3 ∧ 45 ∈ (ps s)[2]!) → evE ⟨k01C k, glOf k01_gl⟩ (.bo .And (.cons (.cmp .Eq (.blt .len (.cons (.v 1) .nil)) (.k (.int 3))) (.cons (.cmp .In (.k (.str [45])) (.ix (.v 1) (.k (.int 2)))) .nil))) [some (.p (.str s)), some (.ref S.length), none] (S ++ [.pl ((ps s).map .str)]) = .ok (.p (.bl false)) (S ++ [.pl ((ps s).map .str)]) →
        k01C (k + 1) 15 [.p (.str s)] S = .ok (.ref S.length) (S ++ [.pl ((partsF s).map .str)]) := fun hn hc => by
      refine body (S ++ [.pl ((ps s).map .str)]) (.ref S.length) ?_ ?_
      · unfold k01_law_parts
        dsimp only
        rw [evz_step s1, evz_step (stif0 c1), evz_step (stif0 hc)]
        exact evz_end (stret (evv rfl))
      · rw [tidy_new]
        unfold partsF
        rw [if_neg h3, if_neg hn]
    by_cases h : (ps s).length = 3
    · have ix2 : ∀ l, ixI (.ref S.length) (.p (.int 2)) (S ++ .pl ((ps s).map .str) :: l) = .ok (.p (.str (ps s)[2]!)) (S ++ .pl ((ps s).map .str) :: l) := fun l =>
        ix_data (xs := (ps s).map .str) (by simp [dataOf]) (by rw [atI_map, atI_in (by decide) (by omega)]; rfl)
      have m2 : evE ⟨k01C k, glOf k01_gl⟩ (.cmp .In (.k (.str [45])) (.ix (.v 1) (.k (.int 2)))) [some (.p (.str s)), some (.ref S.length), none] (S ++ [.pl ((ps s).map .str)]) = .ok (.p (.bl (decide (45 ∈ (ps s)[2]!)))) (S ++ [.pl ((ps s).map .str)]) :=
        ecmp (ev_k ..) (eix (evv rfl) (ev_k ..) (ix2 [])) (cmp_in1 ..)
      rw [decide_eq_true h] at e3
      by_cases hm : 45 ∈ (ps s)[2]!
      · rw [decide_eq_true hm] at m2
        rcases find1 (ps s)[2]! 45 with ⟨z, _⟩ | ⟨a, b, e, ha, hf⟩
        · exact absurd hm z
        obtain ⟨d1, d2⟩ := dA_of (b := b) ha
        rw [← e] at d1 d2
        have lw : (ps s)[2]!.length = a.length + (b.length + 1) := by rw [e]; simp
        refine body (S ++ [.pl ((ps s).map .str), .pl (((ps s).take 2).map .str), .pl [.str a, .str b], .pl ((((ps s).take 2) ++ [a, b]).map .str)]) (.ref (S.length + 3)) ?_ ?_
        · unfold k01_law_parts
          dsimp only
          rw [evz_step s1, evz_step (stif0 c1)]
          have fe : evE ⟨k01C k, glOf k01_gl⟩ (.mth .find (.ix (.v 1) (.k (.int 2))) (.cons (.k (.str [45])) .nil)) [some (.p (.str s)), some (.ref S.length), none] (S ++ [.pl ((ps s).map .str)]) = .ok (.p (.int (a.length : Int))) (S ++ [.pl ((ps s).map .str)]) := by
            rw [ev_mth, eix (evv rfl) (ev_k ..) (ix2 []), Res.bind_ok', if_pos (recv_str2 _), es1 (ev_k ..) es0, Res.bind_ok']
            show ret1 (.int (Txt.find (mkS (ps s)[2]!) (mkS [45]))) _ = _
            rw [hf]; rfl
          refine evz_end (stif1 (eand1 e3 (ebo1 m2)) ?_)
          rw [evz_step (stasg (ρ1 := [some (.p (.str s)), some (.ref S.length), some (.p (.int (a.length : Int)))]) fe rfl)]
          refine evz_end (stret ?_)
          have sl1 : evE ⟨k01C k, glOf k01_gl⟩ (.slH (.v 1) (.k (.int 2))) [some (.p (.str s)), some (.ref S.length), some (.p (.int (a.length : Int)))] (S ++ [.pl ((ps s).map .str)]) = .ok (.ref (S.length + 1)) (S ++ [.pl ((ps s).map .str), .pl (((ps s).take 2).map .str)]) := by
            rw [ev_slH, evv rfl, Res.bind_ok', ev_k, Res.bind_ok', asInt_int, sl_ref hP, cut_map, cut_hi (by decide) (by omega)]
            simp
          have sl2 : evE ⟨k01C k, glOf k01_gl⟩ (.slH (.ix (.v 1) (.k (.int 2))) (.v 2)) [some (.p (.str s)), some (.ref S.length), some (.p (.int (a.length : Int)))] (S ++ [.pl ((ps s).map .str), .pl (((ps s).take 2).map .str)]) = .ok (.p (.str a)) (S ++ [.pl ((ps s).map .str), .pl (((ps s).take 2).map .str)]) := by
            rw [ev_slH, eix (evv rfl) (ev_k ..) (ix2 _), Res.bind_ok', evv rfl, Res.bind_ok', asInt_int]
            show ret1 (.str (cut _ _ _)) _ = _
            rw [cut_hi (by omega) (by omega), e]; simp
          have sl3 : evE ⟨k01C k, glOf k01_gl⟩ (.slL (.ix (.v 1) (.k (.int 2))) (.bin .Add (.v 2) (.k (.int 1)))) [some (.p (.str s)), some (.ref S.length), some (.p (.int (a.length : Int)))] (S ++ [.pl ((ps s).map .str), .pl (((ps s).take 2).map .str)]) = .ok (.p (.str b)) (S ++ [.pl ((ps s).map .str), .pl (((ps s).take 2).map .str)]) := by
            rw [ev_slL, eix (evv rfl) (ev_k ..) (ix2 _), Res.bind_ok', ebin (evv rfl) (ev_k ..) (bin_add ..), Res.bind_ok', asInt_int]
            show ret1 (.str (cut _ _ _)) _ = _
            rw [cut_lo (by omega), e, show ((a.length : Int) + 1).toNat = a.length + 1 by omega]; simp
          have ls : evE ⟨k01C k, glOf k01_gl⟩ (.ls (.cons (.slH (.ix (.v 1) (.k (.int 2))) (.v 2)) (.cons (.slL (.ix (.v 1) (.k (.int 2))) (.bin .Add (.v 2) (.k (.int 1)))) .nil))) [some (.p (.str s)), some (.ref S.length), some (.p (.int (a.length : Int)))] (S ++ [.pl ((ps s).map .str), .pl (((ps s).take 2).map .str)]) = .ok (.ref (S.length + 2)) (S ++ [.pl ((ps s).map .str), .pl (((ps s).take 2).map .str), .pl [.str a, .str b]]) := by
            rw [ev_ls, es1 sl2 (es1 sl3 es0)]; simp [mkL, allP]
          rw [ebin sl1 ls (bin_addL (g0 rfl) (g0 rfl) (by simp [LINE]; omega))]
          simp
        · rw [tidy_new' (xs := ((ps s).take 2 ++ [a, b]).map .str) (by omega) (g0 rfl)]
          unfold partsF
          rw [if_neg h3, if_pos ⟨h, hm⟩, d1, d2]
      · rw [decide_eq_false hm] at m2
        exact keep (fun z => hm z.2) (eand1 e3 (ebo1 m2))
    · rw [decide_eq_false h] at e3
      exact keep (fun z => h z.1) (eand0 e3)
end
end PH

set_option maxHeartbeats 8000000
namespace PH
open L2 PySem PySem.Spec PyProof.Rows
/-! ### begins, due -/
def mx (k : Nat) : Int := 999 - (if k = 3 then 1 else 0)
def okB (p : List Cs) (k : Nat) : Bool := !(decide (numI p[k]! (mx k) < 0) && (!decide (p[k]! = []) || decide ((k : Int) < (p.length : Int) - 1)))
def begF (s : Cs) : Bool := (List.range (partsF s).length).all (okB (partsF s))
def numsF (s : Cs) : List Int := (List.range (partsF s).length).map fun k => numI (partsF s)[k]! (mx k)
def placeF (s : Cs) : Nat → Nat
  | 0 => 0
  | n + 1 => if begF (s.take n) then n else placeF s n
def sRead : Cs := [114, 101, 97, 100]
def sRef : Cs := [114, 101, 102, 117, 115, 101, 100]
def dueF (s : Cs) : PD := if 2 < (numsF s).length ∧ ∀ x ∈ numsF s, 0 ≤ x then .tup [.str sRead, .tup ((if (numsF s).length = 3 then numsF s ++ [999] else numsF s).map .int)]
  else .tup [.str sRef, .str wVer, .int (placeF s (s.length + 1) : Nat)]
theorem fold_min : ∀ (r : List Int) (i : Int), 0 ≤ r.foldl min i ↔ 0 ≤ i ∧ ∀ x ∈ r, 0 ≤ x
  | [], i => by simp
  | x :: r, i => by
    rw [List.foldl_cons, fold_min r (min i x)]
    simp only [List.mem_cons, forall_eq_or_imp]
    constructor
    · rintro ⟨h1, h2⟩; exact ⟨by omega, by omega, h2⟩
    · rintro ⟨h1, h2, h3⟩; exact ⟨by omega, h3⟩
theorem intsOf_map : ∀ xs : List Int, intsOf (xs.map .int) = some xs
  | [] => rfl
  | x :: xs => by simp [intsOf, intsOf_map xs]
section
variable {S : Sto} {k n : Nat}
theorem lnum_ev {M : Mo} {ρ : Nv} {p : List Cs} {j : Nat} {l : Sto} {iL iK : Nat} (hc : ∀ w m S, M.call 14 [.p (.str w), .p (.int m)] S = .ok (.p (.int (numI w m))) S) (h1 : ρ[iL]? = some (some (.ref S.length))) (h2 : ρ[iK]? = some (some (.p (.int (j : Int))))) (hj : j < p.length) :
    evE M (.call 14 (.cons (.ix (.v iL) (.v iK)) (.cons (.bin .Sub (.k (.int 999)) (.blt .int (.cons (.cmp .Eq (.v iK) (.k (.int 3))) .nil))) .nil))) ρ (S ++ .pl (p.map .str) :: l) = .ok (.p (.int (numI p[j]! (mx j)))) (S ++ .pl (p.map .str) :: l) := by
  have ix : ixI (.ref S.length) (.p (.int (j : Int))) (S ++ .pl (p.map .str) :: l) = .ok (.p (.str p[j]!)) (S ++ .pl (p.map .str) :: l) :=
    ix_data (xs := p.map .str) (by simp [dataOf]) (by rw [atI_map, atI_in (by omega) (by omega)]; rfl)
  refine ecall2 (eix (evv h1) (evv h2) ix) (ebin (ev_k ..) (eblt1 (ecmp (evv h2) (ev_k ..) (eq_int ..)) rfl) (bin_sub ..)) ?_
  rw [hc]
  have e : (999 : Int) - (if decide ((j : Int) = 3) = true then 1 else 0) = mx j := by
    unfold mx
    by_cases z : j = 3
    · subst z; rfl
    · have z' : ¬ (j : Int) = 3 := by omega
      simp [z, z']
  rw [e]
abbrev bgBody : Cz := (.cons (.ite (.bo .And (.cons (.cmp .Lt (.call 14 (.cons (.ix (.v 1) (.v 2)) (.cons (.bin .Sub (.k (.int 999)) (.blt .int (.cons (.cmp .Eq (.v 2) (.k (.int 3))) .nil))) .nil))) (.k (.int 0))) (.cons (.bo .Or (.cons (.cmp .NotEq (.ix (.v 1) (.v 2)) (.k (.str []))) (.cons (.cmp .Lt (.v 2) (.bin .Sub (.blt .len (.cons (.v 1) .nil)) (.k (.int 1)))) .nil))) .nil))) (.cons (.ret (.k (.bl false)))
      .nil) .nil)
    .nil)
theorem bg_for {M : Mo} {t : PD} {p : List Cs} {ds : List D} (hc : ∀ w m S, M.call 14 [.p (.str w), .p (.int m)] S = .ok (.p (.int (numI w m))) S) : ∀ (l : List Nat) (x : Option D), (∀ j ∈ l, j < p.length) →
    ∃ x', forI ⟨ds, none⟩ (.nm 2) (evCz M bgBody) (l.map fun (j : Nat) => D.p (.int (j : Int))) [some (.p t), some (.ref S.length), x] (S ++ [.pl (p.map .str)]) =
      if l.all (okB p) = true then .nx [some (.p t), some (.ref S.length), x'] (S ++ [.pl (p.map .str)]) else .rt (.p (.bl false)) (S ++ [.pl (p.map .str)])
  | [], x, _ => ⟨x, rfl⟩
  | j :: l, x, hl => by
    have hj := hl j (by simp)
    obtain ⟨x', ih⟩ := bg_for hc l (some (.p (.int (j : Int)))) (fun i hi => hl i (by simp [hi]))
    refine ⟨x', ?_⟩
    have ix : ixI (.ref S.length) (.p (.int (j : Int))) (S ++ [.pl (p.map .str)]) = .ok (.p (.str p[j]!)) (S ++ [.pl (p.map .str)]) :=
      ix_data (xs := p.map .str) (by simp [dataOf]) (by rw [atI_map, atI_in (by omega) (by omega)]; rfl)
    have ln : bltI .len [.ref S.length] (S ++ [.pl (p.map .str)]) = .ok (.p (.int p.length)) (S ++ [.pl (p.map .str)]) := by rw [len_ref (ob_at ..) rfl]; simp [O.ds]
    have a1 : evE M (.cmp .Lt (.call 14 (.cons (.ix (.v 1) (.v 2)) (.cons (.bin .Sub (.k (.int 999)) (.blt .int (.cons (.cmp .Eq (.v 2) (.k (.int 3))) .nil))) .nil))) (.k (.int 0))) [some (.p t), some (.ref S.length), some (.p (.int (j : Int)))] (S ++ [.pl (p.map .str)]) = .ok (.p (.bl (decide (numI p[j]! (mx j) < 0)))) (S ++ [.pl (p.map .str)]) :=
      ecmp (lnum_ev hc rfl rfl hj) (ev_k ..) (cmp_lt ..)
    have a2 : evE M (.cmp .NotEq (.ix (.v 1) (.v 2)) (.k (.str []))) [some (.p t), some (.ref S.length), some (.p (.int (j : Int)))] (S ++ [.pl (p.map .str)]) = .ok (.p (.bl (!decide (p[j]! = [])))) (S ++ [.pl (p.map .str)]) :=
      ecmp (eix (evv rfl) (evv rfl) ix) (ev_k ..) (ne_str ..)
    have a3 : evE M (.cmp .Lt (.v 2) (.bin .Sub (.blt .len (.cons (.v 1) .nil)) (.k (.int 1)))) [some (.p t), some (.ref S.length), some (.p (.int (j : Int)))] (S ++ [.pl (p.map .str)]) = .ok (.p (.bl (decide ((j : Int) < (p.length : Int) - 1)))) (S ++ [.pl (p.map .str)]) :=
      ecmp (evv rfl) (ebin (eblt1 (evv rfl) ln) (ev_k ..) (bin_sub ..)) (cmp_lt ..)
    have a4 := eand2 a1 (eor2 a2 a3)
    have ho : okB p j = !(decide (numI p[j]! (mx j) < 0) && (!decide (p[j]! = []) || decide ((j : Int) < (p.length : Int) - 1))) := rfl
    generalize (decide (numI p[j]! (mx j) < 0) && (!decide (p[j]! = []) || decide ((j : Int) < (p.length : Int) - 1))) = b at a4 ho
    rw [List.all_cons, ho]
    cases b with
    | true => exact forI_rt1 rfl rfl (evz_end (stif1 a4 (evz_end (stret (ev_k ..)))))
    | false =>
      rw [show (!false && l.all (okB p)) = l.all (okB p) from rfl, ← ih]
      refine forI_nx1 rfl rfl ?_
      show evCz M _ [some (.p t), some (.ref S.length), some (.p (.int (j : Int)))] _ = _
      rw [evz_step (stif0 a4), evz_nil]
theorem k01_begins {s : Cs} (hs : s.length ≤ 10000) : k01C (k + 2) 16 [.p (.str s)] S = .ok (.p (.bl (begF s))) S := by
  have hp := k01_lparts (k := k) (S := S) hs
  have pl := partsF_len s
  refine call_of (e := k01_E_law_begins) rfl rfl (runB_rt (S' := S ++ [.pl ((partsF s).map .str)]) (d := .p (.bl (begF s))) ?_ (tidy_pa _ _))
  show evCz ⟨k01C (k + 1), glOf k01_gl⟩ k01_law_begins.body [some (.p (.str s)), none, none] S = _
  unfold k01_law_begins
  dsimp only
  rw [evz_step (stasg (ρ1 := [some (.p (.str s)), some (.ref S.length), none]) (ecall1 (evv rfl) hp) rfl)]
  have ln : bltI .len [.ref S.length] (S ++ [.pl ((partsF s).map .str)]) = .ok (.p (.int (partsF s).length)) (S ++ [.pl ((partsF s).map .str)]) := by rw [len_ref (ob_at ..) rfl]; simp [O.ds]
  obtain ⟨x', hf⟩ := bg_for (S := S) (M := ⟨k01C (k + 1), glOf k01_gl⟩) (t := .str s) (p := partsF s) (ds := rgS 0 1 (partsF s).length) (fun w m S => k01_lnum (k := k) w m) (List.range (partsF s).length) none (fun j hj => by simpa using hj)
  rw [← rgS01] at hf
  unfold begF
  cases q : (List.range (partsF s).length).all (okB (partsF s)) with
  | true =>
    rw [q, if_pos rfl] at hf
    rw [evz_step (stfor (rgL_ev (evv rfl) ln) hf)]
    exact evz_end (stret (ev_k ..))
  | false =>
    rw [q, if_neg (by decide)] at hf
    exact evz_end (stfor (rgL_ev (evv rfl) ln) hf)
abbrev plBody : Cz := (.cons (.ite (.call 16 (.cons (.slH (.v 0) (.v 5)) .nil)) (.cons (.asg (.nm 4) (.v 5)) .nil) .nil) .nil)
def plR (s : Cs) (a b : Option D) (c : Option D) (x : Nat) (y : Option D) : Nv := [some (.p (.str s)), a, b, c, some (.p (.int (x : Int))), y]
theorem place_for {M : Mo} {s : Cs} {a b c : Option D} (hc : ∀ w S, w.length ≤ 10000 → M.call 16 [.p (.str w)] S = .ok (.p (.bl (begF w))) S) (hs : s.length ≤ 10000) : ∀ n ≤ s.length + 1, ∃ y, forI ⟨rgS 0 1 n, none⟩ (.nm 5) (evCz M plBody) (rgS 0 1 n) (plR s a b c 0 none) S = .nx (plR s a b c (placeF s n) y) S := fun n hn => by
  rw [show (Wk.mk (rgS 0 1 n) none) = Wk.mk (rgS 0 1 n) none from rfl]
  generalize hw : Wk.mk (rgS 0 1 n) none = w
  have hst : ∀ S, w.still S = true := fun S => by rw [← hw]; rfl
  rw [rgS01]
  have hl : ∀ ps x qs, List.range n = ps ++ x :: qs → ps.length = x ∧ x < n := fun ps x qs e => by
    have hlt : ps.length < n := by
      have := congrArg List.length e
      simp at this; omega
    have h2 : (List.range n)[ps.length]? = some x := by rw [e]; simp
    rw [List.getElem?_range hlt] at h2
    exact ⟨Option.some.inj h2, by have := Option.some.inj h2; omega⟩
  obtain ⟨ρ', S', e, hS, y, hρ⟩ := forI_list (w := w) (tg := .nm 5) (body := evCz M plBody) (ρ := plR s a b c 0 none) (S := S) (fun j : Nat => D.p (.int (j : Int))) (List.range n)
    (fun qs ρ S' => S' = S ∧ ∃ y, ρ = plR s a b c (placeF s qs.length) y) (fun ps x qs ρ S' e ⟨h1, y, h2⟩ => by
      subst h1 h2
      obtain ⟨hx, hxn⟩ := hl ps x qs e
      refine ⟨hst _, _, rfl, plR s a b c (placeF s (ps.length + 1)) (some (.p (.int (x : Int)))), S', .inl ?_, rfl, some (.p (.int (x : Int))), by rw [List.length_append]; rfl⟩
      show evCz M _ (plR s a b c (placeF s ps.length) (some (.p (.int (x : Int))))) S' = _
      have sl : evE M (.slH (.v 0) (.v 5)) (plR s a b c (placeF s ps.length) (some (.p (.int (x : Int))))) S' = .ok (.p (.str (s.take x))) S' := by
        rw [ev_slH, evv rfl, Res.bind_ok', evv rfl, Res.bind_ok', asInt_int]
        show ret1 (.str (cut _ _ _)) _ = _
        rw [cut_hi (by omega) (by omega), Int.toNat_natCast]; rfl
      have cl := hc (s.take x) S' (by rw [List.length_take]; omega)
      have ep : placeF s (ps.length + 1) = if begF (s.take x) then x else placeF s ps.length := by rw [← hx]; rfl
      rw [ep]
      cases q : begF (s.take x) with
      | true =>
        rw [q] at cl
        rw [if_pos rfl, evz_step (stif1 (ecall1 sl cl) ((evz_step (stasg (evv rfl) rfl)).trans (evz_nil ..))), evz_nil]
        rfl
      | false =>
        rw [q] at cl
        rw [if_neg (by decide), evz_step (stif0 (ecall1 sl cl)), evz_nil]) (fun _ _ _ => hst _) ⟨rfl, none, rfl⟩
  subst hS hρ
  rw [List.length_range] at e
  exact ⟨y, e⟩
theorem k01_due {s : Cs} (hs : s.length ≤ 10000) : k01C (k + 3) 17 [.p (.str s)] S = .ok (.p (dueF s)) S := by
  have hp := k01_lparts (k := k + 1) (S := S) hs
  have pl := partsF_len s
  have hN : (numsF s).length = (partsF s).length := by simp [numsF]
  have ln : bltI .len [.ref S.length] (S ++ [.pl ((partsF s).map .str)]) = .ok (.p (.int (partsF s).length)) (S ++ [.pl ((partsF s).map .str)]) := by rw [len_ref (ob_at ..) rfl]; simp [O.ds]
  have s1 : evC ⟨k01C (k + 2), glOf k01_gl⟩ (.asg (.nm 1) (.call 15 (.cons (.v 0) .nil))) [some (.p (.str s)), none, none, none, none, none] S = .nx [some (.p (.str s)), some (.ref S.length), none, none, none, none] (S ++ [.pl ((partsF s).map .str)]) := stasg (ecall1 (evv rfl) hp) rfl
  have lc : evE ⟨k01C (k + 2), glOf k01_gl⟩ (.lc [3] (.nm 3) (.rgL (.v 1)) (.call 14 (.cons (.ix (.v 1) (.v 3)) (.cons (.bin .Sub (.k (.int 999)) (.blt .int (.cons (.cmp .Eq (.v 3) (.k (.int 3))) .nil))) .nil)))) [some (.p (.str s)), some (.ref S.length), none, none, none, none] (S ++ [.pl ((partsF s).map .str)]) = .ok (.ref (S.length + 1)) (S ++ [.pl ((partsF s).map .str), .pl ((numsF s).map .int)]) := by
    have := lc_rg (M := ⟨k01C (k + 2), glOf k01_gl⟩) (own := [3]) (tg := .nm 3) (it := .rgL (.v 1)) (elt := .call 14 (.cons (.ix (.v 1) (.v 3)) (.cons (.bin .Sub (.k (.int 999)) (.blt .int (.cons (.cmp .Eq (.v 3) (.k (.int 3))) .nil))) .nil))) (ρ := [some (.p (.str s)), some (.ref S.length), none, none, none, none]) (S := S ++ [.pl ((partsF s).map .str)]) (n := (partsF s).length)
      (fun j => .int (numI (partsF s)[j]! (mx j))) (rgL_ev (evv rfl) ln) (by unfold LINE; omega) (fun j hj => ⟨_, rfl, fun l => by
        have := lnum_ev (S := S) (M := ⟨k01C (k + 2), glOf k01_gl⟩) (ρ := [some (.p (.str s)), some (.ref S.length), none, some (.p (.int (j : Int))), none, none]) (p := partsF s) (j := j) (l := l) (iL := 1) (iK := 3) (fun w m S => k01_lnum (k := k + 1) w m) rfl rfl hj
        rw [List.append_assoc]; exact this⟩)
    rw [this]
    simp [numsF]
  have s2 : evC ⟨k01C (k + 2), glOf k01_gl⟩ (.asg (.nm 2) (.lc [3] (.nm 3) (.rgL (.v 1)) (.call 14 (.cons (.ix (.v 1) (.v 3)) (.cons (.bin .Sub (.k (.int 999)) (.blt .int (.cons (.cmp .Eq (.v 3) (.k (.int 3))) .nil))) .nil))))) [some (.p (.str s)), some (.ref S.length), none, none, none, none] (S ++ [.pl ((partsF s).map .str)]) = .nx [some (.p (.str s)), some (.ref S.length), some (.ref (S.length + 1)), none, none, none] (S ++ [.pl ((partsF s).map .str), .pl ((numsF s).map .int)]) := stasg lc rfl
  have gN : ∀ xs : List PD, (S ++ [.pl ((partsF s).map .str), .pl xs])[S.length + 1]? = some (.pl xs) := fun xs => by simp
  have lnN : ∀ xs : List Int, bltI .len [.ref (S.length + 1)] (S ++ [.pl ((partsF s).map .str), .pl (xs.map .int)]) = .ok (.p (.int xs.length)) (S ++ [.pl ((partsF s).map .str), .pl (xs.map .int)]) := fun xs => by rw [len_ref (gN _) rfl]; simp [O.ds]
  have c1 : evE ⟨k01C (k + 2), glOf k01_gl⟩ (.cmp .Gt (.blt .len (.cons (.v 2) .nil)) (.k (.int 2))) [some (.p (.str s)), some (.ref S.length), some (.ref (S.length + 1)), none, none, none] (S ++ [.pl ((partsF s).map .str), .pl ((numsF s).map .int)]) = .ok (.p (.bl (decide (2 < (numsF s).length)))) (S ++ [.pl ((partsF s).map .str), .pl ((numsF s).map .int)]) :=
    ecmp (eblt1 (evv rfl) (lnN _)) (ev_k ..) (by rw [cmp_gt]; congr 3; rw [decide_eq_decide]; omega)
  have c2 : 2 < (numsF s).length → evE ⟨k01C (k + 2), glOf k01_gl⟩ (.cmp .GtE (.blt .min (.cons (.v 2) .nil)) (.k (.int 0))) [some (.p (.str s)), some (.ref S.length), some (.ref (S.length + 1)), none, none, none] (S ++ [.pl ((partsF s).map .str), .pl ((numsF s).map .int)]) = .ok (.p (.bl (decide (∀ x ∈ numsF s, 0 ≤ x)))) (S ++ [.pl ((partsF s).map .str), .pl ((numsF s).map .int)]) := fun h => by
    cases q : numsF s with
    | nil => rw [q] at h; simp at h
    | cons i r =>
      have mn : bltI .min [.ref (S.length + 1)] (S ++ [.pl ((partsF s).map .str), .pl ((i :: r).map .int)]) = .ok (.p (.int (r.foldl min i))) (S ++ [.pl ((partsF s).map .str), .pl ((i :: r).map .int)]) := by
        have hd : dataOf (.ref (S.length + 1)) (S ++ [.pl ((partsF s).map .str), .pl ((i :: r).map .int)]) = some ((i :: r).map .int) := by simp only [dataOf, gN]
        simp only [bltI, hd, intsOf_map]; rfl
      refine ecmp (eblt1 (evv rfl) mn) (ev_k ..) ?_
      rw [cmp_ge]; congr 3; rw [decide_eq_decide, fold_min]; simp
  have cc : evE ⟨k01C (k + 2), glOf k01_gl⟩ (.bo .And (.cons (.cmp .Gt (.blt .len (.cons (.v 2) .nil)) (.k (.int 2))) (.cons (.cmp .GtE (.blt .min (.cons (.v 2) .nil)) (.k (.int 0))) .nil))) [some (.p (.str s)), some (.ref S.length), some (.ref (S.length + 1)), none, none, none] (S ++ [.pl ((partsF s).map .str), .pl ((numsF s).map .int)]) = .ok (.p (.bl (decide (2 < (numsF s).length ∧ ∀ x ∈ numsF s, 0 ≤ x)))) (S ++ [.pl ((partsF s).map .str), .pl ((numsF s).map .int)]) := by
    by_cases h : 2 < (numsF s).length
    · rw [eand2 c1 (c2 h)]
      simp [h]
    · rw [decide_eq_false h] at c1
      rw [eand0 c1]
      simp [h]
  unfold dueF
  by_cases h : 2 < (numsF s).length ∧ ∀ x ∈ numsF s, 0 ≤ x
  · rw [decide_eq_true h] at cc
    rw [if_pos h]
    have c3 : evE ⟨k01C (k + 2), glOf k01_gl⟩ (.cmp .Eq (.blt .len (.cons (.v 2) .nil)) (.k (.int 3))) [some (.p (.str s)), some (.ref S.length), some (.ref (S.length + 1)), none, none, none] (S ++ [.pl ((partsF s).map .str), .pl ((numsF s).map .int)]) = .ok (.p (.bl (decide ((numsF s).length = 3)))) (S ++ [.pl ((partsF s).map .str), .pl ((numsF s).map .int)]) :=
      ecmp (eblt1 (evv rfl) (lnN _)) (ev_k ..) (by rw [eq_int]; congr 3; rw [decide_eq_decide]; omega)
    have s3 : evC ⟨k01C (k + 2), glOf k01_gl⟩ (.ite (.cmp .Eq (.blt .len (.cons (.v 2) .nil)) (.k (.int 3))) (.cons (.ex (.mth .append (.v 2) (.cons (.k (.int 999)) .nil))) .nil) .nil) [some (.p (.str s)), some (.ref S.length), some (.ref (S.length + 1)), none, none, none] (S ++ [.pl ((partsF s).map .str), .pl ((numsF s).map .int)]) =
        .nx [some (.p (.str s)), some (.ref S.length), some (.ref (S.length + 1)), none, none, none] (S ++ [.pl ((partsF s).map .str), .pl ((if (numsF s).length = 3 then numsF s ++ [999] else numsF s).map .int)]) := by
      by_cases h3 : (numsF s).length = 3
      · rw [decide_eq_true h3] at c3
        rw [if_pos h3]
        refine stif1 c3 ?_
        have ap : mthI .append (.ref (S.length + 1)) [.p (.int 999)] (S ++ [.pl ((partsF s).map .str), .pl ((numsF s).map .int)]) = .ok (.p .non) (S ++ [.pl ((partsF s).map .str), .pl ((numsF s ++ [999]).map .int)]) := by
          rw [app_at' (gN _) (by simp [LINE]; omega)]
          simp
        rw [evz_step (stex (d := .p .non) (S1 := S ++ [.pl ((partsF s).map .str), .pl ((numsF s ++ [999]).map .int)]) ?_), evz_nil]
        rw [ev_mth, evv rfl, Res.bind_ok', if_pos (recv_new (gN _) rfl rfl), es1 (ev_k ..) es0, Res.bind_ok', ap]
      · rw [decide_eq_false h3] at c3
        rw [if_neg h3]
        exact stif0 c3
    refine call_of (e := k01_E_law_due) rfl rfl (runB_rt (S' := S ++ [.pl ((partsF s).map .str), .pl ((if (numsF s).length = 3 then numsF s ++ [999] else numsF s).map .int)]) (d := .p (.tup [.str sRead, .tup ((if (numsF s).length = 3 then numsF s ++ [999] else numsF s).map .int)])) ?_ (tidy_pa _ _))
    show evCz ⟨k01C (k + 2), glOf k01_gl⟩ k01_law_due.body [some (.p (.str s)), none, none, none, none, none] S = _
    unfold k01_law_due
    dsimp only
    rw [evz_step s1, evz_step s2]
    refine evz_end (stif1 cc ?_)
    rw [evz_step s3]
    refine evz_end (stret ?_)
    have tp := tuple_ev (d := .ref (S.length + 1)) (S := S ++ [.pl ((partsF s).map .str), .pl ((if (numsF s).length = 3 then numsF s ++ [999] else numsF s).map .int)]) (xs := (if (numsF s).length = 3 then numsF s ++ [999] else numsF s).map .int) (by simp only [dataOf, gN])
    rw [ev_tp, es1 (ev_k ..) (es1 (eblt1 (evv rfl) tp) es0)]
    rfl
  · rw [decide_eq_false h] at cc
    rw [if_neg h]
    refine call_of (e := k01_E_law_due) rfl rfl (runB_rt (S' := S ++ [.pl ((partsF s).map .str), .pl ((numsF s).map .int)]) (d := .p (.tup [.str sRef, .str wVer, .int (placeF s (s.length + 1) : Nat)])) ?_ (tidy_pa _ _))
    show evCz ⟨k01C (k + 2), glOf k01_gl⟩ k01_law_due.body [some (.p (.str s)), none, none, none, none, none] S = _
    unfold k01_law_due
    dsimp only
    rw [evz_step s1, evz_step s2, evz_step (stif0 cc), evz_step (stasg (ρ1 := plR s (some (.ref S.length)) (some (.ref (S.length + 1))) none 0 none) (ev_k ..) rfl)]
    obtain ⟨y, hf⟩ := place_for (S := S ++ [.pl ((partsF s).map .str), .pl ((numsF s).map .int)]) (M := ⟨k01C (k + 2), glOf k01_gl⟩) (s := s) (a := some (.ref S.length)) (b := some (.ref (S.length + 1))) (c := none) (fun w S hw => k01_begins (k := k) hw) hs (s.length + 1) (Nat.le_refl _)
    have rg : evW ⟨k01C (k + 2), glOf k01_gl⟩ (.rg1 (.bin .Add (.blt .len (.cons (.v 0) .nil)) (.k (.int 1)))) (plR s (some (.ref S.length)) (some (.ref (S.length + 1))) none 0 none) (S ++ [.pl ((partsF s).map .str), .pl ((numsF s).map .int)]) = .ok ⟨rgS 0 1 (s.length + 1), none⟩ (S ++ [.pl ((partsF s).map .str), .pl ((numsF s).map .int)]) :=
      rg1_nat (n := s.length + 1) (ebin (eblt1 (evv rfl) (len_str ..)) (ev_k ..) (by rw [bin_add]; rfl)) (by omega)
    rw [evz_step (stfor rg hf)]
    refine evz_end (stret ?_)
    rw [ev_tp, es1 (ev_k ..) (es1 (ev_k ..) (es1 (evv rfl) es0))]
    rfl
end
end PH

set_option maxHeartbeats 8000000
namespace PH
open L2 PySem PySem.Spec PyProof.Rows
/-! ### the texts of versions, sign by sign -/
abbrev St1 := List Int × Option Int
def step1 (st : St1) (c : Nat) : Option St1 := if dg c then (stp (mx st.1.length) st.2 c).map fun n => (st.1, some n)
  else match st.2 with
    | none => none
    | some n => if (c = 46 ∧ st.1.length < 2) ∨ (c = 45 ∧ st.1.length = 2) then some (st.1 ++ [n], none) else none
def scan1 : St1 → Nat → Cs → Nat × St1 × Bool
  | st, p, [] => (p, st, true)
  | st, p, c :: w => match step1 st c with
    | none => (p, st, false)
    | some st' => scan1 st' (p + 1) w
def A1 : St1 → Cs → Option St1
  | st, [] => some st
  | st, c :: w => (step1 st c).bind fun st' => A1 st' w
def fin4 (ds : List Int) (n : Int) : Q4 := match ds with
  | [a, b] => (a, b, n, 999)
  | [a, b, c] => (a, b, c, n)
  | _ => (0, 0, 0, 0)
def res1 (r : Nat × St1 × Bool) : Pr := match r with
  | (p, (ds, some n), true) => if 2 ≤ ds.length then .inr (fin4 ds n) else .inl p
  | (p, _, _) => .inl p
/-- no digit stands at the head -/
def ND (w : Cs) : Prop := ∀ c r, w = c :: r → dg c = false
section
variable {t : Cs} {ds : List Int} {p : Nat} {n : Int}
theorem numP_scan : ∀ (w : Cs) (v : Option Int) (p : Nat), t.drop p = w →
    ((numP (mx ds.length) v p w).2.2 = true → scan1 (ds, v) p w = ((numP (mx ds.length) v p w).1, (ds, (numP (mx ds.length) v p w).2.1), false)) ∧
    ((numP (mx ds.length) v p w).2.2 = false → scan1 (ds, v) p w = scan1 (ds, (numP (mx ds.length) v p w).2.1) (numP (mx ds.length) v p w).1 (t.drop (numP (mx ds.length) v p w).1) ∧ ND (t.drop (numP (mx ds.length) v p w).1))
  | [], v, p, h => by
    refine ⟨fun z => by simp [numP] at z, fun _ => ?_⟩
    simp only [numP]
    rw [h]
    exact ⟨rfl, fun c r z => by cases z⟩
  | c :: w, v, p, h => by
    cases hd : dg c with
    | false =>
      have e : numP (mx ds.length) v p (c :: w) = (p, v, false) := by simp [numP, hd]
      rw [e]
      refine ⟨fun z => (nomatch z), fun _ => ?_⟩
      rw [h]
      exact ⟨rfl, fun c' r z => by cases z; exact hd⟩
    | true =>
      cases q : stp (mx ds.length) v c with
      | none =>
        have e : numP (mx ds.length) v p (c :: w) = (p, v, true) := by simp [numP, hd, q]
        rw [e]
        refine ⟨fun _ => ?_, fun z => by cases z⟩
        simp [scan1, step1, hd, q]
      | some i =>
        have e : numP (mx ds.length) v p (c :: w) = numP (mx ds.length) (some i) (p + 1) w := by simp [numP, hd, q]
        have e2 : scan1 (ds, v) p (c :: w) = scan1 (ds, some i) (p + 1) w := by simp [scan1, step1, hd, q]
        rw [e, e2]
        exact numP_scan w (some i) (p + 1) (drop_cons h).1
theorem step_nd {w : Cs} {c : Nat} (h : dg c = false) : step1 (ds, none) c = none := by simp [step1, h]
theorem numK_scan {most : Int} {f : Int → Nat → Pr} (hm : most = mx ds.length) (g : ∀ n p', ND (t.drop p') → f n p' = res1 (scan1 (ds, some n) p' (t.drop p'))) : numK most t p f = res1 (scan1 (ds, none) p (t.drop p)) := by
  subst hm
  obtain ⟨h1, h2⟩ := numP_scan (t := t) (ds := ds) (t.drop p) none p rfl
  unfold numK
  generalize numP (mx ds.length) none p (t.drop p) = r at h1 h2 ⊢
  obtain ⟨p', v, bad⟩ := r
  dsimp only at h1 h2 ⊢
  cases bad with
  | true => rw [if_pos (.inl rfl), h1 rfl]; cases v <;> rfl
  | false =>
    obtain ⟨e, nd⟩ := h2 rfl
    rw [e]
    cases v with
    | none =>
      rw [if_pos (.inr rfl)]
      cases q : t.drop p' with
      | nil => rfl
      | cons c w => simp only [scan1, step_nd (w := w) (nd c w q)]; rfl
    | some i =>
      rw [if_neg (by rintro (z | z) <;> cases z)]
      exact g i p' nd
theorem takK_scan {f : Nat → Pr} (hl : ds.length < 2) (nd : ND (t.drop p)) (g : f (p + 1) = res1 (scan1 (ds ++ [n], none) (p + 1) (t.drop (p + 1)))) : takK 46 t p f = res1 (scan1 (ds, some n) p (t.drop p)) := by
  unfold takK
  cases q : t.drop p with
  | nil =>
    rw [if_neg (by simp)]
    simp only [scan1, res1, if_neg (show ¬ 2 ≤ ds.length by omega)]
  | cons c w =>
    have hd := nd c w q
    by_cases hc : c = 46
    · subst hc
      rw [if_pos (by simp), g, (drop_cons q).1]
      have e : step1 (ds, some n) 46 = some (ds ++ [n], none) := by simp [step1, hd, hl]
      simp only [scan1, e]
    · rw [if_neg (by simp [hc])]
      have e : step1 (ds, some n) c = none := by
        have h2 : ¬ ds.length = 2 := by omega
        simp [step1, hd, hc, h2]
      simp only [scan1, e]; rfl
theorem endK_scan {x : Q4} (hl : 2 ≤ ds.length) (nd : ND (t.drop p)) (hx : x = fin4 ds n) (h2 : (t.drop p).take 1 ≠ [45] ∨ ds.length = 3) : endK t p x = res1 (scan1 (ds, some n) p (t.drop p)) := by
  unfold endK
  cases q : t.drop p with
  | nil => rw [if_pos rfl, hx]; simp only [scan1, res1, if_pos hl]
  | cons c w =>
    rw [if_neg (by simp)]
    have hd := nd c w q
    have e : step1 (ds, some n) c = none := by
      have h3 : ¬ ((c = 46 ∧ ds.length < 2) ∨ (c = 45 ∧ ds.length = 2)) := by
        rintro (⟨_, z⟩ | ⟨z, z'⟩)
        · omega
        · rcases h2 with h2 | h2
          · rw [q, z] at h2; exact h2 rfl
          · omega
      show (if dg c then _ else if _ then _ else none) = none
      rw [hd, if_neg (by decide), if_neg h3]
    simp only [scan1, e]; rfl
end
theorem parse_scan (t : Cs) : parseF t = res1 (scan1 ([], none) 0 t) := by
  have e0 : t = t.drop 0 := rfl
  conv => rhs; rw [e0]
  unfold parseF
  refine numK_scan (ds := []) rfl fun a p1 nd1 => ?_
  refine takK_scan (ds := []) (by decide) nd1 ?_
  refine numK_scan (ds := [a]) rfl fun b p2 nd2 => ?_
  refine takK_scan (ds := [a]) (by show 1 < 2; decide) nd2 ?_
  refine numK_scan (ds := [a, b]) rfl fun c p3 nd3 => ?_
  by_cases h : (t.drop p3).take 1 = [45]
  · rw [if_pos h]
    cases q : t.drop p3 with
    | nil => rw [q] at h; cases h
    | cons d w =>
      rw [q] at h
      have hd : d = 45 := by simpa using h
      subst hd
      have e : step1 ([a, b], some c) 45 = some ([a, b, c], none) := rfl
      simp only [scan1, e]
      rw [← (drop_cons q).1]
      refine numK_scan (ds := [a, b, c]) rfl fun e p4 nd4 => ?_
      exact endK_scan (ds := [a, b, c]) (by show 2 ≤ 3; decide) nd4 rfl (.inr rfl)
  · rw [if_neg h]
    exact endK_scan (ds := [a, b]) (by show 2 ≤ 2; decide) nd3 rfl (.inl h)
/-! ### beginnings -/
theorem A1_app : ∀ (x y : Cs) (st : St1), A1 st (x ++ y) = (A1 st x).bind fun st' => A1 st' y
  | [], y, st => rfl
  | c :: x, y, st => by
    show (step1 st c).bind (fun st' => A1 st' (x ++ y)) = ((step1 st c).bind fun st' => A1 st' x).bind fun st' => A1 st' y
    cases step1 st c with
    | none => rfl
    | some st' => exact A1_app x y st'
theorem scan_A1 : ∀ (w : Cs) (st : St1) (p : Nat), ∃ k, k ≤ w.length ∧ (scan1 st p w).1 = p + k ∧ A1 st (w.take k) = some (scan1 st p w).2.1 ∧ ((scan1 st p w).2.2 = true ↔ k = w.length) ∧ ∀ j, j ≤ w.length → ((A1 st (w.take j)).isSome = true ↔ j ≤ k)
  | [], st, p => ⟨0, Nat.le_refl _, rfl, rfl, by simp [scan1], fun j hj => by simp at hj; subst hj; simp [A1]⟩
  | c :: w, st, p => by
    cases q : step1 st c with
    | none =>
      refine ⟨0, Nat.zero_le _, by simp [scan1, q], by simp [scan1, q, A1], by simp [scan1, q], fun j hj => ?_⟩
      cases j with
      | zero => simp [A1]
      | succ j => simp [A1, q]
    | some st' =>
      obtain ⟨k, h1, h2, h3, h4, h5⟩ := scan_A1 w st' (p + 1)
      have e : scan1 st p (c :: w) = scan1 st' (p + 1) w := by simp [scan1, q]
      rw [e]
      refine ⟨k + 1, by simp; omega, by omega, by simp [A1, q, h3], by simp [h4], fun j hj => ?_⟩
      cases j with
      | zero => simp [A1]
      | succ j =>
        have := h5 j (by simpa using hj)
        simp [A1, q, this]
def dig (most : Int) : Option Int → Cs → Option (Option Int)
  | v, [] => some v
  | v, c :: w => if dg c then (stp most v c).bind fun n => dig most (some n) w else none
theorem A1_word {ds : List Int} : ∀ (w : Cs) (v : Option Int), (∀ c ∈ w, dg c = false → ∀ u, step1 (ds, u) c = none) → A1 (ds, v) w = (dig (mx ds.length) v w).map fun u => (ds, u)
  | [], v, _ => rfl
  | c :: w, v, h => by
    cases hd : dg c with
    | false =>
      have := h c (by simp) hd v
      simp [A1, this, dig, hd]
    | true =>
      have ih := fun n => A1_word w (some n) fun c hc => h c (by simp [hc])
      cases q : stp (mx ds.length) v c with
      | none => simp [A1, step1, dig, hd, q]
      | some n => simp [A1, step1, dig, hd, q, ih]
theorem step_dot {ds : List Int} {n : Int} (h : ds.length < 2) : step1 (ds, some n) 46 = some (ds ++ [n], none) := by
  show (if _ then _ else if _ then _ else none) = _
  rw [if_neg (by decide), if_pos (.inl ⟨rfl, h⟩)]
theorem step_dash {ds : List Int} {n : Int} (h : ds.length = 2) : step1 (ds, some n) 45 = some (ds ++ [n], none) := by
  show (if _ then _ else if _ then _ else none) = _
  rw [if_neg (by decide), if_pos (.inr ⟨rfl, h⟩)]
theorem step_no {ds : List Int} {u : Option Int} {c : Nat} (h : dg c = false) (h2 : ¬ ((c = 46 ∧ ds.length < 2) ∨ (c = 45 ∧ ds.length = 2))) : step1 (ds, u) c = none := by
  show (if dg c = true then _ else _) = _
  rw [h, if_neg (by decide)]
  cases u with
  | none => rfl
  | some n => exact if_neg h2
/-- what a part is worth -/
def toN : Option (Option Int) → Int
  | some (some n) => n
  | _ => -1
theorem A1_part {ds : List Int} {w r : Cs} {c : Nat} (hw : ∀ c ∈ w, dg c = false → ∀ u, step1 (ds, u) c = none) (hc : ∀ n, step1 (ds, some n) c = some (ds ++ [n], none)) (hd : dg c = false) : A1 (ds, none) (w ++ c :: r) = match dig (mx ds.length) none w with
    | some (some n) => A1 (ds ++ [n], none) r
    | _ => none := by
  rw [A1_app, A1_word w none hw]
  cases dig (mx ds.length) none w with
  | none => rfl
  | some u =>
    cases u with
    | none => simp [A1, step1, hd]
    | some n => simp [A1, hc]
theorem A1_dots {w : Cs} : ∀ (w : Cs) (st : St1), 46 ∈ w → 2 ≤ st.1.length → A1 st w = none
  | [], st, h, _ => by cases h
  | c :: w, st, h, hl => by
    obtain ⟨ds, v⟩ := st
    cases q : step1 (ds, v) c with
    | none => simp [A1, q]
    | some st' =>
      have hl' : 2 ≤ ds.length := hl
      have hst : 2 ≤ st'.1.length ∧ c ≠ 46 := by
        unfold step1 at q
        cases hd : dg c with
        | true =>
          rw [hd, if_pos rfl] at q
          obtain ⟨n, _, e⟩ := Option.map_eq_some_iff.mp q
          subst e
          refine ⟨hl, fun z => ?_⟩
          subst z
          exact absurd hd (by decide)
        | false =>
          rw [hd, if_neg (by decide)] at q
          cases v with
          | none => cases q
          | some n =>
            dsimp only at q
            split at q
            · rename_i hc
              cases q
              refine ⟨by show 2 ≤ (ds ++ [n]).length; simp; omega, fun z => ?_⟩
              rcases hc with hc | hc
              · have := hc.2; omega
              · omega
            · cases q
      have hm : 46 ∈ w := by
        rcases List.mem_cons.mp h with z | z
        · exact absurd z.symm hst.2
        · exact z
      simp [A1, q, A1_dots (w := w) w st' hm hst.1]
end PH

set_option maxHeartbeats 8000000
namespace PH
open L2 PySem PySem.Spec PyProof.Rows
/-! ### the law's reading, part by part -/
theorem dI_b {c : Nat} (h : dg c = true) : 0 ≤ dI c ∧ dI c ≤ 9 ∧ (dI c = 0 ↔ c = 48) := by
  unfold dg at h
  simp only [Bool.and_eq_true, decide_eq_true_eq] at h
  unfold dI; omega
theorem stp_none {most : Int} {c : Nat} (hm : 9 ≤ most) (h : dg c = true) : stp most none c = some (dI c) := by
  have := dI_b h
  unfold stp
  rw [if_neg]
  · simp
  · rintro (z | z)
    · cases z
    · simp at z; omega
theorem stp_some {most n : Int} {c : Nat} (h : n ≠ 0) : stp most (some n) c = if n * 10 + dI c > most then none else some (n * 10 + dI c) := by
  unfold stp
  by_cases h1 : n * 10 + dI c > most
  · rw [if_pos (.inr h1), if_pos h1]
  · rw [if_neg (by rintro (z | z); exact h (Option.some.inj z); exact h1 z), if_neg h1]; rfl
theorem stp_zero {most : Int} {c : Nat} : stp most (some 0) c = none := by unfold stp; rw [if_pos (.inl rfl)]
theorem dig_nn {most : Int} : ∀ (w : Cs) (v : Option Int), (∀ i, v = some i → 0 ≤ i) → ∀ n, dig most v w = some (some n) → 0 ≤ n
  | [], v, hv, n, h => by simp [dig] at h; exact hv n h
  | c :: w, v, hv, n, h => by
    unfold dig at h
    split at h
    · rename_i hd
      cases q : stp most v c with
      | none => rw [q] at h; cases h
      | some i =>
        rw [q] at h
        refine dig_nn w (some i) (fun j hj => ?_) n h
        cases hj
        unfold stp at q
        split at q
        · cases q
        · have := (dI_b hd).1
          have e := Option.some.inj q
          cases v with
          | none => simp at e; omega
          | some u => have := hv u rfl; simp at e; omega
    · cases h
theorem dig_some {most : Int} : ∀ (w : Cs) (i : Int), dig most (some i) w = none ∨ ∃ n, dig most (some i) w = some (some n)
  | [], i => .inr ⟨i, rfl⟩
  | c :: w, i => by
    unfold dig
    split
    · cases stp most (some i) c with
      | none => exact .inl rfl
      | some n => exact dig_some w n
    · exact .inl rfl
theorem num_dig {most : Int} (hm : 9 ≤ most) (h99 : 99 ≤ most) (h999 : most < 1000) (w : Cs) : numI w most = toN (dig most none w) := by
  match w with
  | [] => rfl
  | [a] =>
    cases ha : dg a with
    | false => simp [numI, badL, dfold, dig, ha, toN]
    | true =>
      have := dI_b ha
      simp only [numI, badL, dfold, dig, ha, if_true, stp_none hm ha, Option.bind_some, toN]
      simp
      omega
  | [a, b] =>
    cases ha : dg a with
    | false =>
      have : dig most none [a, b] = none := by simp [dig, ha]
      rw [this]
      simp [numI, dfold, ha, toN]
    | true =>
      have h1 := dI_b ha
      by_cases h0 : a = 48
      · have e : dig most none [a, b] = none := by
          simp only [dig, ha, if_true, stp_none hm ha, Option.bind_some, h1.2.2.mpr h0, stp_zero, Option.bind_none]
          split <;> rfl
        rw [e]
        simp [numI, badL, h0, toN]
      · have hn : dI a ≠ 0 := fun z => h0 (h1.2.2.mp z)
        cases hb : dg b with
        | false =>
          have e : dig most none [a, b] = none := by simp [dig, ha, hb, stp_none hm ha]
          rw [e]
          simp [numI, badL, dfold, ha, hb, toN]
        | true =>
          have h2 := dI_b hb
          have e : dig most none [a, b] = some (some (dI a * 10 + dI b)) := by
            simp only [dig, ha, hb, if_true, stp_none hm ha, Option.bind_some, stp_some hn, if_neg (show ¬ dI a * 10 + dI b > most by omega)]
          rw [e]
          simp [numI, badL, dfold, ha, hb, toN, h0]
          omega
  | [a, b, c] =>
    cases ha : dg a with
    | false =>
      have : dig most none [a, b, c] = none := by simp [dig, ha]
      rw [this]
      simp [numI, dfold, ha, toN]
    | true =>
      have h1 := dI_b ha
      by_cases h0 : a = 48
      · have e : dig most none [a, b, c] = none := by
          simp only [dig, ha, if_true, stp_none hm ha, Option.bind_some, h1.2.2.mpr h0, stp_zero, Option.bind_none]
          split <;> rfl
        rw [e]
        simp [numI, badL, h0, toN]
      · have hn : dI a ≠ 0 := fun z => h0 (h1.2.2.mp z)
        cases hb : dg b with
        | false =>
          have e : dig most none [a, b, c] = none := by simp [dig, ha, hb, stp_none hm ha]
          rw [e]
          simp [numI, badL, dfold, ha, hb, toN]
        | true =>
          have h2 := dI_b hb
          cases hc : dg c with
          | false =>
            have e : dig most none [a, b, c] = none := by
              simp only [dig, ha, hb, hc, if_true, stp_none hm ha, Option.bind_some, stp_some hn, if_neg (show ¬ dI a * 10 + dI b > most by omega)]
              rfl
            rw [e]
            simp [numI, badL, dfold, ha, hb, hc, toN]
          | true =>
            have h3 := dI_b hc
            have e : dig most none [a, b, c] = if (dI a * 10 + dI b) * 10 + dI c > most then none else some (some ((dI a * 10 + dI b) * 10 + dI c)) := by
              simp only [dig, ha, hb, hc, if_true, stp_none hm ha, Option.bind_some, stp_some hn, if_neg (show ¬ dI a * 10 + dI b > most by omega), stp_some (show dI a * 10 + dI b ≠ 0 by omega)]
              split <;> rfl
            rw [e]
            by_cases hg : (dI a * 10 + dI b) * 10 + dI c > most
            · rw [if_pos hg]
              simp [numI, badL, dfold, ha, hb, hc, toN, h0]
              omega
            · rw [if_neg hg]
              simp [numI, badL, dfold, ha, hb, hc, toN, h0]
              omega
  | a :: b :: c :: d :: r =>
    have bl : badL (a :: b :: c :: d :: r) = true := by simp [badL]
    have e : dig most none (a :: b :: c :: d :: r) = none := by
      cases ha : dg a with
      | false => simp [dig, ha]
      | true =>
        have h1 := dI_b ha
        by_cases h0 : a = 48
        · simp only [dig, ha, if_true, stp_none hm ha, Option.bind_some, h1.2.2.mpr h0, stp_zero, Option.bind_none]
          split <;> rfl
        · have hn : dI a ≠ 0 := fun z => h0 (h1.2.2.mp z)
          cases hb : dg b with
          | false => simp [dig, ha, hb, stp_none hm ha]
          | true =>
            have h2 := dI_b hb
            cases hc : dg c with
            | false =>
              simp only [dig, ha, hb, hc, if_true, stp_none hm ha, Option.bind_some, stp_some hn, if_neg (show ¬ dI a * 10 + dI b > most by omega)]
              rfl
            | true =>
              have h3 := dI_b hc
              by_cases hg : (dI a * 10 + dI b) * 10 + dI c > most
              · simp only [dig, ha, hb, hc, if_true, stp_none hm ha, Option.bind_some, stp_some hn, if_neg (show ¬ dI a * 10 + dI b > most by omega), stp_some (show dI a * 10 + dI b ≠ 0 by omega), if_pos hg, Option.bind_none]
              · cases hd : dg d with
                | false =>
                  simp only [dig, ha, hb, hc, hd, if_true, stp_none hm ha, Option.bind_some, stp_some hn, if_neg (show ¬ dI a * 10 + dI b > most by omega), stp_some (show dI a * 10 + dI b ≠ 0 by omega), if_neg hg]
                  rfl
                | true =>
                  have h4 := dI_b hd
                  simp only [dig, ha, hb, hc, hd, if_true, stp_none hm ha, Option.bind_some, stp_some hn, if_neg (show ¬ dI a * 10 + dI b > most by omega), stp_some (show dI a * 10 + dI b ≠ 0 by omega), if_neg hg, stp_some (show (dI a * 10 + dI b) * 10 + dI c ≠ 0 by omega), if_pos (show ((dI a * 10 + dI b) * 10 + dI c) * 10 + dI d > most by omega), Option.bind_none]
    rw [e]
    simp [numI, bl, toN]
theorem mx_b (k : Nat) : 9 ≤ mx k ∧ 99 ≤ mx k ∧ mx k < 1000 := by unfold mx; split <;> omega
theorem cases3 (w : Cs) (k : Nat) : (dig (mx k) none w = none ∧ numI w (mx k) = -1 ∧ w ≠ []) ∨ (dig (mx k) none w = some none ∧ numI w (mx k) = -1 ∧ w = []) ∨ ∃ n, dig (mx k) none w = some (some n) ∧ numI w (mx k) = n ∧ 0 ≤ n ∧ w ≠ [] := by
  obtain ⟨m1, m2, m3⟩ := mx_b k
  have e := num_dig m1 m2 m3 w
  cases w with
  | nil => exact .inr (.inl ⟨rfl, e, rfl⟩)
  | cons c w =>
    have hx : dig (mx k) none (c :: w) = none ∨ ∃ n, dig (mx k) none (c :: w) = some (some n) := by
      unfold dig
      split
      · cases stp (mx k) none c with
        | none => exact .inl rfl
        | some n => exact dig_some w n
      · exact .inl rfl
    rcases hx with hx | ⟨n, hx⟩
    · exact .inl ⟨hx, by rw [e, hx]; rfl, by simp⟩
    · exact .inr (.inr ⟨n, hx, by rw [e, hx]; rfl, dig_nn (c :: w) none (fun i z => nomatch z) n hx, by simp⟩)
def Rp : List Int → List Cs → Option St1
  | _, [] => none
  | ds, [w] => (dig (mx ds.length) none w).map fun u => (ds, u)
  | ds, w :: w2 :: r => match dig (mx ds.length) none w with
    | some (some n) => Rp (ds ++ [n]) (w2 :: r)
    | _ => none
def begR : Nat → List Cs → Bool
  | _, [] => true
  | k, [w] => !(decide (numI w (mx k) < 0) && !decide (w = []))
  | k, w :: w2 :: r => !decide (numI w (mx k) < 0) && begR (k + 1) (w2 :: r)
def numsR : Nat → List Cs → List Int
  | _, [] => []
  | k, w :: r => numI w (mx k) :: numsR (k + 1) r
theorem R_beg : ∀ (P : List Cs) (ds : List Int), P ≠ [] → begR ds.length P = (Rp ds P).isSome
  | [], _, h => absurd rfl h
  | [w], ds, _ => by
    rcases cases3 w ds.length with ⟨h1, h2, h3⟩ | ⟨h1, h2, h3⟩ | ⟨n, h1, h2, h3, h4⟩
    · simp [begR, Rp, h1, h2, h3]
    · subst h3; simp [begR, Rp, dig]
    · simp [begR, Rp, h1, h2, h4]; omega
  | w :: w2 :: r, ds, _ => by
    rcases cases3 w ds.length with ⟨h1, h2, h3⟩ | ⟨h1, h2, h3⟩ | ⟨n, h1, h2, h3, h4⟩
    · simp [begR, Rp, h1, h2]
    · simp [begR, Rp, h1, h2]
    · have ih := R_beg (w2 :: r) (ds ++ [n]) (by simp)
      rw [List.length_append, List.length_singleton] at ih
      simp only [begR, Rp, h1, h2]
      rw [decide_eq_false (by omega), ← ih]; rfl
theorem R_nums : ∀ (P : List Cs) (ds : List Int), P ≠ [] → ((∀ x ∈ numsR ds.length P, 0 ≤ x) ↔ ∃ ds' n, Rp ds P = some (ds', some n)) ∧ ∀ ds' n, Rp ds P = some (ds', some n) → ds ++ numsR ds.length P = ds' ++ [n]
  | [], _, h => absurd rfl h
  | [w], ds, _ => by
    rcases cases3 w ds.length with ⟨h1, h2, h3⟩ | ⟨h1, h2, h3⟩ | ⟨n, h1, h2, h3, h4⟩
    · simp [numsR, Rp, h1, h2]
    · simp [numsR, Rp, h1, h2]
    · refine ⟨⟨fun _ => ⟨ds, n, by simp [Rp, h1]⟩, fun _ => by simp [numsR, h2]; exact h3⟩, fun ds' n' h => ?_⟩
      simp [Rp, h1] at h
      obtain ⟨rfl, rfl⟩ := h
      simp [numsR, h2]
  | w :: w2 :: r, ds, _ => by
    rcases cases3 w ds.length with ⟨h1, h2, h3⟩ | ⟨h1, h2, h3⟩ | ⟨n, h1, h2, h3, h4⟩
    · simp [numsR, Rp, h1, h2]
    · simp [numsR, Rp, h1, h2]
    · obtain ⟨i1, i2⟩ := R_nums (w2 :: r) (ds ++ [n]) (by simp)
      rw [List.length_append, List.length_singleton] at i1 i2
      have e : Rp ds (w :: w2 :: r) = Rp (ds ++ [n]) (w2 :: r) := by simp [Rp, h1]
      have en : numsR ds.length (w :: w2 :: r) = n :: numsR (ds.length + 1) (w2 :: r) := by rw [numsR, h2]
      rw [e, en]
      refine ⟨?_, fun ds' n' h => ?_⟩
      · rw [← i1, List.forall_mem_cons]
        exact ⟨fun h => h.2, fun h => ⟨h3, h⟩⟩
      · have := i2 ds' n' h
        rw [List.append_assoc] at this
        exact this
theorem beg_range (P : List Cs) : ∀ (Q pre : List Cs), P = pre ++ Q → (List.range' pre.length Q.length).all (okB P) = begR pre.length Q
  | [], pre, h => rfl
  | [w], pre, h => by
    have e : P[pre.length]! = w := by rw [h]; simp
    have hl : (P.length : Int) - 1 = pre.length := by rw [h]; simp
    simp only [List.length_cons, List.length_nil, List.range'_succ, List.range'_zero, List.all_cons, List.all_nil, Bool.and_true, begR, okB, e, hl]
    simp
  | w :: w2 :: r, pre, h => by
    have e : P[pre.length]! = w := by rw [h]; simp
    have hl : (pre.length : Int) < (P.length : Int) - 1 := by rw [h]; simp; omega
    have ih := beg_range P (w2 :: r) (pre ++ [w]) (by rw [h]; simp)
    rw [List.length_append, List.length_singleton] at ih
    rw [List.length_cons, List.range'_succ, List.all_cons]
    show (okB P pre.length && _) = (!decide (numI w (mx pre.length) < 0) && begR (pre.length + 1) (w2 :: r))
    rw [← ih]
    congr 1
    unfold okB
    rw [e, decide_eq_true hl, Bool.or_true, Bool.and_true]
theorem nums_range (P : List Cs) : ∀ (Q pre : List Cs), P = pre ++ Q → (List.range' pre.length Q.length).map (fun k => numI P[k]! (mx k)) = numsR pre.length Q
  | [], pre, h => rfl
  | w :: r, pre, h => by
    have e : P[pre.length]! = w := by rw [h]; simp
    have ih := nums_range P r (pre ++ [w]) (by rw [h]; simp)
    rw [List.length_append, List.length_singleton] at ih
    rw [List.length_cons, List.range'_succ, List.map_cons, e, numsR]
    congr 1
theorem beg_of (s : Cs) : begF s = begR 0 (partsF s) := by
  have := beg_range (partsF s) (partsF s) [] rfl
  unfold begF
  rw [List.range_eq_range']; exact this
theorem nums_of (s : Cs) : numsF s = numsR 0 (partsF s) := by
  have := nums_range (partsF s) (partsF s) [] rfl
  unfold numsF
  rw [List.range_eq_range']; exact this
/-! ### the parts, by the points -/
theorem spl_word : ∀ (w acc : Cs), 46 ∉ w → TL.spl [46] 0 acc w = [acc ++ w]
  | [], acc, _ => by rw [TL.spl_nil]; simp
  | c :: w, acc, h => by
    have hc : c ≠ 46 := fun z => h (by rw [z]; simp)
    rw [spl_cons, if_neg hc, spl_word w _ (fun z => h (by simp [z]))]; simp
theorem spl_part : ∀ (w acc r : Cs), 46 ∉ w → TL.spl [46] 0 acc (w ++ 46 :: r) = (acc ++ w) :: ps r
  | [], acc, r, _ => by
    show TL.spl [46] 0 acc (46 :: r) = _
    rw [spl_cons, if_pos rfl]; simp [ps]
  | c :: w, acc, r, h => by
    have hc : c ≠ 46 := fun z => h (by rw [z]; simp)
    show TL.spl [46] 0 acc (c :: (w ++ 46 :: r)) = _
    rw [spl_cons, if_neg hc, spl_part w _ r (fun z => h (by simp [z]))]; simp
theorem first_of {s : Cs} {c : Nat} (h : c ∈ s) : ∃ w r, s = w ++ c :: r ∧ c ∉ w := by
  induction s with
  | nil => cases h
  | cons d s ih =>
    by_cases e : d = c
    · exact ⟨[], s, by rw [e]; rfl, by simp⟩
    · have : c ∈ s := by
        rcases List.mem_cons.mp h with z | z
        · exact absurd z.symm e
        · exact z
      obtain ⟨w, r, h1, h2⟩ := ih this
      exact ⟨d :: w, r, by rw [h1]; rfl, by simp [h2]; exact fun z => e z.symm⟩
theorem ps_len (s : Cs) : 0 < (ps s).length := (spl_lenk s []).2
theorem A_ref (s : Cs) : (partsF s ≠ []) ∧ A1 ([], none) s = Rp [] (partsF s) := by
  have nd : ∀ {ds : List Int} {w : Cs} (h1 : 46 ∉ w ∨ 2 ≤ ds.length) (h2 : ds.length ≠ 2 ∨ 45 ∉ w), ∀ c ∈ w, dg c = false → ∀ u, step1 (ds, u) c = none := fun {ds w} h1 h2 c hc hd u => step_no hd (by
    rintro (⟨rfl, z⟩ | ⟨rfl, z⟩)
    · rcases h1 with h1 | h1
      · exact h1 hc
      · omega
    · rcases h2 with h2 | h2
      · exact h2 z
      · exact h2 hc)
  by_cases h : 46 ∈ s
  · obtain ⟨w0, s1, rfl, hw0⟩ := first_of h
    have p0 : ps (w0 ++ 46 :: s1) = w0 :: ps s1 := spl_part w0 [] s1 hw0
    have a0 := A1_part (ds := []) (w := w0) (r := s1) (c := 46) (nd (.inl hw0) (.inl (by decide))) (fun n => step_dot (by decide)) (by decide)
    rw [a0]
    by_cases h1 : 46 ∈ s1
    · obtain ⟨w1, s2, rfl, hw1⟩ := first_of h1
      have p1 : ps (w1 ++ 46 :: s2) = w1 :: ps s2 := spl_part w1 [] s2 hw1
      have a1 : ∀ a : Int, A1 ([a], none) (w1 ++ 46 :: s2) = _ := fun a => A1_part (ds := [a]) (w := w1) (r := s2) (c := 46) (nd (.inl hw1) (.inl (by show 1 ≠ 2; decide))) (fun n => step_dot (by show 1 < 2; decide)) (by decide)
      by_cases h2 : 46 ∈ s2
      · obtain ⟨w2, s3, e2, hw2⟩ := first_of h2
        have p2 : ps s2 = w2 :: ps s3 := by rw [e2]; exact spl_part w2 [] s3 hw2
        have hl : 3 < (ps (w0 ++ 46 :: (w1 ++ 46 :: s2))).length := by
          rw [p0, p1, p2]
          have := ps_len s3
          simp only [List.length_cons]; omega
        have e : partsF (w0 ++ 46 :: (w1 ++ 46 :: s2)) = List.replicate 5 [] := by unfold partsF; rw [if_pos hl]
        rw [e]
        refine ⟨by simp, ?_⟩
        have z : ∀ a b : Int, A1 ([a, b], none) s2 = none := fun a b => A1_dots (w := s2) s2 ([a, b], none) h2 (by show 2 ≤ 2; decide)
        have r5 : Rp [] (List.replicate 5 []) = none := rfl
        rw [r5]
        split
        · rename_i a _
          simp only [List.nil_append]
          rw [a1]
          split
          · exact z _ _
          · rfl
        · rfl
      · have p2 : ps s2 = [s2] := spl_word s2 [] h2
        have hps : ps (w0 ++ 46 :: (w1 ++ 46 :: s2)) = [w0, w1, s2] := by rw [p0, p1, p2]
        by_cases h3 : 45 ∈ s2
        · obtain ⟨x, y, e3, hx⟩ := first_of h3
          obtain ⟨d1, d2⟩ := dA_of (b := y) hx
          have e : partsF (w0 ++ 46 :: (w1 ++ 46 :: s2)) = [w0, w1, x, y] := by
            unfold partsF
            rw [hps, if_neg (by show ¬ 3 < 3; decide), if_pos ⟨rfl, h3⟩]
            show [w0, w1] ++ [dA s2, dB s2] = _
            rw [e3, d1, d2]; rfl
          rw [e]
          refine ⟨by simp, ?_⟩
          have hx46 : 46 ∉ x := fun z => h2 (by rw [e3]; simp [z])
          have hy46 : 46 ∉ y := fun z => h2 (by rw [e3]; simp [z])
          simp only [Rp, List.length_nil]
          split
          · rename_i a ha
            simp only [List.nil_append]
            rw [a1]
            simp only [List.length_cons, List.length_nil]
            split
            · rename_i b hb
              rw [e3, A1_part (ds := [a] ++ [b]) (w := x) (r := y) (c := 45) (nd (.inl hx46) (.inr hx)) (fun n => step_dash rfl) (by decide)]
              simp only [List.length_append, List.length_cons, List.length_nil]
              split
              · rename_i c hc
                have hb' : dig (mx 1) none w1 = some (some b) := hb
                have hc' : dig (mx 2) none x = some (some c) := hc
                rw [A1_word y none (nd (.inl hy46) (.inl (by show 3 ≠ 2; decide)))] <;> simp [ha, hb', hc']
              · simp_all
            · simp_all
          · simp_all
        · have e : partsF (w0 ++ 46 :: (w1 ++ 46 :: s2)) = [w0, w1, s2] := by
            unfold partsF
            rw [hps, if_neg (by show ¬ 3 < 3; decide), if_neg (fun z => h3 z.2)]
          rw [e]
          refine ⟨by simp, ?_⟩
          simp only [Rp, List.length_nil]
          split
          · rename_i a ha
            simp only [List.nil_append]
            rw [a1]
            simp only [List.length_cons, List.length_nil]
            split
            · rename_i b hb
              have hb' : dig (mx 1) none w1 = some (some b) := hb
              rw [A1_word s2 none (nd (.inl h2) (.inr h3))] <;> simp [ha, hb']
            · simp_all
          · simp_all
    · have p1 : ps s1 = [s1] := spl_word s1 [] h1
      have hps : ps (w0 ++ 46 :: s1) = [w0, s1] := by rw [p0, p1]
      have e : partsF (w0 ++ 46 :: s1) = [w0, s1] := by
        unfold partsF
        rw [hps, if_neg (by show ¬ 3 < 2; decide), if_neg (fun z => absurd z.1 (by show ¬ 2 = 3; decide))]
      rw [e]
      refine ⟨by simp, ?_⟩
      simp only [Rp, List.length_nil]
      split
      · rename_i a ha
        simp only [List.nil_append]
        rw [A1_word s1 none (nd (.inl h1) (.inl (by show 1 ≠ 2; decide)))] <;> simp [ha]
      · simp_all
  · have hps : ps s = [s] := spl_word s [] h
    have e : partsF s = [s] := by
      unfold partsF
      rw [hps, if_neg (by show ¬ 3 < 1; decide), if_neg (fun z => absurd z.1 (by show ¬ 1 = 3; decide))]
    rw [e]
    refine ⟨by simp, ?_⟩
    rw [A1_word s none (nd (.inl h) (.inl (by decide)))]
    rfl
/-! ### parsed is due -/
theorem begF_A (s : Cs) : begF s = (A1 ([], none) s).isSome := by
  obtain ⟨h1, h2⟩ := A_ref s
  rw [beg_of, h2]
  exact R_beg (partsF s) [] h1
theorem place_of (s : Cs) (k : Nat) (h : ∀ j, j ≤ s.length → (begF (s.take j) = true ↔ j ≤ k)) : ∀ n, n ≤ s.length + 1 → 0 < n → placeF s n = min k (n - 1)
  | 0, _, h0 => absurd h0 (by decide)
  | n + 1, hn, _ => by
    unfold placeF
    by_cases hk : n ≤ k
    · rw [if_pos ((h n (by omega)).mpr hk)]; omega
    · rw [if_neg (fun z => hk ((h n (by omega)).mp z))]
      cases n with
      | zero => simp at hk
      | succ n => rw [place_of s k h (n + 1) (by omega) (by omega)]; omega
theorem due_parse (s : Cs) : match parseF s with
    | .inl p => dueF s = .tup [.str sRef, .str wVer, .int (p : Nat)]
    | .inr x => dueF s = .tup [.str sRead, q4 x] := by
  rw [parse_scan]
  obtain ⟨k, k1, k2, k3, k4, k5⟩ := scan_A1 s ([], none) 0
  obtain ⟨r1, r2⟩ := A_ref s
  obtain ⟨n1, n2⟩ := R_nums (partsF s) [] r1
  rw [← r2, show numsR ([] : List Int).length (partsF s) = numsF s from (nums_of s).symm] at n1
  rw [← r2] at n2
  have pl : placeF s (s.length + 1) = k := by
    rw [place_of s k (fun j hj => by rw [begF_A]; exact k5 j hj) (s.length + 1) (Nat.le_refl _) (by omega)]; omega
  generalize scan1 ([], none) 0 s = r at k2 k3 k4
  obtain ⟨p, ⟨ds, v⟩, e⟩ := r
  dsimp only at k2 k3 k4
  have hp : p = k := by omega
  subst hp
  have refused : ¬ (2 < (numsF s).length ∧ ∀ x ∈ numsF s, 0 ≤ x) → dueF s = .tup [.str sRef, .str wVer, .int (p : Nat)] := fun h => by unfold dueF; rw [if_neg h, pl]
  -- what is read
  have nums : ∀ ds' n, A1 ([], none) s = some (ds', some n) → numsF s = ds' ++ [n] := fun ds' n h => by
    have := n2 ds' n h
    rw [nums_of]; exact this
  cases e with
  | false =>
    have hk : p ≠ s.length := fun z => absurd (k4.mpr z) (by decide)
    have hA : ¬ (A1 ([], none) s).isSome = true := fun z => by
      have := (k5 s.length (Nat.le_refl _)).mp (by rw [List.take_length]; exact z)
      omega
    have := refused (fun z => by
      obtain ⟨ds', n, h⟩ := n1.mp z.2
      exact hA (by rw [h]; rfl))
    cases v <;> exact this
  | true =>
    have hk := k4.mp rfl
    rw [hk, List.take_length] at k3
    cases v with
    | none => exact refused (fun z => by
        obtain ⟨ds', n, h⟩ := n1.mp z.2
        rw [k3] at h; cases h)
    | some n =>
      have hn := nums ds n k3
      show (match (if 2 ≤ ds.length then (.inr (fin4 ds n) : Pr) else .inl p) with
        | .inl p => dueF s = .tup [.str sRef, .str wVer, .int (p : Nat)]
        | .inr x => dueF s = .tup [.str sRead, q4 x])
      by_cases h2 : 2 ≤ ds.length
      · rw [if_pos h2]
        show dueF s = .tup [.str sRead, q4 (fin4 ds n)]
        have hl : ds.length ≤ 3 := by
          have e4 : (partsF s).length ≤ 4 ∨ partsF s = List.replicate 5 [] := by
            unfold partsF
            split
            · exact .inr rfl
            · split
              · left; simp; omega
              · left; omega
          rcases e4 with e4 | e4
          · have e : ∀ (P : List Cs) j, (numsR j P).length = P.length := fun P => by
              induction P with
              | nil => intro j; rfl
              | cons w r ih => intro j; simp [numsR, ih]
            have := congrArg List.length hn
            rw [nums_of, e] at this
            simp at this; omega
          · rw [r2, e4] at k3; cases k3
        unfold dueF
        rw [if_pos ⟨by rw [hn]; simp; omega, n1.mpr ⟨ds, n, k3⟩⟩, hn]
        match ds, h2, hl with
        | [a, b], _, _ => rfl
        | [a, b, c], _, _ => rfl
      · rw [if_neg h2]
        exact refused (fun z => by
          have := z.1
          rw [hn] at this; simp at this; omega)
end PH

set_option maxHeartbeats 8000000
namespace PH
open L2 PySem PySem.Spec PyProof.Rows
/-! ### a version's text -/
theorem numS_all : ((List.range 1000).all fun n => decide (dig 999 none (numS (n : Int)) = some (some (n : Int))) && (numS (n : Int)).all dg && decide ((numS (n : Int)).length ≤ 3) && (decide (n = 999) || decide (dig 998 none (numS (n : Int)) = some (some (n : Int))))) = true := by decide +kernel
theorem numS_ok {i : Int} (h0 : 0 ≤ i) (h1 : i ≤ 999) : dig 999 none (numS i) = some (some i) ∧ (∀ c ∈ numS i, dg c = true) ∧ (numS i).length ≤ 3 ∧ (i ≠ 999 → dig 998 none (numS i) = some (some i)) := by
  have := List.all_eq_true.mp numS_all i.toNat (by simp; omega)
  simp only [Bool.and_eq_true, Bool.or_eq_true, decide_eq_true_eq, List.all_eq_true] at this
  rw [show ((i.toNat : Nat) : Int) = i by omega] at this
  obtain ⟨⟨⟨a, b⟩, c⟩, d⟩ := this
  exact ⟨a, b, c, fun z => d.resolve_left (by omega)⟩
def vtx (x : Q4) : Cs := (numS x.1 ++ [46] ++ numS x.2.1 ++ [46] ++ numS x.2.2.1) ++ if x.2.2.2 = 999 then [] else [45] ++ numS x.2.2.2
theorem vtx_len {x : Q4} (h : R4 x) : (vtx x).length ≤ 20 := by
  have l1 := (numS_ok h.a0 h.a1).2.2.1
  have l2 := (numS_ok h.b0 h.b1).2.2.1
  have l3 := (numS_ok h.c0 h.c1).2.2.1
  have l4 := (numS_ok h.e0 h.e1).2.2.1
  unfold vtx
  split <;> simp <;> omega
theorem A1_scan : ∀ (w : Cs) (st st' : St1) (p : Nat), A1 st w = some st' → scan1 st p w = (p + w.length, st', true)
  | [], st, st', p, h => by cases h; rfl
  | c :: w, st, st', p, h => by
    unfold A1 at h
    cases q : step1 st c with
    | none => rw [q] at h; cases h
    | some s2 =>
      rw [q] at h
      simp only [scan1, q]
      rw [A1_scan w s2 st' (p + 1) h]
      simp only [List.length_cons, Prod.mk.injEq, and_true]; omega
theorem parse_vtx {x : Q4} (h : R4 x) : parseF (vtx x) = .inr x := by
  obtain ⟨d1, g1, _, _⟩ := numS_ok h.a0 h.a1
  obtain ⟨d2, g2, _, _⟩ := numS_ok h.b0 h.b1
  obtain ⟨d3, g3, _, _⟩ := numS_ok h.c0 h.c1
  obtain ⟨d4, g4, _, d4'⟩ := numS_ok h.e0 h.e1
  have e0 := h.e0
  have e1 := h.e1
  obtain ⟨a, b, c, e⟩ := x
  dsimp only at *
  have no : ∀ {ds : List Int} {w : Cs}, (∀ c ∈ w, dg c = true) → ∀ c ∈ w, dg c = false → ∀ u, step1 (ds, u) c = none := fun hw c hc hd => by rw [hw c hc] at hd; cases hd
  have p1 : ∀ r, A1 ([], none) (numS a ++ 46 :: r) = A1 ([a], none) r := fun r => by
    rw [A1_part (no g1) (fun n => step_dot (by decide)) (by decide), show mx ([] : List Int).length = 999 from rfl, d1]; rfl
  have p2 : ∀ r, A1 ([a], none) (numS b ++ 46 :: r) = A1 ([a, b], none) r := fun r => by
    rw [A1_part (no g2) (fun n => step_dot (by show 1 < 2; decide)) (by decide), show mx [a].length = 999 from rfl, d2]; rfl
  rw [parse_scan]
  unfold vtx
  dsimp only
  by_cases h9 : e = 999
  · rw [if_pos h9]
    have : A1 ([], none) (numS a ++ [46] ++ numS b ++ [46] ++ numS c ++ []) = some ([a, b], some c) := by
      simp only [List.append_assoc, List.cons_append, List.nil_append, List.append_nil]
      rw [p1, p2, A1_word _ _ (no g3), show mx [a, b].length = 999 from rfl, d3]; rfl
    rw [A1_scan _ _ _ 0 this, h9]
    rfl
  · rw [if_neg h9]
    have : A1 ([], none) (numS a ++ [46] ++ numS b ++ [46] ++ numS c ++ ([45] ++ numS e)) = some ([a, b, c], some e) := by
      simp only [List.append_assoc, List.cons_append, List.nil_append]
      rw [p1, p2, A1_part (ds := [a, b]) (no g3) (fun n => step_dash rfl) (by decide), show mx [a, b].length = 999 from rfl, d3]
      show A1 ([a, b, c], none) (numS e) = _
      rw [A1_word _ _ (no g4), show mx [a, b, c].length = 998 from rfl, d4' h9]; rfl
    rw [A1_scan _ _ _ 0 this]
    rfl
section
variable {S : Sto} {k n : Nat}
theorem str_ev {i : Int} (h0 : 0 ≤ i) (h1 : i < 1000000) : bltI .str [.p (.int i)] S = .ok (.p (.str (numS i))) S := by
  show (if _ then _ else _) = _
  rw [if_pos (log_small h0 h1)]; rfl
theorem k01_vtext {x : Q4} (h : R4 x) : k01C (k + 1) 6 [.p (q4 x)] S = .ok (.p (.str (vtx x))) S := by
  refine call_of (e := k01_E_version_text) rfl rfl (runB_rt (S' := S) (d := .p (.str (vtx x))) ?_ (tidy_p _))
  obtain ⟨_, _, l1, _⟩ := numS_ok h.a0 h.a1
  obtain ⟨_, _, l2, _⟩ := numS_ok h.b0 h.b1
  obtain ⟨_, _, l3, _⟩ := numS_ok h.c0 h.c1
  obtain ⟨_, _, l4, _⟩ := numS_ok h.e0 h.e1
  obtain ⟨a0, a1, b0, b1, c0, c1, e0, e1⟩ := h
  obtain ⟨a, b, c, e⟩ := x
  dsimp only at *
  show evCz ⟨k01C k, glOf k01_gl⟩ k01_version_text.body [some (.p (q4 (a, b, c, e))), none, none, none, none, none] S = _
  unfold k01_version_text
  dsimp only
  have un : evC ⟨k01C k, glOf k01_gl⟩ (.asg (.tp [(.nm 1), (.nm 2), (.nm 3), (.nm 4)]) (.v 0)) [some (.p (q4 (a, b, c, e))), none, none, none, none, none] S = .nx [some (.p (q4 (a, b, c, e))), some (.p (.int a)), some (.p (.int b)), some (.p (.int c)), some (.p (.int e)), none] S := by
    rw [evc_asg, evv (d := .p (q4 (a, b, c, e))) rfl, Res.out_ok]; rfl
  rw [evz_step un]
  have tx : evE ⟨k01C k, glOf k01_gl⟩ (.bin .Add (.bin .Add (.bin .Add (.bin .Add (.blt .str (.cons (.v 1) .nil)) (.k (.str [46]))) (.blt .str (.cons (.v 2) .nil))) (.k (.str [46]))) (.blt .str (.cons (.v 3) .nil))) [some (.p (q4 (a, b, c, e))), some (.p (.int a)), some (.p (.int b)), some (.p (.int c)), some (.p (.int e)), none] S = .ok (.p (.str (numS a ++ [46] ++ numS b ++ [46] ++ numS c))) S :=
    ebin (ebin (ebin (ebin (eblt1 (evv rfl) (str_ev a0 (by first | omega | (dsimp only; omega)))) (ev_k ..) (bin_addS (by simp [LINE]; omega))) (eblt1 (evv rfl) (str_ev b0 (by first | omega | (dsimp only; omega)))) (bin_addS (by simp [LINE]; omega))) (ev_k ..) (bin_addS (by simp [LINE]; omega))) (eblt1 (evv rfl) (str_ev c0 (by first | omega | (dsimp only; omega)))) (bin_addS (by simp [LINE]; omega))
  rw [evz_step (stasg (ρ1 := [some (.p (q4 (a, b, c, e))), some (.p (.int a)), some (.p (.int b)), some (.p (.int c)), some (.p (.int e)), some (.p (.str (numS a ++ [46] ++ numS b ++ [46] ++ numS c)))]) tx rfl)]
  have g1 : evE ⟨k01C k, glOf k01_gl⟩ (.cmp .Eq (.v 4) (.g 1)) [some (.p (q4 (a, b, c, e))), some (.p (.int a)), some (.p (.int b)), some (.p (.int c)), some (.p (.int e)), some (.p (.str (numS a ++ [46] ++ numS b ++ [46] ++ numS c)))] S = .ok (.p (.bl (decide (e = 999)))) S := ecmp (evv rfl) (by rw [ev_g]; rfl) (eq_int ..)
  unfold vtx
  dsimp only
  by_cases h9 : e = 999
  · rw [decide_eq_true h9] at g1
    rw [if_pos h9, List.append_nil]
    exact evz_end (stif1 g1 (evz_end (stret (evv rfl))))
  · rw [decide_eq_false h9] at g1
    rw [if_neg h9, evz_step (stif0 g1), ← List.append_assoc]
    exact evz_end (stret (ebin (ebin (evv rfl) (ev_k ..) (bin_addS (by simp [LINE]; omega))) (eblt1 (evv rfl) (str_ev e0 (by first | omega | (dsimp only; omega)))) (bin_addS (by simp [LINE]; omega))))
theorem k01_ltext {x : Q4} (h : R4 x) : k01C (k + 1) 13 [.p (q4 x)] S = .ok (.p (.str (vtx x))) S := by
  refine call_of (e := k01_E_law_text) rfl rfl (runB_rt (S' := S) (d := .p (.str (vtx x))) ?_ (tidy_p _))
  obtain ⟨_, _, l1, _⟩ := numS_ok h.a0 h.a1
  obtain ⟨_, _, l2, _⟩ := numS_ok h.b0 h.b1
  obtain ⟨_, _, l3, _⟩ := numS_ok h.c0 h.c1
  obtain ⟨_, _, l4, _⟩ := numS_ok h.e0 h.e1
  obtain ⟨a0, a1, b0, b1, c0, c1, e0, e1⟩ := h
  obtain ⟨a, b, c, e⟩ := x
  dsimp only at *
  show evCz ⟨k01C k, glOf k01_gl⟩ k01_law_text.body [some (.p (q4 (a, b, c, e))), none] S = _
  unfold k01_law_text
  dsimp only
  have ix : ∀ j (o : Option D), evE ⟨k01C k, glOf k01_gl⟩ (.ix (.v 0) (.k (.int j))) [some (.p (q4 (a, b, c, e))), o] S = ixI (.p (q4 (a, b, c, e))) (.p (.int j)) S := fun j o => eix (evv rfl) (ev_k ..) rfl
  have tx : evE ⟨k01C k, glOf k01_gl⟩ (.bin .Add (.bin .Add (.bin .Add (.bin .Add (.blt .str (.cons (.ix (.v 0) (.k (.int 0))) .nil)) (.k (.str [46]))) (.blt .str (.cons (.ix (.v 0) (.k (.int 1))) .nil))) (.k (.str [46]))) (.blt .str (.cons (.ix (.v 0) (.k (.int 2))) .nil))) [some (.p (q4 (a, b, c, e))), none] S = .ok (.p (.str (numS a ++ [46] ++ numS b ++ [46] ++ numS c))) S :=
    ebin (ebin (ebin (ebin (eblt1 (ix 0 _) (str_ev a0 (by first | omega | (dsimp only; omega)))) (ev_k ..) (bin_addS (by simp [LINE]; omega))) (eblt1 (ix 1 _) (str_ev b0 (by first | omega | (dsimp only; omega)))) (bin_addS (by simp [LINE]; omega))) (ev_k ..) (bin_addS (by simp [LINE]; omega))) (eblt1 (ix 2 _) (str_ev c0 (by first | omega | (dsimp only; omega)))) (bin_addS (by simp [LINE]; omega))
  rw [evz_step (stasg (ρ1 := [some (.p (q4 (a, b, c, e))), some (.p (.str (numS a ++ [46] ++ numS b ++ [46] ++ numS c)))]) tx rfl)]
  have g1 : evE ⟨k01C k, glOf k01_gl⟩ (.cmp .NotEq (.ix (.v 0) (.k (.int 3))) (.k (.int 999))) [some (.p (q4 (a, b, c, e))), some (.p (.str (numS a ++ [46] ++ numS b ++ [46] ++ numS c)))] S = .ok (.p (.bl (!decide (e = 999)))) S := ecmp (ix 3 _) (ev_k ..) (ne_int ..)
  unfold vtx
  dsimp only
  by_cases h9 : e = 999
  · rw [decide_eq_true h9] at g1
    rw [if_pos h9, List.append_nil, evz_step (stif0 g1)]
    exact evz_end (stret (evv rfl))
  · rw [decide_eq_false h9] at g1
    rw [if_neg h9, ← List.append_assoc]
    rw [evz_step (ρ1 := [some (.p (q4 (a, b, c, e))), some (.p (.str (numS a ++ [46] ++ numS b ++ [46] ++ numS c ++ [45] ++ numS e)))]) (S1 := S) (stif1 g1 ?_)]
    · exact evz_end (stret (evv rfl))
    · rw [evz_step (stasg (ebin (ebin (evv rfl) (ev_k ..) (bin_addS (by simp [LINE]; omega))) (eblt1 (ix 3 _) (str_ev e0 (by first | omega | (dsimp only; omega)))) (bin_addS (by simp [LINE]; omega))) rfl), evz_nil]; rfl
theorem k01_lint (i : Int) : k01C (k + 1) 9 [.p (.int i)] S = .ok (.p (.bl true)) S := by
  refine call_of (e := k01_E_law_is_integer) rfl rfl (runB_rt (S' := S) (d := .p (.bl true)) ?_ (tidy_p _))
  simp [k01_E_law_is_integer, k01_law_is_integer, known, isTy]
theorem k01_lisv (x : Q4) : k01C (k + 2) 10 [.p (q4 x)] S = .ok (.p (.bl true)) S := by
  refine call_of (e := k01_E_law_is_version) rfl rfl (runB_rt (S' := S ++ [.pl (([x.1, x.2.1, x.2.2.1, x.2.2.2]).map fun _ => .bl true)]) (d := .p (.bl true)) ?_ (tidy_pa _ _))
  show evCz ⟨k01C (k + 1), glOf k01_gl⟩ k01_law_is_version.body [some (.p (q4 x)), none] S = _
  unfold k01_law_is_version
  dsimp only
  rw [evz_step (stif0 (eor0 (enot (b := true) (eisi (evv rfl) rfl rfl)) (ebo1 (ecmp (eblt1 (evv rfl) (len_tup ..)) (ev_k ..) (ne_int ..)))))]
  have e : evE ⟨k01C (k + 1), glOf k01_gl⟩ (.lc [1] (.nm 1) (.of (.v 0)) (.call 9 (.cons (.v 1) .nil))) [some (.p (q4 x)), none] S = .ok (.ref S.length) (S ++ [.pl (([x.1, x.2.1, x.2.2.1, x.2.2.2]).map fun _ => .bl true)]) :=
    lc_ev (w := ⟨[x.1, x.2.1, x.2.2.1, x.2.2.2].map fun i => .p (.int i), none⟩) (fun i : Int => D.p (.int i)) (fun _ => .bl true) [x.1, x.2.1, x.2.2.1, x.2.2.2] (of_ev (evv rfl) rfl) (by show 4 ≤ LINE; decide) rfl (fun _ => rfl) fun i _ => ⟨_, rfl, fun l => ecall1 (evv rfl) (k01_lint (k := k) i)⟩
  refine evz_end (stret (eblt1 e ?_))
  simp [bltI, boolsOf]
/-! ### parsed -/
def aSuite : Cz := (.cons (.ite (.bo .Or (.cons (.no (.isx 2 [1000])) (.cons (.no (.isx 2 [1001])) .nil))) (.cons (.ret (.tp (.cons (.k (.str [111, 116, 104, 101, 114])) .nil)))
      .nil) .nil)
    (.cons (.ite (.isx 2 [1, 2, 3, 4, 5, 6]) (.cons (.ret (.tp (.cons (.k (.str [111, 116, 104, 101, 114])) .nil)))
      .nil) .nil)
    (.cons (.ite (.isx 2 [7, 8, 9, 10, 11]) (.cons (.ret (.tp (.cons (.k (.str [111, 116, 104, 101, 114])) .nil)))
      .nil) .nil)
    (.cons (.ret (.tp (.cons (.k (.str [114, 101, 102, 117, 115, 101, 100])) (.cons (.fld 2 "kind") (.cons (.fld 2 "place") .nil)))))
    .nil))))
theorem asuite_run {M : Mo} {ρ : Nv} {p q : Nat} {w : Cs} {j : Int} (h : ρ[2]? = some (some (.xv p q 0 [("kind", .str w), ("place", .int j)]))) (hM : M.glob XC = some (.tup [.int p, .int q, .int (0 : Nat)])) : evCz M aSuite ρ S = .rt (.p (.tup [.str sRef, .str w, .int j])) S := by
  unfold aSuite
  have i1 := ev_isx (M := M) (S := S) (cs := [1000]) h hM
  have i2 := ev_isx (M := M) (S := S) (cs := [1001]) h hM
  have i3 := ev_isx (M := M) (S := S) (cs := [1, 2, 3, 4, 5, 6]) h hM
  have i4 := ev_isx (M := M) (S := S) (cs := [7, 8, 9, 10, 11]) h hM
  rw [show ([1000].any (subX 0)) = true from rfl] at i1
  rw [show ([1001].any (subX 0)) = true from rfl] at i2
  rw [show ([1, 2, 3, 4, 5, 6].any (subX 0)) = false from rfl] at i3
  rw [show ([7, 8, 9, 10, 11].any (subX 0)) = false from rfl] at i4
  rw [evz_step (stif0 (eor0 (enot i1) (ebo1 (enot i2)))), evz_step (stif0 i3), evz_step (stif0 i4)]
  refine evz_end (stret ?_)
  rw [ev_tp, es1 (ev_k ..) (es1 (ev_fld h hM rfl) (es1 (ev_fld h hM rfl) es0))]
  rfl
theorem k01_parsed (hn : S.length < 2 ^ 60) (t : Cs) : k01C (k + 6) 18 [.p (.str t)] S = .ok (.p (match parseF t with
    | .inl p => .tup [.str sRef, .str wVer, .int (p : Nat)]
    | .inr x => .tup [.str sRead, q4 x])) S := by
  have hp := k01_parse (k := k) (S := S) hn t
  cases q : parseF t with
  | inl p =>
    rw [q] at hp
    refine call_of (e := k01_E_law_parsed) rfl rfl (runB_rt (S' := S) (d := .p (.tup [.str sRef, .str wVer, .int (p : Nat)])) ?_ (tidy_p _))
    show evCz ⟨k01C (k + 5), glOf k01_gl⟩ k01_law_parsed.body [some (.p (.str t)), none, none] S = _
    unfold k01_law_parsed
    dsimp only
    have hb : evCz ⟨k01C (k + 5), glOf k01_gl⟩ (.cons (.asg (.nm 1) (.call 7 (.cons (.v 0) .nil))) .nil) [some (.p (.str t)), none, none] S = .exc (badT wVer p) [some (.p (.str t)), none, none] S :=
      evz_exc (stasgX (ecall1 (evv rfl) hp))
    refine evz_end (trx_exc (fs := [("kind", .str wVer), ("place", .int (p : Int))]) hb (by show 0 ∈ _; decide) (by show subX 0 0 = true; decide) rfl fun a b => ?_)
    have sr := asuite_run (S := S) (M := (Mo.mk (k01C (k + 5)) (glOf k01_gl)).at a b 0) (ρ := [some (.p (.str t)), none, some (.xv a b 0 [("kind", .str wVer), ("place", .int (p : Int))])]) (p := a) (q := b) (w := wVer) (j := (p : Int)) rfl rfl
    show (evCz _ aSuite _ _).gone 2 = _
    rw [show (badT wVer p).c = 0 from rfl]
    show (evCz _ aSuite [some (.p (.str t)), none, some (.xv a b 0 [("kind", .str wVer), ("place", .int (p : Int))])] _).gone 2 = _
    rw [sr]
    rfl
  | inr x =>
    rw [q] at hp
    refine call_of (e := k01_E_law_parsed) rfl rfl (runB_rt (S' := S) (d := .p (.tup [.str sRead, q4 x])) ?_ (tidy_p _))
    show evCz ⟨k01C (k + 5), glOf k01_gl⟩ k01_law_parsed.body [some (.p (.str t)), none, none] S = _
    unfold k01_law_parsed
    dsimp only
    have hb : evCz ⟨k01C (k + 5), glOf k01_gl⟩ (.cons (.asg (.nm 1) (.call 7 (.cons (.v 0) .nil))) .nil) [some (.p (.str t)), none, none] S = .nx [some (.p (.str t)), some (.p (q4 x)), none] S := by
      rw [evz_step (stasg (ρ1 := [some (.p (.str t)), some (.p (q4 x)), none]) (ecall1 (evv rfl) hp) rfl), evz_nil]
    rw [evz_step (trx_no hb (fun _ _ _ z => nomatch z))]
    refine evz_end (stret ?_)
    rw [ev_tp, es1 (ev_k ..) (es1 (evv rfl) es0)]
    rfl
theorem k01_same_read (x : Q4) : k01C (k + 3) 19 [.p (.tup [.str sRead, q4 x]), .p (.tup [.str sRead, q4 x])] S = .ok (.p (.bl true)) S := by
  refine call_of (e := k01_E_law_same) rfl rfl (runB_rt (S' := S) (d := .p (.bl true)) ?_ (tidy_p _))
  show evCz ⟨k01C (k + 2), glOf k01_gl⟩ k01_law_same.body [some (.p (.tup [.str sRead, q4 x])), some (.p (.tup [.str sRead, q4 x]))] S = _
  unfold k01_law_same
  dsimp only
  have i0 : ixI (.p (.tup [.str sRead, q4 x])) (.p (.int 0)) S = .ok (.p (.str sRead)) S := rfl
  have i1 : ixI (.p (.tup [.str sRead, q4 x])) (.p (.int 1)) S = .ok (.p (q4 x)) S := rfl
  have e : cmpI .Eq (.p (q4 x)) (.p (q4 x)) S = .ok (.p (.bl true)) S := by
    have := eq_of (S := S) (x := .p (q4 x)) (y := .p (q4 x)) (eqI_p (n := 1) (k := 1) (q4_nice x) (q4_nice x) (by decide))
    rw [this, decide_eq_true rfl]
  refine evz_end (stif1 (eand1 (ecmp (eix (evv rfl) (ev_k ..) i0) (ev_k ..) (eq_str ..)) (ebo1 (ecmp (eix (evv rfl) (ev_k ..) i0) (ev_k ..) (eq_str ..)))) (evz_end (stret ?_)))
  exact eand1 (ecall1 (eix (evv rfl) (ev_k ..) i1) (k01_lisv x)) (ebo1 (ecmp (eix (evv rfl) (ev_k ..) i1) (eix (evv rfl) (ev_k ..) i1) e))
theorem k01_same_ref (p : Nat) : k01C (k + 3) 19 [.p (.tup [.str sRef, .str wVer, .int (p : Nat)]), .p (.tup [.str sRef, .str wVer, .int (p : Nat)])] S = .ok (.p (.bl true)) S := by
  refine call_of (e := k01_E_law_same) rfl rfl (runB_rt (S' := S) (d := .p (.bl true)) ?_ (tidy_p _))
  show evCz ⟨k01C (k + 2), glOf k01_gl⟩ k01_law_same.body [some (.p (.tup [.str sRef, .str wVer, .int (p : Nat)])), some (.p (.tup [.str sRef, .str wVer, .int (p : Nat)]))] S = _
  unfold k01_law_same
  dsimp only
  have i0 : ixI (.p (.tup [.str sRef, .str wVer, .int (p : Nat)])) (.p (.int 0)) S = .ok (.p (.str sRef)) S := rfl
  have i1 : ixI (.p (.tup [.str sRef, .str wVer, .int (p : Nat)])) (.p (.int 1)) S = .ok (.p (.str wVer)) S := rfl
  have i2 : ixI (.p (.tup [.str sRef, .str wVer, .int (p : Nat)])) (.p (.int 2)) S = .ok (.p (.int (p : Nat))) S := rfl
  have e : cmpI .Eq (.p (.tup [.str sRef, .str wVer, .int (p : Nat)])) (.p (.tup [.str sRef, .str wVer, .int (p : Nat)])) S = .ok (.p (.bl true)) S := by
    have := eq_of (S := S) (x := .p (.tup [.str sRef, .str wVer, .int (p : Nat)])) (y := .p (.tup [.str sRef, .str wVer, .int (p : Nat)])) (eqI_p (n := 1) (k := 1) rfl rfl (by decide))
    rw [this, decide_eq_true rfl]
  rw [evz_step (stif0 (eand0 (ecmp (eix (evv rfl) (ev_k ..) i0) (ev_k ..) (eq_str ..))))]
  refine evz_end (stif1 (eand1 (ecmp (eix (evv rfl) (ev_k ..) i0) (ev_k ..) (eq_str ..)) (ebo1 (ecmp (eix (evv rfl) (ev_k ..) i0) (ev_k ..) (eq_str ..)))) (evz_end (stret ?_)))
  exact eand1 (eisi (eix (evv rfl) (ev_k ..) i1) rfl rfl) (eand1 (ecall1 (eix (evv rfl) (ev_k ..) i2) (k01_lint (k := k + 1) _)) (ebo1 (ecmp (evv rfl) (evv rfl) e)))
/-- what the law asks of every text -/
theorem k01_asked (hn : S.length < 2 ^ 60) {t : Cs} (ht : t.length ≤ 10000) {M : Mo} (hM : M.call = k01C (k + 6)) {ρ : Nv} {i : Nat} (h : ρ[i]? = some (some (.p (.str t)))) :
    evE M (.call 19 (.cons (.call 18 (.cons (.v i) .nil)) (.cons (.call 17 (.cons (.v i) .nil)) .nil))) ρ S = .ok (.p (.bl true)) S := by
  have h1 := k01_parsed (k := k) hn t
  rw [← hM] at h1
  have h2 : M.call 17 [.p (.str t)] S = .ok (.p (dueF t)) S := by rw [hM]; exact k01_due (k := k + 3) ht
  have d := due_parse t
  cases q : parseF t with
  | inl p =>
    rw [q] at h1 d
    refine ecall2 (ecall1 (evv h) h1) (ecall1 (evv h) h2) ?_
    rw [show dueF t = _ from d, hM]
    exact k01_same_ref (k := k + 3) p
  | inr x =>
    rw [q] at h1 d
    refine ecall2 (ecall1 (evv h) h1) (ecall1 (evv h) h2) ?_
    rw [show dueF t = _ from d, hM]
    exact k01_same_read (k := k + 3) x
end
end PH

set_option maxHeartbeats 8000000
namespace PH
open L2 PySem PySem.Spec PyProof.Rows
theorem md {x m : Int} (h : 0 < m) : 0 ≤ x % m ∧ x % m < m := ⟨Int.emod_nonneg x (by omega), Int.emod_lt_of_pos x h⟩
section
variable {S : Sto} {k n : Nat}
theorem iint {x : Int} {S : Sto} : bltI .int [.p (.int x)] S = .ok (.p (.int x)) S := rfl
theorem k01_part_ok (a b : Int) : ∃ v, 0 ≤ v ∧ v ≤ 999 ∧ ∀ S, k01C (k + 1) 11 [.p (.int a), .p (.int b)] S = .ok (.p (.int v)) S := by
  by_cases h : a % 2 = 0
  · have b8 := md (x := b) (m := 8) (by decide)
    have bd : 0 ≤ ([0, 1, 9, 10, 99, 100, 998, 999] : List Int)[(b % 8).toNat]! ∧ ([0, 1, 9, 10, 99, 100, 998, 999] : List Int)[(b % 8).toNat]! ≤ 999 := by
      have all : ∀ i : Nat, i < 8 → 0 ≤ ([0, 1, 9, 10, 99, 100, 998, 999] : List Int)[i]! ∧ ([0, 1, 9, 10, 99, 100, 998, 999] : List Int)[i]! ≤ 999 := by decide
      exact all _ (by omega)
    refine ⟨_, bd.1, bd.2, fun S => call_of (e := k01_E_law_part) rfl rfl (runB_rt (S' := S ++ [.pl ([0, 1, 9, 10, 99, 100, 998, 999].map .int)]) (d := .p (.int ([0, 1, 9, 10, 99, 100, 998, 999] : List Int)[(b % 8).toNat]!)) ?_ (tidy_pa _ _))⟩
    show evCz ⟨k01C k, glOf k01_gl⟩ k01_law_part.body [some (.p (.int a)), some (.p (.int b))] S = _
    unfold k01_law_part
    dsimp only
    refine evz_end (stif1 (ecmp (ebin (eblt1 (evv rfl) iint) (ev_k ..) (bin_mod (by decide))) (ev_k ..) (show _ = Res.ok (D.p (.bl true)) S by rw [eq_int, decide_eq_true h])) (evz_end (stret ?_)))
    have ls : evE ⟨k01C k, glOf k01_gl⟩ (.ls (.cons (.k (.int 0)) (.cons (.k (.int 1)) (.cons (.k (.int 9)) (.cons (.k (.int 10)) (.cons (.k (.int 99)) (.cons (.k (.int 100)) (.cons (.k (.int 998)) (.cons (.k (.int 999)) .nil))))))))) [some (.p (.int a)), some (.p (.int b))] S = .ok (.ref S.length) (S ++ [.pl ([0, 1, 9, 10, 99, 100, 998, 999].map .int)]) := by
      rw [ev_ls, es1 (ev_k ..) (es1 (ev_k ..) (es1 (ev_k ..) (es1 (ev_k ..) (es1 (ev_k ..) (es1 (ev_k ..) (es1 (ev_k ..) (es1 (ev_k ..) es0)))))))]; rfl
    exact eix ls (ebin (eblt1 (evv rfl) iint) (ev_k ..) (bin_mod (by decide))) (ix_int (by simp [dataOf]) b8.1 (by show _ < ((8 : Nat) : Int); omega))
  · have b0 := md (x := b) (m := 1000) (by decide)
    refine ⟨b % 1000, b0.1, by omega, fun S => call_of (e := k01_E_law_part) rfl rfl (runB_rt (S' := S) (d := .p (.int (b % 1000))) ?_ (tidy_p _))⟩
    show evCz ⟨k01C k, glOf k01_gl⟩ k01_law_part.body [some (.p (.int a)), some (.p (.int b))] S = _
    unfold k01_law_part
    dsimp only
    rw [evz_step (stif0 (ecmp (ebin (eblt1 (evv rfl) iint) (ev_k ..) (bin_mod (by decide))) (ev_k ..) (show _ = Res.ok (D.p (.bl false)) S by rw [eq_int, decide_eq_false h])))]
    exact evz_end (stret (ebin (eblt1 (evv rfl) iint) (ev_k ..) (bin_mod (by decide))))
theorem k01_drawn {row : List Int} (hd : dataOf (.ref n) S = some (row.map .int)) (m : Nat) (hm : m + 8 ≤ row.length) : ∃ x, R4 x ∧ k01C (k + 2) 12 [.ref n, .p (.int (m : Int))] S = .ok (.p (q4 x)) S := by
  have r : ∀ j : Nat, j < 8 → ixI (.ref n) (.p (.int ((m : Int) + j))) S = .ok (.p (.int row[m + j]!)) S := fun j hj => by
    have := ix_int (S := S) (i := (m : Int) + j) hd (by omega) (by omega)
    rw [this, show ((m : Int) + j).toNat = m + j by omega]
  have r0 : ixI (.ref n) (.p (.int (m : Int))) S = .ok (.p (.int row[m + 0]!)) S := by have := r 0 (by decide); simpa using this
  obtain ⟨v1, p1, p1', h1⟩ := k01_part_ok (k := k) row[m + 0]! row[m + 1]!
  obtain ⟨v2, p2, p2', h2⟩ := k01_part_ok (k := k) row[m + 2]! row[m + 3]!
  obtain ⟨v3, p3, p3', h3⟩ := k01_part_ok (k := k) row[m + 4]! row[m + 5]!
  obtain ⟨v4, p4, p4', h4⟩ := k01_part_ok (k := k) row[m + 6]! row[m + 7]!
  refine ⟨(v1, v2, v3, v4), ⟨p1, p1', p2, p2', p3, p3', p4, p4'⟩, call_of (e := k01_E_law_drawn) rfl rfl (runB_rt (S' := S) (d := .p (q4 (v1, v2, v3, v4))) ?_ (tidy_p _))⟩
  show evCz ⟨k01C (k + 1), glOf k01_gl⟩ k01_law_drawn.body [some (.ref n), some (.p (.int (m : Int))), none] S = _
  unfold k01_law_drawn
  dsimp only
  have ix : ∀ (z : Int) (j : Nat) (o : Option D), z = (j : Int) → j < 8 → evE ⟨k01C (k + 1), glOf k01_gl⟩ (.ix (.v 0) (.bin .Add (.v 1) (.k (.int z)))) [some (.ref n), some (.p (.int (m : Int))), o] S = .ok (.p (.int row[m + j]!)) S := fun z j o hz hj => by
    subst hz
    exact eix (evv rfl) (ebin (evv rfl) (ev_k ..) (bin_add ..)) (r j hj)
  have ix0 : ∀ (o : Option D), evE ⟨k01C (k + 1), glOf k01_gl⟩ (.ix (.v 0) (.v 1)) [some (.ref n), some (.p (.int (m : Int))), o] S = .ok (.p (.int row[m + 0]!)) S := fun o => eix (evv rfl) (evv rfl) r0
  have t1 : evE ⟨k01C (k + 1), glOf k01_gl⟩ (.tp (.cons (.call 11 (.cons (.ix (.v 0) (.v 1)) (.cons (.ix (.v 0) (.bin .Add (.v 1) (.k (.int 1)))) .nil))) (.cons (.call 11 (.cons (.ix (.v 0) (.bin .Add (.v 1) (.k (.int 2)))) (.cons (.ix (.v 0) (.bin .Add (.v 1) (.k (.int 3)))) .nil))) .nil))) [some (.ref n), some (.p (.int (m : Int))), none] S = .ok (.p (.tup [.int v1, .int v2])) S := by
    rw [ev_tp, es1 (ecall2 (ix0 _) (ix 1 1 _ rfl (by decide)) (h1 S)) (es1 (ecall2 (ix 2 2 _ rfl (by decide)) (ix 3 3 _ rfl (by decide)) (h2 S)) es0)]; rfl
  rw [evz_step (stasg (ρ1 := [some (.ref n), some (.p (.int (m : Int))), some (.p (.tup [.int v1, .int v2]))]) t1 rfl)]
  have t2 : evE ⟨k01C (k + 1), glOf k01_gl⟩ (.tp (.cons (.call 11 (.cons (.ix (.v 0) (.bin .Add (.v 1) (.k (.int 4)))) (.cons (.ix (.v 0) (.bin .Add (.v 1) (.k (.int 5)))) .nil))) (.cons (.call 11 (.cons (.ix (.v 0) (.bin .Add (.v 1) (.k (.int 6)))) (.cons (.ix (.v 0) (.bin .Add (.v 1) (.k (.int 7)))) .nil))) .nil))) [some (.ref n), some (.p (.int (m : Int))), some (.p (.tup [.int v1, .int v2]))] S = .ok (.p (.tup [.int v3, .int v4])) S := by
    rw [ev_tp, es1 (ecall2 (ix 4 4 _ rfl (by decide)) (ix 5 5 _ rfl (by decide)) (h3 S)) (es1 (ecall2 (ix 6 6 _ rfl (by decide)) (ix 7 7 _ rfl (by decide)) (h4 S)) es0)]; rfl
  exact evz_end (stret (ebin (evv rfl) t2 (bin_addT (by show 2 + 2 ≤ LINE; decide))))
theorem k01_sign_ok (i : Int) : ∃ c, ∀ S, k01C (k + 1) 20 [.p (.int i)] S = .ok (.p (.str [c])) S := by
  have s1 : ∀ S, evC ⟨k01C k, glOf k01_gl⟩ (.asg (.nm 1) (.k (.str [48, 49, 50, 51, 52, 53, 54, 55, 56, 57, 46, 45]))) [some (.p (.int i)), none, none] S = .nx [some (.p (.int i)), some (.p (.str [48, 49, 50, 51, 52, 53, 54, 55, 56, 57, 46, 45])), none] S := fun S => stasg (ev_k ..) rfl
  have body : ∀ (c : Nat), (∀ S, evCz ⟨k01C k, glOf k01_gl⟩ k01_law_sign.body [some (.p (.int i)), none, none] S = .rt (.p (.str [c])) S) → ∃ c, ∀ S, k01C (k + 1) 20 [.p (.int i)] S = .ok (.p (.str [c])) S := fun c h =>
    ⟨c, fun S => call_of (e := k01_E_law_sign) rfl rfl (runB_rt (S' := S) (d := .p (.str [c])) (h S) (tidy_p _))⟩
  by_cases h : i % 5 < 4
  · have b := md (x := i / 5) (m := 12) (by decide)
    refine body ([48, 49, 50, 51, 52, 53, 54, 55, 56, 57, 46, 45] : Cs)[(i / 5 % 12).toNat]! fun S => ?_
    unfold k01_law_sign
    dsimp only
    rw [evz_step (s1 S), evz_step (stasg (ev_k ..) rfl)]
    refine evz_end (stif1 (ecmp (ebin (eblt1 (evv rfl) iint) (ev_k ..) (bin_mod (by decide))) (ev_k ..) (by rw [cmp_lt, decide_eq_true h])) (evz_end (stret ?_)))
    exact eix (evv rfl) (ebin (ebin (evv rfl) (ev_k ..) (bin_div (by decide))) (eblt1 (evv rfl) (len_str ..)) (bin_mod (by decide))) (ix_str b.1 (by show _ < ((12 : Nat) : Int); exact b.2))
  · have b := md (x := i / 5) (m := 70) (by decide)
    refine body ([32, 33, 34, 35, 36, 38, 39, 40, 41, 42, 43, 44, 45, 46, 47, 48, 49, 50, 51, 52, 53, 54, 55, 56, 57, 58, 59, 60, 61, 62, 63, 64, 65, 90, 91, 92, 93, 94, 95, 97, 98, 99, 100, 101, 102, 103, 104, 105, 106, 107, 108, 109, 110, 111, 112, 113, 114, 115, 116, 117, 118, 119, 120, 121, 122, 123, 124, 125, 126, 10] : Cs)[(i / 5 % 70).toNat]! fun S => ?_
    unfold k01_law_sign
    dsimp only
    rw [evz_step (s1 S), evz_step (stasg (ev_k ..) rfl), evz_step (stif0 (ecmp (ebin (eblt1 (evv rfl) iint) (ev_k ..) (bin_mod (by decide))) (ev_k ..) (by rw [cmp_lt, decide_eq_false h])))]
    refine evz_end (stret ?_)
    exact eix (evv rfl) (ebin (ebin (evv rfl) (ev_k ..) (bin_div (by decide))) (eblt1 (evv rfl) (len_str ..)) (bin_mod (by decide))) (ix_str b.1 (by show _ < ((70 : Nat) : Int); exact b.2))
end
end PH

set_option maxHeartbeats 8000000
namespace PH
open L2 PySem PySem.Spec PyProof.Rows
def tails : List Cs := [[], [48], [48, 48], [48, 57], [57, 57, 56], [57, 57, 57], [49, 48, 48, 48], [55, 45, 55], [55, 46, 55]]
section
variable {S : Sto} {k n : Nat}
theorem slH_str {M : Mo} {ρ : Nv} {a b : E} {t : Cs} {i : Int} (h1 : evE M a ρ S = .ok (.p (.str t)) S) (h2 : evE M b ρ S = .ok (.p (.int i)) S) : evE M (.slH a b) ρ S = .ok (.p (.str (cut t none (some i)))) S := by
  rw [ev_slH, h1, Res.bind_ok', h2, Res.bind_ok', asInt_int]; rfl
theorem slL_str {M : Mo} {ρ : Nv} {a b : E} {t : Cs} {i : Int} (h1 : evE M a ρ S = .ok (.p (.str t)) S) (h2 : evE M b ρ S = .ok (.p (.int i)) S) : evE M (.slL a b) ρ S = .ok (.p (.str (cut t (some i) none))) S := by
  rw [ev_slL, h1, Res.bind_ok', h2, Res.bind_ok', asInt_int]; rfl
theorem slH_tup {M : Mo} {ρ : Nv} {a b : E} {t : List PD} {i : Int} (h1 : evE M a ρ S = .ok (.p (.tup t)) S) (h2 : evE M b ρ S = .ok (.p (.int i)) S) : evE M (.slH a b) ρ S = .ok (.p (.tup (cut t none (some i)))) S := by
  rw [ev_slH, h1, Res.bind_ok', h2, Res.bind_ok', asInt_int]; rfl
theorem slL_tup {M : Mo} {ρ : Nv} {a b : E} {t : List PD} {i : Int} (h1 : evE M a ρ S = .ok (.p (.tup t)) S) (h2 : evE M b ρ S = .ok (.p (.int i)) S) : evE M (.slL a b) ρ S = .ok (.p (.tup (cut t (some i) none))) S := by
  rw [ev_slL, h1, Res.bind_ok', h2, Res.bind_ok', asInt_int]; rfl
theorem k01_spoilt_ok {x : Q4} (hx : R4 x) {row more : List Int} {q : Nat} (hd : dataOf (.ref n) S = some (row.map .int)) (hq : S[q]? = some (.pl (more.map .int))) (m : Nat) (hm : m + 3 ≤ row.length) (hmore : more.length ≤ 1000) :
    ∃ t, t.length ≤ 2000 ∧ k01C (k + 2) 21 [.p (q4 x), .ref n, .p (.int (m : Int)), .ref q] S = .ok (.p (.str t)) S := by
  have r : ∀ (z : Int) (j : Nat), z = (j : Int) → j < 3 → ixI (.ref n) (.p (.int ((m : Int) + z))) S = .ok (.p (.int row[m + j]!)) S := fun z j hz hj => by
    subst hz
    have := ix_int (S := S) (i := (m : Int) + j) hd (by omega) (by omega)
    rw [this, show ((m : Int) + j).toNat = m + j by omega]
  have r0 : ixI (.ref n) (.p (.int (m : Int))) S = .ok (.p (.int row[m + 0]!)) S := by have := r 0 0 rfl (by decide); simpa using this
  have r1 := r 1 1 rfl (by decide)
  have r2 := r 2 2 rfl (by decide)
  generalize row[m + 0]! = x0 at r0
  generalize row[m + 1]! = x1 at r1
  generalize row[m + 2]! = x2 at r2
  obtain ⟨c, hc⟩ := k01_sign_ok (k := k) x2
  have hl := vtx_len hx
  have tx := k01_ltext (k := k) (S := S) hx
  let ρ (b : Option D) : Nv := [some (.p (q4 x)), some (.ref n), some (.p (.int (m : Int))), some (.ref q), some (.p (.str (vtx x))), some (.p (.int (x0 % 8))), some (.p (.int (x1 % ((vtx x).length + 1)))), some (.p (.str [c])), b, none]
  have pre : ∀ (d : PD), (∀ S' , S' = S → evCz ⟨k01C (k + 1), glOf k01_gl⟩ (match k01_law_spoilt.body with | .cons _ (.cons _ (.cons _ (.cons _ r))) => r | _ => .nil) (ρ none) S' = .rt (.p d) S') → k01C (k + 2) 21 [.p (q4 x), .ref n, .p (.int (m : Int)), .ref q] S = .ok (.p d) S := fun d h => by
    refine call_of (e := k01_E_law_spoilt) rfl rfl (runB_rt (S' := S) (d := .p d) ?_ (tidy_p _))
    show evCz ⟨k01C (k + 1), glOf k01_gl⟩ k01_law_spoilt.body [some (.p (q4 x)), some (.ref n), some (.p (.int (m : Int))), some (.ref q), none, none, none, none, none, none] S = _
    unfold k01_law_spoilt at h ⊢
    dsimp only at h ⊢
    rw [evz_step (stasg (ecall1 (evv rfl) tx) rfl), evz_step (stasg (ebin (eblt1 (eix (evv rfl) (evv rfl) r0) iint) (ev_k ..) (bin_mod (by decide))) rfl)]
    rw [evz_step (stasg (ebin (eblt1 (eix (evv rfl) (ebin (evv rfl) (ev_k ..) (bin_add ..)) r1) iint) (ebin (eblt1 (evv rfl) (len_str ..)) (ev_k ..) (bin_add ..)) (bin_mod (by omega))) rfl)]
    rw [evz_step (stasg (ecall1 (eix (evv rfl) (ebin (evv rfl) (ev_k ..) (bin_add ..)) r2) (hc S)) rfl)]
    exact h S rfl
  have eqw : ∀ (z : Int) (M : Mo) (S : Sto), evE M (.cmp .Eq (.v 5) (.k (.int z))) (ρ none) S = .ok (.p (.bl (decide (x0 % 8 = z)))) S := fun z M S => ecmp (evv rfl) (ev_k ..) (eq_int ..)
  have eqo : ∀ (z y : Int) (M : Mo) (S : Sto), evE M (.bo .Or (.cons (.cmp .Eq (.v 5) (.k (.int z))) (.cons (.cmp .Eq (.v 5) (.k (.int y))) .nil))) (ρ none) S = .ok (.p (.bl (decide (x0 % 8 = z) || decide (x0 % 8 = y)))) S := fun z y M S => eor2 (eqw z M S) (eqw y M S)
  have c1 : ∀ i, (cut (vtx x) none (some i)).length ≤ 20 := fun i => Nat.le_trans (cut_len ..) hl
  have c2 : ∀ i, (cut (vtx x) (some i) none).length ≤ 20 := fun i => Nat.le_trans (cut_len ..) hl
  have sH : ∀ (M : Mo) (S : Sto), evE M (.slH (.v 4) (.v 6)) (ρ none) S = .ok (.p (.str (cut (vtx x) none (some (x1 % ((vtx x).length + 1)))))) S := fun M S => slH_str (evv rfl) (evv rfl)
  have sL : ∀ (M : Mo) (S : Sto), evE M (.slL (.v 4) (.v 6)) (ρ none) S = .ok (.p (.str (cut (vtx x) (some (x1 % ((vtx x).length + 1))) none))) S := fun M S => slL_str (evv rfl) (evv rfl)
  have sL1 : ∀ (M : Mo) (S : Sto), evE M (.slL (.v 4) (.bin .Add (.v 6) (.k (.int 1)))) (ρ none) S = .ok (.p (.str (cut (vtx x) (some (x1 % ((vtx x).length + 1) + 1)) none))) S := fun M S => slL_str (evv rfl) (ebin (evv rfl) (ev_k ..) (bin_add ..))
  have small2 : ∀ {a b : Cs}, a.length ≤ 40 → b.length ≤ 40 → a.length + b.length ≤ LINE := fun h1 h2 => by unfold LINE; omega
  have w := md (x := x0) (m := 8) (by decide)
  by_cases h0 : x0 % 8 = 0
  · refine ⟨vtx x, by omega, pre _ fun S' e => ?_⟩
    subst e
    unfold k01_law_spoilt
    dsimp only
    exact evz_end (stif1 (by rw [eqw, decide_eq_true h0]) (evz_end (stret (evv rfl))))
  by_cases h12 : x0 % 8 = 1 ∨ x0 % 8 = 2
  · refine ⟨cut (vtx x) none (some (x1 % ((vtx x).length + 1))) ++ [c] ++ cut (vtx x) (some (x1 % ((vtx x).length + 1))) none, by have := c1 (x1 % ((vtx x).length + 1)); have := c2 (x1 % ((vtx x).length + 1)); simp; omega, pre _ fun S' e => ?_⟩
    subst e
    unfold k01_law_spoilt
    dsimp only
    rw [evz_step (stif0 (by rw [eqw, decide_eq_false h0]))]
    refine evz_end (stif1 (by rw [eqo]; congr 3; simpa using h12) (evz_end (stret ?_)))
    refine ebin (ebin (sH _ _) (evv rfl) (bin_addS (small2 (Nat.le_trans (c1 _) (by decide)) (by show 1 ≤ 40; decide)))) (sL _ _) (bin_addS (small2 ?_ (Nat.le_trans (c2 _) (by decide))))
    have := c1 (x1 % ((vtx x).length + 1)); simp; omega
  by_cases h3 : x0 % 8 = 3
  · refine ⟨cut (vtx x) none (some (x1 % ((vtx x).length + 1))) ++ cut (vtx x) (some (x1 % ((vtx x).length + 1) + 1)) none, by have := c1 (x1 % ((vtx x).length + 1)); have := c2 (x1 % ((vtx x).length + 1) + 1); simp; omega, pre _ fun S' e => ?_⟩
    subst e
    unfold k01_law_spoilt
    dsimp only
    rw [evz_step (stif0 (by rw [eqw, decide_eq_false h0])), evz_step (stif0 (by rw [eqo]; congr 3; simpa using h12))]
    refine evz_end (stif1 (by rw [eqw, decide_eq_true h3]) (evz_end (stret ?_)))
    exact ebin (sH _ _) (sL1 _ _) (bin_addS (small2 (Nat.le_trans (c1 _) (by decide)) (Nat.le_trans (c2 _) (by decide))))
  by_cases h45 : x0 % 8 = 4 ∨ x0 % 8 = 5
  · refine ⟨cut (vtx x) none (some (x1 % ((vtx x).length + 1))) ++ [c] ++ cut (vtx x) (some (x1 % ((vtx x).length + 1) + 1)) none, by have := c1 (x1 % ((vtx x).length + 1)); have := c2 (x1 % ((vtx x).length + 1) + 1); simp; omega, pre _ fun S' e => ?_⟩
    subst e
    unfold k01_law_spoilt
    dsimp only
    rw [evz_step (stif0 (by rw [eqw, decide_eq_false h0])), evz_step (stif0 (by rw [eqo]; congr 3; simpa using h12)), evz_step (stif0 (by rw [eqw, decide_eq_false h3]))]
    refine evz_end (stif1 (by rw [eqo]; congr 3; simpa using h45) (evz_end (stret ?_)))
    refine ebin (ebin (sH _ _) (evv rfl) (bin_addS (small2 (Nat.le_trans (c1 _) (by decide)) (by show 1 ≤ 40; decide)))) (sL1 _ _) (bin_addS (small2 ?_ (Nat.le_trans (c2 _) (by decide))))
    have := c1 (x1 % ((vtx x).length + 1)); simp; omega
  by_cases h6 : x0 % 8 = 6
  · have b9 := md (x := x2) (m := 9) (by decide)
    have hx' : R4 (x.1, x.2.1, x.2.2.1, 999) := ⟨hx.a0, hx.a1, hx.b0, hx.b1, hx.c0, hx.c1, by show (0 : Int) ≤ 999; decide, by show (999 : Int) ≤ 999; decide⟩
    have hl' := vtx_len hx'
    have tl : (tails[(x2 % 9).toNat]!).length ≤ 4 := by
      have all : ∀ i : Nat, i < 9 → (tails[i]!).length ≤ 4 := by decide
      exact all _ (by omega)
    refine ⟨vtx (x.1, x.2.1, x.2.2.1, 999) ++ [45] ++ tails[(x2 % 9).toNat]!, by rw [List.length_append, List.length_append, List.length_singleton]; omega, ?_⟩
    -- the list of tails is made within
    refine call_of (e := k01_E_law_spoilt) rfl rfl (runB_rt (S' := S ++ [.pl (tails.map .str)]) (d := .p (.str (vtx (x.1, x.2.1, x.2.2.1, 999) ++ [45] ++ tails[(x2 % 9).toNat]!))) ?_ (tidy_pa _ _))
    show evCz ⟨k01C (k + 1), glOf k01_gl⟩ k01_law_spoilt.body [some (.p (q4 x)), some (.ref n), some (.p (.int (m : Int))), some (.ref q), none, none, none, none, none, none] S = _
    unfold k01_law_spoilt
    dsimp only
    rw [evz_step (stasg (ecall1 (evv rfl) tx) rfl), evz_step (stasg (ebin (eblt1 (eix (evv rfl) (evv rfl) r0) iint) (ev_k ..) (bin_mod (by decide))) rfl)]
    rw [evz_step (stasg (ebin (eblt1 (eix (evv rfl) (ebin (evv rfl) (ev_k ..) (bin_add ..)) r1) iint) (ebin (eblt1 (evv rfl) (len_str ..)) (ev_k ..) (bin_add ..)) (bin_mod (by omega))) rfl)]
    rw [evz_step (stasg (ecall1 (eix (evv rfl) (ebin (evv rfl) (ev_k ..) (bin_add ..)) r2) (hc S)) rfl)]
    show evCz _ _ (ρ none) S = _
    rw [evz_step (stif0 (by rw [eqw, decide_eq_false h0])), evz_step (stif0 (by rw [eqo]; congr 3; simpa using h12)), evz_step (stif0 (by rw [eqw, decide_eq_false h3])), evz_step (stif0 (by rw [eqo]; congr 3; simpa using h45))]
    refine evz_end (stif1 (by rw [eqw, decide_eq_true h6]) ?_)
    have ls : evE ⟨k01C (k + 1), glOf k01_gl⟩ (.ls (.cons (.k (.str [])) (.cons (.k (.str [48])) (.cons (.k (.str [48, 48])) (.cons (.k (.str [48, 57])) (.cons (.k (.str [57, 57, 56])) (.cons (.k (.str [57, 57, 57])) (.cons (.k (.str [49, 48, 48, 48])) (.cons (.k (.str [55, 45, 55])) (.cons (.k (.str [55, 46, 55])) .nil)))))))))) (ρ none) S = .ok (.ref S.length) (S ++ [.pl (tails.map .str)]) := by
      rw [ev_ls, es1 (ev_k ..) (es1 (ev_k ..) (es1 (ev_k ..) (es1 (ev_k ..) (es1 (ev_k ..) (es1 (ev_k ..) (es1 (ev_k ..) (es1 (ev_k ..) (es1 (ev_k ..) es0))))))))]; rfl
    rw [evz_step (stasg (ρ1 := ρ (some (.ref S.length))) ls rfl)]
    have r2' : ixI (.ref n) (.p (.int ((m : Int) + 2))) (S ++ [.pl (tails.map .str)]) = .ok (.p (.int x2)) (S ++ [.pl (tails.map .str)]) := by
      have h1 := ix_int (S := S) (i := (m : Int) + 2) hd (by omega) (by omega)
      have h2 := ix_int (S := S ++ [.pl (tails.map .str)]) (i := (m : Int) + 2) (data_app hd _) (by omega) (by omega)
      rw [r2] at h1
      rw [h2]
      simp only [Res.ok.injEq, D.p.injEq, PD.int.injEq, and_true] at h1
      rw [h1]
    refine evz_end (stret ?_)
    have sl3 : evE ⟨k01C (k + 1), glOf k01_gl⟩ (.slH (.v 0) (.k (.int 3))) (ρ (some (.ref S.length))) (S ++ [.pl (tails.map .str)]) = .ok (.p (.tup [.int x.1, .int x.2.1, .int x.2.2.1])) (S ++ [.pl (tails.map .str)]) := slH_tup (t := [.int x.1, .int x.2.1, .int x.2.2.1, .int x.2.2.2]) (i := 3) (evv rfl) (ev_k ..)
    have t9 : evE ⟨k01C (k + 1), glOf k01_gl⟩ (.bin .Add (.slH (.v 0) (.k (.int 3))) (.tp (.cons (.k (.int 999)) .nil))) (ρ (some (.ref S.length))) (S ++ [.pl (tails.map .str)]) = .ok (.p (q4 (x.1, x.2.1, x.2.2.1, 999))) (S ++ [.pl (tails.map .str)]) :=
      ebin sl3 (by rw [ev_tp, es1 (ev_k ..) es0]; rfl) (bin_addT (by show 3 + 1 ≤ LINE; decide))
    have tx' := k01_ltext (k := k) (S := S ++ [.pl (tails.map .str)]) hx'
    have ixt : ixI (.ref S.length) (.p (.int (x2 % 9))) (S ++ [.pl (tails.map .str)]) = .ok (.p (.str tails[(x2 % 9).toNat]!)) (S ++ [.pl (tails.map .str)]) :=
      ix_data (xs := tails.map .str) (by simp [dataOf]) (by rw [atI_map, atI_in b9.1 (by show _ < ((9 : Nat) : Int); exact b9.2)]; rfl)
    have lnt : bltI .len [.ref S.length] (S ++ [.pl (tails.map .str)]) = .ok (.p (.int 9)) (S ++ [.pl (tails.map .str)]) := by rw [len_ref (ob_at ..) rfl]; rfl
    exact ebin (ebin (ecall1 t9 tx') (ev_k ..) (bin_addS (small2 (Nat.le_trans hl' (by decide)) (by show 1 ≤ 40; decide)))) (eix (evv rfl) (ebin (eblt1 (eix (evv rfl) (ebin (evv rfl) (ev_k ..) (bin_add ..)) r2') iint) (eblt1 (evv rfl) lnt) (bin_mod (by decide))) ixt) (bin_addS (small2 (by simp; omega) (by omega)))
  · obtain ⟨g, hg⟩ := choice (fun i : Int => k01_sign_ok (k := k) i)
    refine ⟨more.map g, by simp; omega, ?_⟩
    refine call_of (e := k01_E_law_spoilt) rfl rfl (runB_rt (S' := S ++ [.pl (more.map fun i => .str [g i])]) (d := .p (.str (more.map g))) ?_ (tidy_pa _ _))
    show evCz ⟨k01C (k + 1), glOf k01_gl⟩ k01_law_spoilt.body [some (.p (q4 x)), some (.ref n), some (.p (.int (m : Int))), some (.ref q), none, none, none, none, none, none] S = _
    unfold k01_law_spoilt
    dsimp only
    rw [evz_step (stasg (ecall1 (evv rfl) tx) rfl), evz_step (stasg (ebin (eblt1 (eix (evv rfl) (evv rfl) r0) iint) (ev_k ..) (bin_mod (by decide))) rfl)]
    rw [evz_step (stasg (ebin (eblt1 (eix (evv rfl) (ebin (evv rfl) (ev_k ..) (bin_add ..)) r1) iint) (ebin (eblt1 (evv rfl) (len_str ..)) (ev_k ..) (bin_add ..)) (bin_mod (by omega))) rfl)]
    rw [evz_step (stasg (ecall1 (eix (evv rfl) (ebin (evv rfl) (ev_k ..) (bin_add ..)) r2) (hc S)) rfl)]
    show evCz _ _ (ρ none) S = _
    rw [evz_step (stif0 (by rw [eqw, decide_eq_false h0])), evz_step (stif0 (by rw [eqo]; congr 3; simpa using h12)), evz_step (stif0 (by rw [eqw, decide_eq_false h3])), evz_step (stif0 (by rw [eqo]; congr 3; simpa using h45)), evz_step (stif0 (by rw [eqw, decide_eq_false h6]))]
    refine evz_end (stret ?_)
    obtain ⟨wk, w1, w2, w3⟩ := wk_data (d := .ref q) (S := S) (xs := more.map .int) (by simp only [dataOf, hq])
    have lc : evE ⟨k01C (k + 1), glOf k01_gl⟩ (.lc [9] (.nm 9) (.of (.v 3)) (.call 20 (.cons (.v 9) .nil))) (ρ none) S = .ok (.ref S.length) (S ++ [.pl (more.map fun i => .str [g i])]) :=
      lc_ev (w := wk) (fun i : Int => D.p (.int i)) (fun i => .str [g i]) more (of_ev (evv rfl) w1) (by unfold LINE; omega) (by rw [w2, List.map_map]; rfl) w3 fun i _ => ⟨_, rfl, fun l => ecall1 (evv rfl) (hg i _)⟩
    rw [ev_mth, ev_k, Res.bind_ok', if_pos (recv_str _), es1 lc es0, Res.bind_ok']
    exact join_signs (s := more.map g) (by rw [List.map_map]; exact ob_at ..) (by simp [LINE]; omega)
end
end PH

set_option maxHeartbeats 8000000
namespace PH
open L2 PySem PySem.Spec PyProof.Rows
def L4 (x : Q4) : List Int := [x.1, x.2.1, x.2.2.1, x.2.2.2]
theorem q4_L (x : Q4) : q4 x = .tup ((L4 x).map .int) := rfl
theorem L4_b {x : Q4} (h : R4 x) {j : Nat} (hj : j < 4) : 0 ≤ (L4 x)[j]! ∧ (L4 x)[j]! ≤ 999 := by
  obtain ⟨a0, a1, b0, b1, c0, c1, e0, e1⟩ := h
  have : j = 0 ∨ j = 1 ∨ j = 2 ∨ j = 3 := by omega
  rcases this with rfl | rfl | rfl | rfl
  · exact ⟨a0, a1⟩
  · exact ⟨b0, b1⟩
  · exact ⟨c0, c1⟩
  · exact ⟨e0, e1⟩
section
variable {S : Sto} {k n : Nat}
theorem neg1 {M : Mo} {ρ : Nv} {i : Int} : evE M (.neg (.k (.int i))) ρ S = .ok (.p (.int (-i))) S := by rw [ev_neg, ev_k]; rfl
def nW (a v : Int) : List PD := [.int (1000 + a), .int (-1 - a), .bl true, .bl false, .non, .str (numS v), .tup [.int v]]
theorem nW_bad {a v : Int} (ha : 0 ≤ a) : ∀ i : Nat, i < 7 → okP (nW a v)[i]! = false := fun i hi => by
  have : i = 0 ∨ i = 1 ∨ i = 2 ∨ i = 3 ∨ i = 4 ∨ i = 5 ∨ i = 6 := by omega
  rcases this with rfl | rfl | rfl | rfl | rfl | rfl | rfl
  · show (decide (0 ≤ 1000 + a) && decide (1000 + a ≤ 999)) = false
    rw [decide_eq_false (by omega : ¬ 1000 + a ≤ 999), Bool.and_false]
  · show (decide (0 ≤ -1 - a) && decide (-1 - a ≤ 999)) = false
    rw [decide_eq_false (by omega : ¬ 0 ≤ -1 - a), Bool.false_and]
  all_goals rfl
theorem tidy_dc {l : Sto} {j : Nat} {kv : List (PD × D)} (h : S.length ≤ j) (h1 : (S ++ l)[j]? = some (.dc kv)) : tidy S (S ++ l) (.ref j) = .ok (.ref j) (S ++ l) := by
  unfold tidy
  split
  · dsimp only; rw [if_neg (by omega), h1]
  · rfl
theorem k01_near {x : Q4} (hx : R4 x) (a b : Int) (ha : 0 ≤ a) : ∃ d l, l.length ≤ 4 ∧ k01C (k + 2) 22 [.p (q4 x), .p (.int a), .p (.int b)] S = .ok d (S ++ l) ∧ ∀ k', k01C (k' + 3) 2 [d] (S ++ l) = .ok (.p (.bl false)) (S ++ l) := by
  have j4 := md (x := a) (m := 4) (by decide)
  have w12 := md (x := b) (m := 12) (by decide)
  have vb := L4_b hx (j := (a % 4).toNat) (by omega)
  have ixv : ∀ S, ixI (.p (q4 x)) (.p (.int (a % 4))) S = .ok (.p (.int (L4 x)[(a % 4).toNat]!)) S := fun S => by
    rw [q4_L]
    exact ix_data (xs := (L4 x).map .int) rfl (by rw [atI_map, atI_in j4.1 (by show _ < ((4 : Nat) : Int); exact j4.2)]; rfl)
  generalize hv : (L4 x)[(a % 4).toNat]! = v at ixv vb
  let ρ (o : Option D) : Nv := [some (.p (q4 x)), some (.p (.int a)), some (.p (.int b)), some (.p (.int (a % 4))), some (.p (.int (b % 12))), o]
  have lsW : evE ⟨k01C (k + 1), glOf k01_gl⟩ (.ls (.cons (.bin .Add (.k (.int 1000)) (.v 1)) (.cons (.bin .Sub (.neg (.k (.int 1))) (.v 1)) (.cons (.k (.bl true)) (.cons (.k (.bl false)) (.cons (.k (.non)) (.cons (.blt .str (.cons (.ix (.v 0) (.v 3)) .nil)) (.cons (.tp (.cons (.ix (.v 0) (.v 3)) .nil)) .nil)))))))) (ρ none) S = .ok (.ref S.length) (S ++ [.pl (nW a v)]) := by
    have e1 : evE ⟨k01C (k + 1), glOf k01_gl⟩ (.tp (.cons (.ix (.v 0) (.v 3)) .nil)) (ρ none) S = .ok (.p (.tup [.int v])) S := by
      rw [ev_tp, es1 (eix (evv rfl) (evv rfl) (ixv S)) es0]; rfl
    rw [ev_ls, es1 (ebin (ev_k ..) (evv rfl) (bin_add ..)) (es1 (ebin neg1 (evv rfl) (bin_sub ..)) (es1 (ev_k ..) (es1 (ev_k ..) (es1 (ev_k ..) (es1 (eblt1 (eix (evv rfl) (evv rfl) (ixv S)) (str_ev vb.1 (by omega))) (es1 e1 es0))))))]
    rfl
  have pre : evCz ⟨k01C (k + 1), glOf k01_gl⟩ k01_law_near.body [some (.p (q4 x)), some (.p (.int a)), some (.p (.int b)), none, none, none] S = evCz ⟨k01C (k + 1), glOf k01_gl⟩ (match k01_law_near.body with | .cons _ (.cons _ (.cons _ r)) => r | _ => .nil) (ρ (some (.ref S.length))) (S ++ [.pl (nW a v)]) := by
    unfold k01_law_near
    dsimp only
    rw [evz_step (stasg (ebin (eblt1 (evv rfl) iint) (ev_k ..) (bin_mod (by decide))) rfl), evz_step (stasg (ebin (eblt1 (evv rfl) iint) (ev_k ..) (bin_mod (by decide))) rfl)]
    exact evz_step (stasg lsW rfl)
  have run : ∀ {d : D} {S' : Sto} {r : Res D}, evCz ⟨k01C (k + 1), glOf k01_gl⟩ (match k01_law_near.body with | .cons _ (.cons _ (.cons _ r)) => r | _ => .nil) (ρ (some (.ref S.length))) (S ++ [.pl (nW a v)]) = .rt d S' → tidy S S' d = r → k01C (k + 2) 22 [.p (q4 x), .p (.int a), .p (.int b)] S = r := fun {d S' r} h ht =>
    call_of (e := k01_E_law_near) rfl rfl (runB_rt (pre.trans h) ht)
  have S1 : S ++ [] = S := List.append_nil S
  -- a result that is data
  have dat : ∀ (d : PD) (l : Sto), evCz ⟨k01C (k + 1), glOf k01_gl⟩ (match k01_law_near.body with | .cons _ (.cons _ (.cons _ r)) => r | _ => .nil) (ρ (some (.ref S.length))) (S ++ [.pl (nW a v)]) = .rt (.p d) (S ++ l) → (∀ k', k01C (k' + 3) 2 [.p d] S = .ok (.p (.bl false)) S) → ∃ d l, l.length ≤ 4 ∧ k01C (k + 2) 22 [.p (q4 x), .p (.int a), .p (.int b)] S = .ok d (S ++ l) ∧ ∀ k', k01C (k' + 3) 2 [d] (S ++ l) = .ok (.p (.bl false)) (S ++ l) := fun d l h hb =>
    ⟨.p d, [], by decide, by rw [S1]; exact run h (tidy_pa _ _), fun k' => by rw [S1]; exact hb k'⟩
  have T : Sto := S ++ [.pl (nW a v)]
  have c7 : evE ⟨k01C (k + 1), glOf k01_gl⟩ (.cmp .Lt (.v 4) (.k (.int 7))) (ρ (some (.ref S.length))) (S ++ [.pl (nW a v)]) = .ok (.p (.bl (decide (b % 12 < 7)))) (S ++ [.pl (nW a v)]) := ecmp (evv rfl) (ev_k ..) (cmp_lt ..)
  have ce : ∀ z : Int, evE ⟨k01C (k + 1), glOf k01_gl⟩ (.cmp .Eq (.v 4) (.k (.int z))) (ρ (some (.ref S.length))) (S ++ [.pl (nW a v)]) = .ok (.p (.bl (decide (b % 12 = z)))) (S ++ [.pl (nW a v)]) := fun z => ecmp (evv rfl) (ev_k ..) (eq_int ..)
  have sH : ∀ (e : E) (i : Int), evE ⟨k01C (k + 1), glOf k01_gl⟩ e (ρ (some (.ref S.length))) (S ++ [.pl (nW a v)]) = .ok (.p (.int i)) (S ++ [.pl (nW a v)]) → evE ⟨k01C (k + 1), glOf k01_gl⟩ (.slH (.v 0) e) (ρ (some (.ref S.length))) (S ++ [.pl (nW a v)]) = .ok (.p (.tup (cut ((L4 x).map .int) none (some i)))) (S ++ [.pl (nW a v)]) := fun e i h => slH_tup (t := (L4 x).map .int) (evv rfl) h
  have lc : ∀ lo hi, (cut ((L4 x).map PD.int) lo hi).length ≤ 4 := fun lo hi => cut_len ((L4 x).map PD.int) lo hi
  by_cases h7 : b % 12 < 7
  · rw [decide_eq_true h7] at c7
    have ixw : ixI (.ref S.length) (.p (.int (b % 12))) (S ++ [.pl (nW a v)]) = .ok (.p (nW a v)[(b % 12).toNat]!) (S ++ [.pl (nW a v)]) :=
      ix_data (xs := nW a v) (by simp [dataOf]) (atI_in w12.1 (by show _ < ((7 : Nat) : Int); exact h7))
    refine dat (.tup (cut ((L4 x).map .int) none (some (a % 4)) ++ [(nW a v)[(b % 12).toNat]!] ++ cut ((L4 x).map .int) (some (a % 4 + 1)) none)) [.pl (nW a v)] ?_ fun k' => ?_
    · unfold k01_law_near
      dsimp only
      refine evz_end (stif1 c7 (evz_end (stret ?_)))
      have t1 : evE ⟨k01C (k + 1), glOf k01_gl⟩ (.tp (.cons (.ix (.v 5) (.v 4)) .nil)) (ρ (some (.ref S.length))) (S ++ [.pl (nW a v)]) = .ok (.p (.tup [(nW a v)[(b % 12).toNat]!])) (S ++ [.pl (nW a v)]) := by
        rw [ev_tp, es1 (eix (evv rfl) (evv rfl) ixw) es0]; rfl
      have sL : evE ⟨k01C (k + 1), glOf k01_gl⟩ (.slL (.v 0) (.bin .Add (.v 3) (.k (.int 1)))) (ρ (some (.ref S.length))) (S ++ [.pl (nW a v)]) = .ok (.p (.tup (cut ((L4 x).map .int) (some (a % 4 + 1)) none))) (S ++ [.pl (nW a v)]) := slL_tup (t := (L4 x).map .int) (evv rfl) (ebin (evv rfl) (ev_k ..) (bin_add ..))
      have l1 := lc none (some (a % 4))
      have l2 := lc (some (a % 4 + 1)) none
      exact ebin (ebin (sH _ _ (evv rfl)) t1 (bin_addT (by unfold LINE; simp at l1 ⊢; omega))) sL (bin_addT (by unfold LINE; simp at l1 l2 ⊢; omega))
    · have l1 := lc none (some (a % 4))
      have l2 := lc (some (a % 4 + 1)) none
      rw [k01_isver _ (by simp at l1 l2 ⊢; omega)]
      have : (cut ((L4 x).map PD.int) none (some (a % 4)) ++ [(nW a v)[(b % 12).toNat]!] ++ cut ((L4 x).map PD.int) (some (a % 4 + 1)) none).all okP = false := by
        rw [List.all_append, List.all_append, List.all_cons, nW_bad ha _ (by omega)]; simp
      rw [this, Bool.and_false]
  rw [decide_eq_false h7] at c7
  have e7 := ce 7
  by_cases h7' : b % 12 = 7
  · rw [decide_eq_true h7'] at e7
    have ls := list_ev (d := .p (q4 x)) (S := S ++ [.pl (nW a v)]) (xs := (L4 x).map .int) rfl
    refine ⟨.ref S.length, [.pl ((L4 x).map .int)], by show 1 ≤ 4; decide, run (d := .ref (S.length + 1)) (S' := S ++ [.pl (nW a v), .pl ((L4 x).map .int)]) ?_ (tidy_new' (by omega) (by simp)), fun k' => k01_isver_no ?_ ?_⟩
    · unfold k01_law_near
      dsimp only
      rw [evz_step (stif0 c7)]
      refine evz_end (stif1 e7 (evz_end (stret ?_)))
      rw [eblt1 (evv rfl) ls]
      simp
    · simp [known, Sto.isO]
    · rfl
  rw [decide_eq_false h7'] at e7
  have e8 := ce 8
  by_cases h8 : b % 12 = 8
  · rw [decide_eq_true h8] at e8
    refine dat (.tup (cut ((L4 x).map .int) none (some 3))) [.pl (nW a v)] ?_ fun k' => ?_
    · unfold k01_law_near
      dsimp only
      rw [evz_step (stif0 c7), evz_step (stif0 e7)]
      exact evz_end (stif1 e8 (evz_end (stret (sH _ _ (ev_k ..)))))
    · rw [k01_isver _ (by have := lc none (some 3); omega)]; rfl
  rw [decide_eq_false h8] at e8
  have e9 := ce 9
  by_cases h9 : b % 12 = 9
  · rw [decide_eq_true h9] at e9
    refine dat (.tup ((L4 x).map .int ++ [.int v])) [.pl (nW a v)] ?_ fun k' => ?_
    · unfold k01_law_near
      dsimp only
      rw [evz_step (stif0 c7), evz_step (stif0 e7), evz_step (stif0 e8)]
      refine evz_end (stif1 e9 (evz_end (stret ?_)))
      refine ebin (evv (d := .p (.tup ((L4 x).map .int))) rfl) (d2 := .p (.tup [.int v])) (S2 := S ++ [.pl (nW a v)]) ?_ (bin_addT (by show 4 + 1 ≤ LINE; decide))
      rw [ev_tp, es1 (eix (evv rfl) (evv rfl) (ixv _)) es0]; rfl
    · rw [k01_isver _ (by show 5 ≤ 100; decide)]; rfl
  rw [decide_eq_false h9] at e9
  have e10 := ce 10
  by_cases h10 : b % 12 = 10
  · rw [decide_eq_true h10] at e10
    refine dat (.str (vtx x)) [.pl (nW a v)] ?_ fun k' => k01_isver_no rfl rfl
    unfold k01_law_near
    dsimp only
    rw [evz_step (stif0 c7), evz_step (stif0 e7), evz_step (stif0 e8), evz_step (stif0 e9)]
    exact evz_end (stif1 e10 (evz_end (stret (ecall1 (evv rfl) (k01_ltext hx)))))
  rw [decide_eq_false h10] at e10
  -- the last row
  have b6 := md (x := a / 4) (m := 6) (by decide)
  let last : List D := [.p .non, .p (.tup []), .ref (S.length + 1), .p (.int 7), .ref (S.length + 2), .p (.tup [q4 x])]
  have ll : evE ⟨k01C (k + 1), glOf k01_gl⟩ (.ls (.cons (.k (.non)) (.cons (.tp .nil) (.cons (.ls .nil) (.cons (.k (.int 7)) (.cons .d0 (.cons (.tp (.cons (.v 0) .nil)) .nil))))))) (ρ (some (.ref S.length))) (S ++ [.pl (nW a v)]) = .ok (.ref (S.length + 3)) (S ++ [.pl (nW a v), .pl [], .dc [], .ml last]) := by
    have t0 : ∀ {ρ : Nv} {S : Sto}, evE ⟨k01C (k + 1), glOf k01_gl⟩ (.tp .nil) ρ S = .ok (.p (.tup [])) S := fun {ρ S} => by rw [ev_tp, es0]; rfl
    have l0 : evE ⟨k01C (k + 1), glOf k01_gl⟩ (.ls .nil) (ρ (some (.ref S.length))) (S ++ [.pl (nW a v)]) = .ok (.ref (S.length + 1)) (S ++ [.pl (nW a v), .pl []]) := by rw [ev_ls, es0]; simp [mkL, allP]
    have dd : evE ⟨k01C (k + 1), glOf k01_gl⟩ .d0 (ρ (some (.ref S.length))) (S ++ [.pl (nW a v), .pl []]) = .ok (.ref (S.length + 2)) (S ++ [.pl (nW a v), .pl [], .dc []]) := by rw [ev_d0]; simp
    have tq : evE ⟨k01C (k + 1), glOf k01_gl⟩ (.tp (.cons (.v 0) .nil)) (ρ (some (.ref S.length))) (S ++ [.pl (nW a v), .pl [], .dc []]) = .ok (.p (.tup [q4 x])) (S ++ [.pl (nW a v), .pl [], .dc []]) := by
      rw [ev_tp, es1 (evv (d := .p (q4 x)) rfl) es0]; rfl
    rw [ev_ls, es1 (ev_k ..) (es1 t0 (es1 l0 (es1 (ev_k ..) (es1 dd (es1 tq es0)))))]
    simp [mkL, allP, last]
  have ml : Sto.lst (S ++ [.pl (nW a v), .pl [], .dc [], .ml last]) (S.length + 3) = some last := by
    have : (S ++ [.pl (nW a v), .pl [], .dc [], .ml last])[S.length + 3]? = some (.ml last) := by simp
    unfold Sto.lst
    rw [this]; rfl
  obtain ⟨i, hi, ei⟩ : ∃ i : Nat, i < 6 ∧ a / 4 % 6 = (i : Int) := ⟨(a / 4 % 6).toNat, by omega, by omega⟩
  have fin : ∀ d, last[i]? = some d → evCz ⟨k01C (k + 1), glOf k01_gl⟩ (match k01_law_near.body with | .cons _ (.cons _ (.cons _ r)) => r | _ => .nil) (ρ (some (.ref S.length))) (S ++ [.pl (nW a v)]) = .rt d (S ++ [.pl (nW a v), .pl [], .dc [], .ml last]) := fun d hd => by
    unfold k01_law_near
    dsimp only
    rw [evz_step (stif0 c7), evz_step (stif0 e7), evz_step (stif0 e8), evz_step (stif0 e9), evz_step (stif0 e10)]
    refine evz_end (stret (eix ll (ebin (ebin (evv rfl) (ev_k ..) (bin_div (by decide))) (ev_k ..) (bin_mod (by decide))) ?_))
    rw [ei]
    simp only [ixI, ml, atI_nat hd]
  have : i = 0 ∨ i = 1 ∨ i = 2 ∨ i = 3 ∨ i = 4 ∨ i = 5 := by omega
  rcases this with rfl | rfl | rfl | rfl | rfl | rfl
  · exact dat .non _ (fin _ rfl) fun k' => k01_isver_no rfl rfl
  · exact dat (.tup []) _ (fin _ rfl) fun k' => by rw [k01_isver _ (by show 0 ≤ 100; decide)]; rfl
  · refine ⟨.ref S.length, [.pl []], by show 1 ≤ 4; decide, run (fin _ rfl) (tidy_new' (by omega) (by simp)), fun k' => k01_isver_no ?_ rfl⟩
    simp [known, Sto.isO]
  · exact dat (.int 7) _ (fin _ rfl) fun k' => k01_isver_no rfl rfl
  · refine ⟨.ref (S.length + 2), [.pl (nW a v), .pl [], .dc [], .ml last], by show 4 ≤ 4; decide, run (fin _ rfl) (tidy_dc (kv := []) (by omega) (by simp)), fun k' => k01_isver_no ?_ rfl⟩
    simp [known, Sto.isO]
  · exact dat (.tup [q4 x]) _ (fin _ rfl) fun k' => by rw [k01_isver _ (by show 1 ≤ 100; decide)]; rfl
end
end PH

set_option maxHeartbeats 8000000
namespace PH
open L2 PySem PySem.Spec PyProof.Rows
section
variable {S : Sto} {k n : Nat}
def cSuite : Cz := (.cons (.ret (.bo .And (.cons (.isx 3 [1000]) (.cons (.no (.isx 3 [0])) (.cons (.cmp .Eq (.fld 3 "name") (.k (.str [99, 111, 100, 101]))) .nil)))))
    .nil)
theorem csuite_run {M : Mo} {ρ : Nv} {p q : Nat} (h : ρ[3]? = some (some (.xv p q 1 [("name", .str [99, 111, 100, 101])]))) (hM : M.glob XC = some (.tup [.int p, .int q, .int (1 : Nat)])) : evCz M cSuite ρ S = .rt (.p (.bl true)) S := by
  unfold cSuite
  have i1 := ev_isx (M := M) (S := S) (cs := [1000]) h hM
  have i2 := ev_isx (M := M) (S := S) (cs := [0]) h hM
  rw [show ([1000].any (subX 1)) = true from rfl] at i1
  rw [show ([0].any (subX 1)) = false from rfl] at i2
  exact evz_end (stret (eand1 i1 (eand1 (enot i2) (ebo1 (ecmp (ev_fld h hM rfl) (ev_k ..) (eq_str ..))))))
def cW (a : Int) (r : Nat) : List D := [.p (.int (-1)), .p (.int (-1 - a)), .p (.int K12), .p (.int (K12 + a)), .p (.bl true), .p (.bl false), .p .non, .p (.str (numS a)), .p (.tup [.int a]), .ref r]
theorem k01_nocode {a b : Int} (ha : 0 ≤ a) (ha' : a < 1000000) : k01C (k + 4) 23 [.p (.int a), .p (.int b)] S = .ok (.p (.bl true)) S := by
  have b10 := md (x := b) (m := 10) (by decide)
  let T : Sto := S ++ [.pl [.int a], .ml (cW a S.length)]
  have ls : evE ⟨k01C (k + 3), glOf k01_gl⟩ (.ls (.cons (.neg (.k (.int 1))) (.cons (.bin .Sub (.neg (.k (.int 1))) (.v 0)) (.cons (.bin .Pow (.k (.int 10)) (.k (.int 12))) (.cons (.bin .Add (.bin .Pow (.k (.int 10)) (.k (.int 12))) (.v 0)) (.cons (.k (.bl true)) (.cons (.k (.bl false)) (.cons (.k (.non)) (.cons (.blt .str (.cons (.v 0) .nil)) (.cons (.tp (.cons (.v 0) .nil)) (.cons (.ls (.cons (.v 0) .nil)) .nil))))))))))) [some (.p (.int a)), some (.p (.int b)), none, none] S = .ok (.ref (S.length + 1)) T := by
    have p12 : ∀ {ρ : Nv} {S : Sto}, evE ⟨k01C (k + 3), glOf k01_gl⟩ (.bin .Pow (.k (.int 10)) (.k (.int 12))) ρ S = .ok (.p (.int K12)) S := fun {ρ S} => ebin (ev_k ..) (ev_k ..) (by rw [bin_pow (by decide)]; rfl)
    have t1 : evE ⟨k01C (k + 3), glOf k01_gl⟩ (.tp (.cons (.v 0) .nil)) [some (.p (.int a)), some (.p (.int b)), none, none] S = .ok (.p (.tup [.int a])) S := by rw [ev_tp, es1 (evv rfl) es0]; rfl
    have l1 : evE ⟨k01C (k + 3), glOf k01_gl⟩ (.ls (.cons (.v 0) .nil)) [some (.p (.int a)), some (.p (.int b)), none, none] S = .ok (.ref S.length) (S ++ [.pl [.int a]]) := by rw [ev_ls, es1 (evv rfl) es0]; rfl
    rw [ev_ls, es1 neg1 (es1 (ebin neg1 (evv rfl) (bin_sub ..)) (es1 p12 (es1 (ebin p12 (evv rfl) (bin_add ..)) (es1 (ev_k ..) (es1 (ev_k ..) (es1 (ev_k ..) (es1 (eblt1 (evv rfl) (str_ev ha ha')) (es1 t1 (es1 l1 es0)))))))))]
    simp [mkL, allP, T, cW]
  have hT : T[S.length + 1]? = some (.ml (cW a S.length)) := by simp [T]
  have hT0 : T[S.length]? = some (.pl [.int a]) := by simp [T]
  obtain ⟨i, hi, ei⟩ : ∃ i : Nat, i < 10 ∧ b % 10 = (i : Int) := ⟨(b % 10).toNat, by omega, by omega⟩
  obtain ⟨d, hd⟩ : ∃ d, (cW a S.length)[i]? = some d := ⟨_, List.getElem?_eq_getElem (show i < (cW a S.length).length from hi)⟩
  have bad : k01C (k + 2) 1 [d, .p (.int 0), .p (.int (K12 - 1))] T = .ok (.p (.bl false)) T := by
    have num : ∀ z : Int, ¬ (0 ≤ z ∧ z ≤ K12 - 1) → k01C (k + 2) 1 [.p (.int z), .p (.int 0), .p (.int (K12 - 1))] T = .ok (.p (.bl false)) T := fun z h => by
      rw [k01_num]
      have : (decide (0 ≤ z) && decide (z ≤ K12 - 1)) = false := by
        cases q : (decide (0 ≤ z) && decide (z ≤ K12 - 1)) with
        | false => rfl
        | true => simp only [Bool.and_eq_true, decide_eq_true_eq] at q; exact absurd q h
      rw [this]
    have : i = 0 ∨ i = 1 ∨ i = 2 ∨ i = 3 ∨ i = 4 ∨ i = 5 ∨ i = 6 ∨ i = 7 ∨ i = 8 ∨ i = 9 := by omega
    rcases this with rfl | rfl | rfl | rfl | rfl | rfl | rfl | rfl | rfl | rfl <;> cases hd
    · exact num _ (by unfold K12; omega)
    · exact num _ (by unfold K12; omega)
    · exact num _ (by unfold K12; omega)
    · exact num _ (by unfold K12; omega)
    · exact k01_num_no ⟨rfl, .inr rfl⟩
    · exact k01_num_no ⟨rfl, .inr rfl⟩
    · exact k01_num_no ⟨rfl, .inl rfl⟩
    · exact k01_num_no ⟨rfl, .inl rfl⟩
    · exact k01_num_no ⟨rfl, .inl rfl⟩
    · exact k01_num_no ⟨by simp [known, Sto.isO, hT0], .inl rfl⟩
  have ix : ixI (.ref (S.length + 1)) (.p (.int (b % 10))) T = .ok d T := by rw [ei]; exact ix_ml hT (atI_nat hd)
  refine call_of (e := k01_E_law_no_code) rfl rfl (runB_rt (S' := T) (d := .p (.bl true)) ?_ (tidy_pa _ _))
  show evCz ⟨k01C (k + 3), glOf k01_gl⟩ k01_law_no_code.body [some (.p (.int a)), some (.p (.int b)), none, none] S = _
  unfold k01_law_no_code
  dsimp only
  rw [evz_step (stasg (ρ1 := [some (.p (.int a)), some (.p (.int b)), some (.ref (S.length + 1)), none]) ls rfl)]
  have hb : evCz ⟨k01C (k + 3), glOf k01_gl⟩ (.cons (.ex (.call 5 (.cons (.ix (.v 2) (.bin .Mod (.blt .int (.cons (.v 1) .nil)) (.k (.int 10)))) .nil))) .nil) [some (.p (.int a)), some (.p (.int b)), some (.ref (S.length + 1)), none] T = .exc badC [some (.p (.int a)), some (.p (.int b)), some (.ref (S.length + 1)), none] T :=
    evz_exc (stexX (ecall1 (eix (evv rfl) (ebin (eblt1 (evv rfl) iint) (ev_k ..) (bin_mod (by decide))) ix) (k01_at_no bad)))
  refine evz_end (trx_exc (fs := [("name", .str [99, 111, 100, 101])]) hb (by show 1 ∈ _; decide) (by show subX 1 1 = true; decide) rfl fun p q => ?_)
  have sr := csuite_run (S := T) (M := (Mo.mk (k01C (k + 3)) (glOf k01_gl)).at p q 1) (ρ := [some (.p (.int a)), some (.p (.int b)), some (.ref (S.length + 1)), some (.xv p q 1 [("name", .str [99, 111, 100, 101])])]) (p := p) (q := q) rfl rfl
  show (evCz _ cSuite _ _).gone 3 = _
  rw [show badC.c = 1 from rfl]
  show (evCz _ cSuite [some (.p (.int a)), some (.p (.int b)), some (.ref (S.length + 1)), some (.xv p q 1 [("name", .str [99, 111, 100, 101])])] _).gone 3 = _
  rw [sr]
  rfl
theorem at4_cd {y : Q4} (h : R4 y) : at4 (cd y) = y := by
  have b := cd_b h
  exact cd_inj (at4_R b.1 b.2) h (cd_at4 _)
theorem k01_holds (hn : S.length < 2 ^ 60) {x : Q4} (hx : R4 x) : k01C (k + 7) 24 [.p (q4 x)] S = .ok (.p (.bl true)) S := by
  refine call_of (e := k01_E_law_holds) rfl rfl (runB_rt (S' := S) (d := .p (.bl true)) ?_ (tidy_p _))
  show evCz ⟨k01C (k + 6), glOf k01_gl⟩ k01_law_holds.body [some (.p (q4 x)), none, none, none, none, none] S = _
  unfold k01_law_holds
  dsimp only
  have b := cd_b hx
  have ix : ∀ {M : Mo} {ρ : Nv} (j : Int), ρ[0]? = some (some (.p (q4 x))) → evE M (.ix (.v 0) (.k (.int j))) ρ S = ixI (.p (q4 x)) (.p (.int j)) S := fun j h => eix (evv h) (ev_k ..) rfl
  have p9 : ∀ {M : Mo} {ρ : Nv} (e z : Int), 0 ≤ e ∧ e ≤ 1000000 ∧ (10 : Int).natAbs < 2 ^ 64 → (10 : Int) ^ e.toNat = z → evE M (.bin .Pow (.k (.int 10)) (.k (.int e))) ρ S = .ok (.p (.int z)) S := fun {M ρ} e z he hz => ebin (ev_k ..) (ev_k ..) (by rw [bin_pow he, hz])
  have code : evE ⟨k01C (k + 6), glOf k01_gl⟩ (.bin .Add (.bin .Add (.bin .Add (.bin .Mult (.ix (.v 0) (.k (.int 0))) (.bin .Pow (.k (.int 10)) (.k (.int 9)))) (.bin .Mult (.ix (.v 0) (.k (.int 1))) (.bin .Pow (.k (.int 10)) (.k (.int 6))))) (.bin .Mult (.ix (.v 0) (.k (.int 2))) (.k (.int 1000)))) (.ix (.v 0) (.k (.int 3)))) [some (.p (q4 x)), none, none, none, none, none] S = .ok (.p (.int (cd x))) S := by
    have e : x.1 * 1000000000 + x.2.1 * 1000000 + x.2.2.1 * 1000 + x.2.2.2 = cd x := by unfold cd; omega
    rw [← e]
    exact ebin (ebin (ebin (ebin (ix 0 rfl) (p9 9 1000000000 (by decide) (by decide)) (bin_mulR _ (by decide))) (ebin (ix 1 rfl) (p9 6 1000000 (by decide) (by decide)) (bin_mulR _ (by decide))) (bin_add ..)) (ebin (ix 2 rfl) (ev_k ..) (bin_mulR _ (by decide))) (bin_add ..)) (ix 3 rfl) (bin_add ..)
  rw [evz_step (stasg (ρ1 := [some (.p (q4 x)), some (.p (.int (cd x))), none, none, none, none]) code rfl)]
  rw [evz_step (stasg (ρ1 := [some (.p (q4 x)), some (.p (.int (cd x))), some (.p (.int (cd x))), none, none, none]) (ecall1 (evv rfl) (k01_code (k := k + 5) x)) rfl)]
  have isv : k01C (k + 6) 2 [.p (q4 x)] S = .ok (.p (.bl true)) S := by
    have := k01_isver (k := k + 3) (S := S) ((L4 x).map .int) (by show 4 ≤ 100; decide)
    rw [q4_L, this]
    have ok : ((L4 x).map PD.int).all okP = true := by
      obtain ⟨a0, a1, b0, b1, c0, c1, e0, e1⟩ := hx
      simp [L4, okP, a0, a1, b0, b1, c0, c1, e0, e1]
    rw [ok]; rfl
  rw [evz_step (stif0 (eor0 (enot (b := true) (ecall1 (evv rfl) (k01_lint (k := k + 5) _))) (eor0 (ecmp (evv rfl) (evv rfl) (by rw [ne_int, decide_eq_true rfl]; rfl)) (ebo1 (ecmp (ecall1 (evv rfl) isv) (ev_k ..) (by rw [cmp_isnB]; rfl))))))]
  have at_ := k01_at (k := k + 3) (S := S) b.1 b.2
  rw [at4_cd hx] at at_
  rw [evz_step (stasg (ρ1 := [some (.p (q4 x)), some (.p (.int (cd x))), some (.p (.int (cd x))), some (.p (q4 x)), none, none]) (ecall1 (evv rfl) at_) rfl)]
  have eq4 : cmpI .NotEq (.p (q4 x)) (.p (q4 x)) S = .ok (.p (.bl false)) S := by
    have := ne_of (S := S) (x := .p (q4 x)) (y := .p (q4 x)) (eqI_p (n := 1) (k := 1) (q4_nice x) (q4_nice x) (by decide))
    rw [this, decide_eq_true rfl]; rfl
  rw [evz_step (stif0 (eor0 (enot (b := true) (ecall1 (evv rfl) (k01_lisv (k := k + 4) x))) (ebo1 (ecmp (evv rfl) (evv rfl) eq4))))]
  rw [evz_step (stasg (ρ1 := [some (.p (q4 x)), some (.p (.int (cd x))), some (.p (.int (cd x))), some (.p (q4 x)), some (.p (.bl (decide (x.2.2.2 = 999)))), none]) (ecall1 (evv rfl) (k01_final (k := k + 5) x)) rfl)]
  rw [evz_step (stif0 (eor0 (enot (b := true) (eisi (evv rfl) rfl rfl)) (ebo1 (ecmp (evv rfl) (ecmp (ix 3 rfl) (ev_k ..) (eq_int ..)) (by rw [ne_bl, beq_self_eq_true]; rfl)))))]
  rw [evz_step (stasg (ρ1 := [some (.p (q4 x)), some (.p (.int (cd x))), some (.p (.int (cd x))), some (.p (q4 x)), some (.p (.bl (decide (x.2.2.2 = 999)))), some (.p (.str (vtx x)))]) (ecall1 (evv rfl) (k01_vtext (k := k + 5) hx)) rfl)]
  rw [evz_step (stif0 (eor0 (enot (b := true) (eisi (evv rfl) rfl rfl)) (ebo1 (ecmp (evv rfl) (ecall1 (evv rfl) (k01_ltext (k := k + 5) hx)) (by rw [ne_str, decide_eq_true rfl]; rfl)))))]
  have hp := k01_parsed (k := k) (S := S) hn (vtx x)
  rw [parse_vtx hx] at hp
  refine evz_end (stret (ecall2 (ecall1 (evv rfl) hp) ?_ (k01_same_read (k := k + 3) x)))
  rw [ev_tp, es1 (ev_k ..) (es1 (evv rfl) es0)]
  rfl
end
end PH

set_option maxHeartbeats 16000000
namespace PH
open L2 PySem PySem.Spec PyProof.Rows
abbrev lBody : Cz := (.cons (.asg (.nm 6) (.call 21 (.cons (.v 3) (.cons (.v 1) (.cons (.bin .Add (.k (.int 20)) (.bin .Mult (.k (.int 3)) (.v 5))) (.cons (.slH (.v 2) (.bin .Mod (.blt .int (.cons (.ix (.v 1) (.k (.int 29))) .nil)) (.k (.int 17)))) .nil))))))
    (.cons (.ite (.no (.call 19 (.cons (.call 18 (.cons (.v 6) .nil)) (.cons (.call 17 (.cons (.v 6) .nil)) .nil)))) (.cons (.ret (.k (.bl false)))
      .nil) .nil)
    .nil))
theorem k01_true (ns : List Int) (hl : ns.length ≤ 63) : ∃ S', callI (dfs k01_ents) (glOf k01_gl) 20 25 [.ref 0] [.fz (ns.map .int)] = .ok (.p (.bl true)) S' := by
  refine ends_call (e := k01_E_law) rfl rfl ?_
  show Ends ⟨k01C 19, glOf k01_gl⟩ k01_law.body [some (.ref 0), none, none, none, none, none, none] [.fz (ns.map .int)]
  unfold k01_law
  obtain ⟨row, lr, Lr, hrow⟩ := numbers_call (ents := k01_ents) (gl := glOf k01_gl) (j := 18) (f := 8) (n := 0) (S := [.fz (ns.map .int)]) (ns := ns) (k := 0) (c := 32) rfl rfl rfl (by decide) (by decide) (by decide)
  simp only [List.length_cons, List.length_nil, List.cons_append, List.nil_append] at hrow
  have lr : row.length = 32 := lr
  refine ends_step (stasg (ρ1 := [some (.ref 0), some (.ref 1), none, none, none, none, none]) (ecall3 (evv rfl) (ev_k ..) (ev_k ..) hrow) rfl) ?_
  obtain ⟨more, lm, Lm, hmore⟩ := numbers_call (ents := k01_ents) (gl := glOf k01_gl) (j := 18) (f := 8) (n := 0) (S := [.fz (ns.map .int), .pl (row.map .int)]) (ns := ns) (k := 1) (c := 16) rfl rfl rfl (by decide) (by decide) (by decide)
  simp only [List.length_cons, List.length_nil, List.cons_append, List.nil_append] at hmore
  have lm : more.length = 16 := lm
  refine ends_step (stasg (ρ1 := [some (.ref 0), some (.ref 1), some (.ref 2), none, none, none, none]) (ecall3 (evv rfl) (ev_k ..) (ev_k ..) hmore) rfl) ?_
  generalize hS : ([.fz (ns.map .int), .pl (row.map .int), .pl (more.map .int)] : Sto) = S
  have hd : dataOf (.ref 1) S = some (row.map .int) := by rw [← hS]; rfl
  have hq : S[2]? = some (.pl (more.map .int)) := by rw [← hS]; rfl
  have hlen : S.length = 3 := by rw [← hS]; rfl
  have r : ∀ (l : Sto) (i : Int), 0 ≤ i → i < 32 → ixI (.ref 1) (.p (.int i)) (S ++ l) = .ok (.p (.int row[i.toNat]!)) (S ++ l) := fun l i h0 h1 => ix_int (data_app hd l) h0 (by rw [lr]; exact h1)
  have r' : ∀ (i : Int), 0 ≤ i → i < 32 → ixI (.ref 1) (.p (.int i)) S = .ok (.p (.int row[i.toNat]!)) S := fun i h0 h1 => ix_int hd h0 (by rw [lr]; exact h1)
  have low : ∀ (i : Nat), i < 32 → 0 ≤ row[i]! ∧ row[i]! < 1000000 := fun i h => Lr.at (by rw [lr]; exact h)
  -- the versions
  obtain ⟨x, hx, dx⟩ := k01_drawn (k := 17) (S := S) (n := 1) hd 0 (by omega)
  obtain ⟨y, hy, dy⟩ := k01_drawn (k := 17) (S := S) (n := 1) hd 8 (by omega)
  refine ends_step (stasg (ρ1 := [some (.ref 0), some (.ref 1), some (.ref 2), some (.p (q4 x)), none, none, none]) (ecall2 (evv rfl) (ev_k ..) dx) rfl) ?_
  refine ends_step (stasg (ρ1 := [some (.ref 0), some (.ref 1), some (.ref 2), some (.p (q4 x)), some (.p (q4 y)), none, none]) (ecall2 (evv rfl) (ev_k ..) dy) rfl) ?_
  let ρ (a b : Option D) : Nv := [some (.ref 0), some (.ref 1), some (.ref 2), some (.p (q4 x)), some (.p (q4 y)), a, b]
  show Ends _ _ (ρ none none) S
  have g2 : ∀ {ρ : Nv}, evE ⟨k01C 19, glOf k01_gl⟩ (.g 2) ρ S = .ok (.p (.int 1000000000000)) S := fun {ρ} => by rw [ev_g]; rfl
  have g1 : ∀ {ρ : Nv}, evE ⟨k01C 19, glOf k01_gl⟩ (.g 1) ρ S = .ok (.p (.int 999)) S := fun {ρ} => by rw [ev_g]; rfl
  have p12 : ∀ {ρ : Nv}, evE ⟨k01C 19, glOf k01_gl⟩ (.bin .Pow (.k (.int 10)) (.k (.int 12))) ρ S = .ok (.p (.int 1000000000000)) S := fun {ρ} => ebin (ev_k ..) (ev_k ..) (by rw [bin_pow (by decide)]; rfl)
  refine ends_step (stif0 (eor0 (ecmp g2 p12 (by rw [ne_int, decide_eq_true rfl]; rfl)) (ebo1 (ecmp g1 (ev_k ..) (by rw [ne_int, decide_eq_true rfl]; rfl))))) ?_
  have hn : S.length < 2 ^ 60 := by rw [hlen]; decide
  refine ends_step (stif0 (eor0 (enot (b := true) (ecall1 (evv rfl) (k01_holds (k := 12) hn hx))) (ebo1 (enot (b := true) (ecall1 (evv rfl) (k01_holds (k := 12) hn hy)))))) ?_
  have lt1 := q4_cmp_lt (S := S) hx hy
  refine ends_step (stif0 (ecmp (ecmp (ecall1 (evv rfl) (k01_code (k := 18) x)) (ecall1 (evv rfl) (k01_code (k := 18) y)) (cmp_lt ..)) (ecmp (evv rfl) (evv rfl) lt1) (by rw [ne_bl, beq_self_eq_true]; rfl))) ?_
  -- near a version
  obtain ⟨d, l, l4, nr, nb⟩ := k01_near (k := 17) (S := S) hx row[(16 : Int).toNat]! row[(17 : Int).toNat]! (low 16 (by decide)).1
  have isn : cmpI .IsNot (.p (.bl false)) (.p (.bl false)) (S ++ l) = .ok (.p (.bl false)) (S ++ l) := by rw [cmp_isnB]; rfl
  refine ends_step (stif0 (ecmp (ecall1 (ecall3 (evv rfl) (eix (evv rfl) (ev_k ..) (r' 16 (by decide) (by decide))) (eix (evv rfl) (ev_k ..) (r' 17 (by decide) (by decide))) nr) (nb 16)) (ev_k ..) isn)) ?_
  refine ends_step (stif0 (enot (b := true) (ecall2 (eix (evv rfl) (ev_k ..) (r l 18 (by decide) (by decide))) (eix (evv rfl) (ev_k ..) (r l 19 (by decide) (by decide))) (k01_nocode (k := 15) (low 18 (by decide)).1 (low 18 (by decide)).2)))) ?_
  -- the texts
  have hd' : ∀ l, dataOf (.ref 1) (S ++ l) = some (row.map .int) := data_app hd
  have b17 := md (x := row[(29 : Int).toNat]!) (m := 17) (by decide)
  have hq' : ∀ l, (S ++ l)[2]? = some (.pl (more.map .int)) := fun l => pre_get hq
  have bdy : ∀ (l : Sto) (j : Nat) (a b : Option D), j < 3 → (S ++ l).length < 2 ^ 59 → ∃ l' b', l'.length = l.length + 1 ∧ evCz ⟨k01C 19, glOf k01_gl⟩ lBody (ρ (some (.p (.int (j : Int)))) b) (S ++ l) = .nx (ρ (some (.p (.int (j : Int)))) b') (S ++ l') := fun l j a b hj hsz => by
    have sl : evE ⟨k01C 19, glOf k01_gl⟩ (.slH (.v 2) (.bin .Mod (.blt .int (.cons (.ix (.v 1) (.k (.int 29))) .nil)) (.k (.int 17)))) (ρ (some (.p (.int (j : Int)))) b) (S ++ l) = .ok (.ref (S ++ l).length) (S ++ l ++ [.pl ((cut more none (some (row[(29 : Int).toNat]! % 17))).map .int)]) := by
      rw [ev_slH, evv rfl, Res.bind_ok', ebin (eblt1 (eix (evv rfl) (ev_k ..) (r l 29 (by decide) (by decide))) iint) (ev_k ..) (bin_mod (by decide)), Res.bind_ok', asInt_int, sl_ref (hq' l), cut_map]
    have cl := cut_len more none (some (row[(29 : Int).toNat]! % 17))
    generalize cut more none (some (row[(29 : Int).toNat]! % 17)) = mo at sl cl
    rw [List.append_assoc] at sl
    obtain ⟨t, ht, hsp⟩ := k01_spoilt_ok (k := 17) (S := S ++ (l ++ [.pl (mo.map .int)])) (n := 1) (q := (S ++ l).length) hx (hd' _) (by rw [← List.append_assoc]; exact ob_at ..) (more := mo) (20 + 3 * j) (by omega) (by omega)
    have e20 : ∀ S, binI .Add (.p (.int 20)) (.p (.int (3 * (j : Int)))) S = .ok (.p (.int ((20 + 3 * j : Nat) : Int))) S := fun S => by
      rw [bin_add]; congr 3
    have args : evE ⟨k01C 19, glOf k01_gl⟩ (.call 21 (.cons (.v 3) (.cons (.v 1) (.cons (.bin .Add (.k (.int 20)) (.bin .Mult (.k (.int 3)) (.v 5))) (.cons (.slH (.v 2) (.bin .Mod (.blt .int (.cons (.ix (.v 1) (.k (.int 29))) .nil)) (.k (.int 17)))) .nil))))) (ρ (some (.p (.int (j : Int)))) b) (S ++ l) = .ok (.p (.str t)) (S ++ (l ++ [.pl (mo.map .int)])) :=
      ecall (es1 (evv rfl) (es1 (evv rfl) (es1 (ebin (ev_k ..) (ebin (ev_k ..) (evv rfl) (bin_mulL _ (by decide))) (e20 _)) (es1 sl es0)))) hsp
    refine ⟨l ++ [.pl (mo.map .int)], some (.p (.str t)), by simp, ?_⟩
    rw [evz_step (stasg (ρ1 := ρ (some (.p (.int (j : Int)))) (some (.p (.str t)))) args rfl)]
    have ask := k01_asked (k := 13) (S := S ++ (l ++ [.pl (mo.map .int)])) (by rw [← List.append_assoc, List.length_append]; simp only [List.length_singleton]; omega) (t := t) (by omega) (M := ⟨k01C 19, glOf k01_gl⟩) rfl (ρ := ρ (some (.p (.int (j : Int)))) (some (.p (.str t)))) (i := 6) rfl
    rw [evz_step (stif0 (enot ask)), evz_nil]
  generalize hw : Wk.mk (rgS 0 1 3) none = w
  have hst : ∀ S, w.still S = true := fun S => by rw [← hw]; rfl
  have fl : ∃ ρ' S', forI w (.nm 5) (evCz ⟨k01C 19, glOf k01_gl⟩ lBody) (rgS 0 1 3) (ρ none none) (S ++ l) = .nx ρ' S' := by
    rw [rgS01]
    obtain ⟨ρ', S', e, _⟩ := forI_list (w := w) (tg := .nm 5) (body := evCz ⟨k01C 19, glOf k01_gl⟩ lBody) (ρ := ρ none none) (S := S ++ l) (fun j : Nat => D.p (.int (j : Int))) (List.range 3)
      (fun qs ρ' S' => ∃ l' a b, S' = S ++ l' ∧ l'.length = l.length + qs.length ∧ ρ' = ρ a b) (fun ps z qs ρ' S' e ⟨l', a, b, h1, h2, h3⟩ => by
        subst h1 h3
        have hz : z < 3 := by have : z ∈ List.range 3 := by rw [e]; simp
                              simpa using this
        have hps : ps.length ≤ 3 := by have := congrArg List.length e; simp at this; omega
        obtain ⟨l2, b2, g1, g2⟩ := bdy l' z a b hz (by rw [List.length_append, hlen, h2]; omega)
        exact ⟨hst _, _, rfl, _, _, .inl g2, l2, _, b2, rfl, by rw [g1, h2, List.length_append]; simp; omega, rfl⟩) (fun _ _ _ => hst _) ⟨l, none, none, rfl, by simp, rfl⟩
    exact ⟨ρ', S', e⟩
  obtain ⟨ρ', S', e⟩ := fl
  subst hw
  refine ends_step (stfor (rg1_nat (n := 3) (ev_k ..) (by decide)) e) ?_
  exact ends_ret (stret (ev_k ..))
end PH

namespace PH
open L2 PySem PySem.Spec PyProof.Rows
theorem k01_B : AllE EntB k01_ents := ⟨fun _ _ _ _ _ _ us hl => (match us, hl with | [_], _ => rfl), fun _ _ _ _ _ _ us hl => (match us, hl with | [_, _, _], _ => rfl), fun _ _ _ _ _ _ us hl => (match us, hl with | [_], _ => rfl), fun _ _ _ _ _ _ us hl => (match us, hl with | [_], _ => rfl), fun _ _ _ _ _ _ us hl => (match us, hl with | [_], _ => rfl), fun _ _ _ _ _ _ us hl => (match us, hl with | [_], _ => rfl), fun _ _ _ _ _ _ us hl => (match us, hl with | [_], _ => rfl), fun _ _ _ _ _ _ us hl => (match us, hl with | [_], _ => rfl), fun _ _ _ _ _ _ us hl => (match us, hl with | [_, _, _], _ => rfl), fun _ _ _ _ _ _ us hl => (match us, hl with | [_], _ => rfl), fun _ _ _ _ _ _ us hl => (match us, hl with | [_], _ => rfl), fun _ _ _ _ _ _ us hl => (match us, hl with | [_, _], _ => rfl), fun _ _ _ _ _ _ us hl => (match us, hl with | [_, _], _ => rfl), fun _ _ _ _ _ _ us hl => (match us, hl with | [_], _ => rfl), fun _ _ _ _ _ _ us hl => (match us, hl with | [_, _], _ => rfl), fun _ _ _ _ _ _ us hl => (match us, hl with | [_], _ => rfl), fun _ _ _ _ _ _ us hl => (match us, hl with | [_], _ => rfl), fun _ _ _ _ _ _ us hl => (match us, hl with | [_], _ => rfl), fun _ _ _ _ _ _ us hl => (match us, hl with | [_], _ => rfl), fun _ _ _ _ _ _ us hl => (match us, hl with | [_, _], _ => rfl), fun _ _ _ _ _ _ us hl => (match us, hl with | [_], _ => rfl), fun _ _ _ _ _ _ us hl => (match us, hl with | [_, _, _, _], _ => rfl), fun _ _ _ _ _ _ us hl => (match us, hl with | [_, _, _], _ => rfl), fun _ _ _ _ _ _ us hl => (match us, hl with | [_, _], _ => rfl), fun _ _ _ _ _ _ us hl => (match us, hl with | [_], _ => rfl), fun _ _ _ _ _ _ us hl => (match us, hl with | [_], _ => rfl), fun _ _ _ _ _ _ us hl => (match us, hl with | [_, _, _], _ => rfl), fun _ _ _ _ _ _ us hl => (match us, hl with | [_], _ => rfl), fun _ _ _ _ _ _ us hl => (match us, hl with | [_, _], _ => rfl), fun _ _ _ _ _ _ us hl => (match us, hl with | [_, _], _ => rfl), fun _ _ _ _ _ _ us hl => (match us, hl with | [_], _ => rfl), fun _ _ _ _ _ _ us hl => (match us, hl with | [_, _], _ => rfl), True.intro⟩
theorem k01_chk : k01_ents.all (Ent.chk ⟨k01_ents.map Ent.top, k01_gl.map (·.1), k01_cl, k01_gd, k01_oc, false⟩) = true := by decide +kernel
theorem k01_occ : ocChk k01_ents k01_oc = true := by decide +kernel
end PH
open PySem.W PySem PyProof.Rows
set_option maxHeartbeats 0 in
theorem PySem.Challenge.cw_pinharbor_k01_version_text_holds : PySem.Challenge.rw_pinharbor_k01_version_text.Holds := by
  w_on; o_law; k_head; (case hw => w_witness2)
  k_fill
  refine L2.walk_of (l := PySem.Challenge.rw_pinharbor_k01_version_text) (n := 63) (k := 2 * 20 + 2) (x := "script") (CX := fun w => L2.CX PySem.Challenge.rw_pinharbor_k01_version_text.prog w) (sp := fun w vs H Q E => ∀ cA, PH.spI cA _ 1 (PH.callI (PH.dfs PH.k01_ents) (PH.glOf PH.k01_gl) 20 25) vs H Q E) rfl (by decide) rfl ⟨rfl, by decide, by decide⟩ (fun w h Y => PySem.W.kIn_of Y) ?F (fun w H a ns hl hO hS cA => PH.fin_sp hO hS (PH.k01_true ns hl)) (fun _ _ _ _ _ h => PH.hCX_of h)
  case F =>
    intro w mg fa h KX G hmg
    refine' PH.attach 20 25 PH.k01_E_law PH.k01_cl PH.k01_gd PH.k01_oc (PH.caOf [(1000, ?cc0), (0, ?cc1), (1, ?cc2), (2, ?cc3), (3, ?cc4), (4, ?cc5), (5, ?cc6), (6, ?cc7), (7, ?cc8), (8, ?cc9), (9, ?cc10), (10, ?cc11), (11, ?cc12)]) KX G ⟨PH.ent_in rfl ?a0 ?b0 ?c0 ?d0, PH.ent_in rfl ?a1 ?b1 ?c1 ?d1, PH.ent_in rfl ?a2 ?b2 ?c2 ?d2, PH.ent_in rfl ?a3 ?b3 ?c3 ?d3, PH.ent_in rfl ?a4 ?b4 ?c4 ?d4, PH.ent_in rfl ?a5 ?b5 ?c5 ?d5, PH.ent_in rfl ?a6 ?b6 ?c6 ?d6, PH.ent_in rfl ?a7 ?b7 ?c7 ?d7, PH.ent_in rfl ?a8 ?b8 ?c8 ?d8, PH.ent_in rfl ?a9 ?b9 ?c9 ?d9, PH.ent_in rfl ?a10 ?b10 ?c10 ?d10, PH.ent_in rfl ?a11 ?b11 ?c11 ?d11, PH.ent_in rfl ?a12 ?b12 ?c12 ?d12, PH.ent_in rfl ?a13 ?b13 ?c13 ?d13, PH.ent_in rfl ?a14 ?b14 ?c14 ?d14, PH.ent_in rfl ?a15 ?b15 ?c15 ?d15, PH.ent_in rfl ?a16 ?b16 ?c16 ?d16, PH.ent_in rfl ?a17 ?b17 ?c17 ?d17, PH.ent_in rfl ?a18 ?b18 ?c18 ?d18, PH.ent_in rfl ?a19 ?b19 ?c19 ?d19, PH.ent_in rfl ?a20 ?b20 ?c20 ?d20, PH.ent_in rfl ?a21 ?b21 ?c21 ?d21, PH.ent_in rfl ?a22 ?b22 ?c22 ?d22, PH.ent_in rfl ?a23 ?b23 ?c23 ?d23, PH.ent_in rfl ?a24 ?b24 ?c24 ?d24, PH.ent_in rfl ?a25 ?b25 ?c25 ?d25, PH.ent_inM (by decide) ?am26 ?a26 ?b26 ?c26 ?d26 ?e26, PH.ent_inM (by decide) ?am27 ?a27 ?b27 ?c27 ?d27 ?e27, PH.ent_inM (by decide) ?am28 ?a28 ?b28 ?c28 ?d28 ?e28, PH.ent_inM (by decide) ?am29 ?a29 ?b29 ?c29 ?d29 ?e29, PH.ent_inM (by decide) ?am30 ?a30 ?b30 ?c30 ?d30 ?e30, PH.ent_inM (by decide) ?am31 ?a31 ?b31 ?c31 ?d31 ?e31, True.intro⟩ PH.k01_B ⟨?z0, ?z1, ?z2, ?z3, ?z4, ?z5, ?z6, ?z7, ?z8, ?z9, ?z10, ?z11, ?z12, ?z13, ?z14, ?z15, ?z16, ?z17, True.intro⟩ ⟨PH.gl_str ?cg0 (by decide +kernel) (by decide +kernel), PH.gl_int ?cg1, PH.gl_int ?cg2, True.intro⟩ True.intro ⟨PH.cls_top (by decide) ?ca0 ?cb0, PH.cls_in (m := 3) ?ca1 ?cb1 ?cd1 ?ce1 ?cf1 ?ck1 ?cl1 rfl ?cm1, PH.cls_in (m := 2) ?ca2 ?cb2 ?cd2 ?ce2 ?cf2 ?ck2 ?cl2 rfl ?cm2, PH.cls_in (m := 2) ?ca3 ?cb3 ?cd3 ?ce3 ?cf3 ?ck3 ?cl3 rfl ?cm3, PH.cls_in (m := 3) ?ca4 ?cb4 ?cd4 ?ce4 ?cf4 ?ck4 ?cl4 rfl ?cm4, PH.cls_in (m := 3) ?ca5 ?cb5 ?cd5 ?ce5 ?cf5 ?ck5 ?cl5 rfl ?cm5, PH.cls_in (m := 2) ?ca6 ?cb6 ?cd6 ?ce6 ?cf6 ?ck6 ?cl6 rfl ?cm6, PH.cls_in (m := 2) ?ca7 ?cb7 ?cd7 ?ce7 ?cf7 ?ck7 ?cl7 rfl ?cm7, PH.cls_in (m := 3) ?ca8 ?cb8 ?cd8 ?ce8 ?cf8 ?ck8 ?cl8 rfl ?cm8, PH.cls_in (m := 2) ?ca9 ?cb9 ?cd9 ?ce9 ?cf9 ?ck9 ?cl9 rfl ?cm9, PH.cls_in (m := 2) ?ca10 ?cb10 ?cd10 ?ce10 ?cf10 ?ck10 ?cl10 rfl ?cm10, PH.cls_in (m := 2) ?ca11 ?cb11 ?cd11 ?ce11 ?cf11 ?ck11 ?cl11 rfl ?cm11, PH.cls_in (m := 2) ?ca12 ?cb12 ?cd12 ?ce12 ?cf12 ?ck12 ?cl12 rfl ?cm12, True.intro⟩ ⟨PH.ocs_in ?oa0 ?ob0, True.intro⟩ PH.k01_occ PH.k01_chk rfl rfl rfl hmg
    (case a0 => k_is); (case b0 => k_is); (case c0 => k_is); (case d0 => k_is)
    (case a1 => k_is); (case b1 => k_is); (case c1 => k_is); (case d1 => k_is)
    (case a2 => k_is); (case b2 => k_is); (case c2 => k_is); (case d2 => k_is)
    (case a3 => k_is); (case b3 => k_is); (case c3 => k_is); (case d3 => k_is)
    (case a4 => k_is); (case b4 => k_is); (case c4 => k_is); (case d4 => k_is)
    (case a5 => k_is); (case b5 => k_is); (case c5 => k_is); (case d5 => k_is)
    (case a6 => k_is); (case b6 => k_is); (case c6 => k_is); (case d6 => k_is)
    (case a7 => k_is); (case b7 => k_is); (case c7 => k_is); (case d7 => k_is)
    (case a8 => k_is); (case b8 => k_is); (case c8 => k_is); (case d8 => k_is)
    (case a9 => k_is); (case b9 => k_is); (case c9 => k_is); (case d9 => k_is)
    (case a10 => k_is); (case b10 => k_is); (case c10 => k_is); (case d10 => k_is)
    (case a11 => k_is); (case b11 => k_is); (case c11 => k_is); (case d11 => k_is)
    (case a12 => k_is); (case b12 => k_is); (case c12 => k_is); (case d12 => k_is)
    (case a13 => k_is); (case b13 => k_is); (case c13 => k_is); (case d13 => k_is)
    (case a14 => k_is); (case b14 => k_is); (case c14 => k_is); (case d14 => k_is)
    (case a15 => k_is); (case b15 => k_is); (case c15 => k_is); (case d15 => k_is)
    (case a16 => k_is); (case b16 => k_is); (case c16 => k_is); (case d16 => k_is)
    (case a17 => k_is); (case b17 => k_is); (case c17 => k_is); (case d17 => k_is)
    (case a18 => k_is); (case b18 => k_is); (case c18 => k_is); (case d18 => k_is)
    (case a19 => k_is); (case b19 => k_is); (case c19 => k_is); (case d19 => k_is)
    (case a20 => k_is); (case b20 => k_is); (case c20 => k_is); (case d20 => k_is)
    (case a21 => k_is); (case b21 => k_is); (case c21 => k_is); (case d21 => k_is)
    (case a22 => k_is); (case b22 => k_is); (case c22 => k_is); (case d22 => k_is)
    (case a23 => k_is); (case b23 => k_is); (case c23 => k_is); (case d23 => k_is)
    (case a24 => k_is); (case b24 => k_is); (case c24 => k_is); (case d24 => k_is)
    (case a25 => k_is); (case b25 => k_is); (case c25 => k_is); (case d25 => k_is)
    (case am26 => k_is); (case a26 => k_is); (case b26 => k_is); (case c26 => k_is); (case d26 => k_is); (case e26 => kernel_rfl)
    (case am27 => k_is); (case a27 => k_is); (case b27 => k_is); (case c27 => k_is); (case d27 => k_is); (case e27 => kernel_rfl)
    (case am28 => k_is); (case a28 => k_is); (case b28 => k_is); (case c28 => k_is); (case d28 => k_is); (case e28 => kernel_rfl)
    (case am29 => k_is); (case a29 => k_is); (case b29 => k_is); (case c29 => k_is); (case d29 => k_is); (case e29 => kernel_rfl)
    (case am30 => k_is); (case a30 => k_is); (case b30 => k_is); (case c30 => k_is); (case d30 => k_is); (case e30 => kernel_rfl)
    (case am31 => k_is); (case a31 => k_is); (case b31 => k_is); (case c31 => k_is); (case d31 => k_is); (case e31 => kernel_rfl)
    (case oa0 => k_is); (case ob0 => kernel_rfl)
    (case cg0 => k_is)
    (case cg1 => k_is)
    (case cg2 => k_is)
    (case z0 => k_is); (case z1 => k_is); (case z2 => k_is); (case z3 => k_is); (case z4 => k_is); (case z5 => k_is); (case z6 => k_is); (case z7 => k_is); (case z8 => k_is); (case z9 => k_is); (case z10 => k_is); (case z11 => k_is); (case z12 => k_is); (case z13 => k_is); (case z14 => k_is); (case z15 => k_is); (case z16 => k_is); (case z17 => k_is)
    (case cb0 => k_is)
    (case cb1 => k_is); (case cd1 => k_is); (case ce1 => k_is); (case cf1 => k_is); (case ck1 => k_is)
    (case cb2 => k_is); (case cd2 => k_is); (case ce2 => k_is); (case cf2 => k_is); (case ck2 => k_is)
    (case cb3 => k_is); (case cd3 => k_is); (case ce3 => k_is); (case cf3 => k_is); (case ck3 => k_is)
    (case cb4 => k_is); (case cd4 => k_is); (case ce4 => k_is); (case cf4 => k_is); (case ck4 => k_is)
    (case cb5 => k_is); (case cd5 => k_is); (case ce5 => k_is); (case cf5 => k_is); (case ck5 => k_is)
    (case cb6 => k_is); (case cd6 => k_is); (case ce6 => k_is); (case cf6 => k_is); (case ck6 => k_is)
    (case cb7 => k_is); (case cd7 => k_is); (case ce7 => k_is); (case cf7 => k_is); (case ck7 => k_is)
    (case cb8 => k_is); (case cd8 => k_is); (case ce8 => k_is); (case cf8 => k_is); (case ck8 => k_is)
    (case cb9 => k_is); (case cd9 => k_is); (case ce9 => k_is); (case cf9 => k_is); (case ck9 => k_is)
    (case cb10 => k_is); (case cd10 => k_is); (case ce10 => k_is); (case cf10 => k_is); (case ck10 => k_is)
    (case cb11 => k_is); (case cd11 => k_is); (case ce11 => k_is); (case cf11 => k_is); (case ck11 => k_is)
    (case cb12 => k_is); (case cd12 => k_is); (case ce12 => k_is); (case cf12 => k_is); (case ck12 => k_is)
    (case ca0 => rfl)
    (case ca1 => rfl)
    (case cl1 => kernel_rfl); (case cm1 => exact fun us hl => (match us, hl with | [_, _, _], _ => rfl))
    (case ca2 => rfl)
    (case cl2 => kernel_rfl); (case cm2 => exact fun us hl => (match us, hl with | [_, _], _ => rfl))
    (case ca3 => rfl)
    (case cl3 => kernel_rfl); (case cm3 => exact fun us hl => (match us, hl with | [_, _], _ => rfl))
    (case ca4 => rfl)
    (case cl4 => kernel_rfl); (case cm4 => exact fun us hl => (match us, hl with | [_, _, _], _ => rfl))
    (case ca5 => rfl)
    (case cl5 => kernel_rfl); (case cm5 => exact fun us hl => (match us, hl with | [_, _, _], _ => rfl))
    (case ca6 => rfl)
    (case cl6 => kernel_rfl); (case cm6 => exact fun us hl => (match us, hl with | [_, _], _ => rfl))
    (case ca7 => rfl)
    (case cl7 => kernel_rfl); (case cm7 => exact fun us hl => (match us, hl with | [_, _], _ => rfl))
    (case ca8 => rfl)
    (case cl8 => kernel_rfl); (case cm8 => exact fun us hl => (match us, hl with | [_, _, _], _ => rfl))
    (case ca9 => rfl)
    (case cl9 => kernel_rfl); (case cm9 => exact fun us hl => (match us, hl with | [_, _], _ => rfl))
    (case ca10 => rfl)
    (case cl10 => kernel_rfl); (case cm10 => exact fun us hl => (match us, hl with | [_, _], _ => rfl))
    (case ca11 => rfl)
    (case cl11 => kernel_rfl); (case cm11 => exact fun us hl => (match us, hl with | [_, _], _ => rfl))
    (case ca12 => rfl)
    (case cl12 => kernel_rfl); (case cm12 => exact fun us hl => (match us, hl with | [_, _], _ => rfl))
